import PyProof.Rows.All
import Wide.All
import OpenK.AllK
import Wide.FinOn
import KE.KDictSum
import Lean
import PySem.Challenge.RW_pc0225_01
open PySem PyProof.Rows
set_option Elab.async false
set_option autoImplicit false
set_option linter.unusedVariables false
set_option maxRecDepth 100000
set_option compiler.extract_closed false
namespace Mine
structure A4 (p0 p1 p2 p3 : Prop) : Prop where
  f0 : p0
  f1 : p1
  f2 : p2
  f3 : p3
structure A5 (p0 p1 p2 p3 p4 : Prop) : Prop where
  f0 : p0
  f1 : p1
  f2 : p2
  f3 : p3
  f4 : p4
structure A6 (p0 p1 p2 p3 p4 p5 : Prop) : Prop where
  f0 : p0
  f1 : p1
  f2 : p2
  f3 : p3
  f4 : p4
  f5 : p5
structure A8 (p0 p1 p2 p3 p4 p5 p6 p7 : Prop) : Prop where
  f0 : p0
  f1 : p1
  f2 : p2
  f3 : p3
  f4 : p4
  f5 : p5
  f6 : p6
  f7 : p7
structure A9 (p0 p1 p2 p3 p4 p5 p6 p7 p8 : Prop) : Prop where
  f0 : p0
  f1 : p1
  f2 : p2
  f3 : p3
  f4 : p4
  f5 : p5
  f6 : p6
  f7 : p7
  f8 : p8
structure A15 (p0 p1 p2 p3 p4 p5 p6 p7 p8 p9 p10 p11 p12 p13 p14 : Prop) : Prop where
  f0 : p0
  f1 : p1
  f2 : p2
  f3 : p3
  f4 : p4
  f5 : p5
  f6 : p6
  f7 : p7
  f8 : p8
  f9 : p9
  f10 : p10
  f11 : p11
  f12 : p12
  f13 : p13
  f14 : p14
noncomputable def gallop' : Bool → PyProof.Rows.Keyed → Array PyProof.Rows.Keyed → Nat → Nat → Nat → StateT SortSt Sem (Option Nat) := sortPriv% PySem.Builtin.gallop
noncomputable def mergeLo' : Array PyProof.Rows.Keyed → Array PyProof.Rows.Keyed → StateT SortSt Sem (Array PyProof.Rows.Keyed) := sortPriv% PySem.Builtin.mergeLo
noncomputable def mergeHi' : Array PyProof.Rows.Keyed → Array PyProof.Rows.Keyed → StateT SortSt Sem (Array PyProof.Rows.Keyed) := sortPriv% PySem.Builtin.mergeHi
noncomputable def IntK (p : PyProof.Rows.Keyed) : Prop := ∃ n t, p.1 = .int n t
section
variable {prog : Program} {w : World} {A : Around} {E : Value → Shared → Prop} {s : Shared}
theorem wpS_elem {arr : Array PyProof.Rows.Keyed} {i : Nat} {Q : PyProof.Rows.Keyed → SortSt → Prop} {st : SortSt} (hi : i < arr.size) (h : ∀ p, arr[i]? = some p → p ∈ arr.toList → Q p st) : wpS (model prog w) A E s (elem' arr i) Q st := by
  rw [elem'_eq, getElem?_pos arr i hi]
  exact wpS_pure (h _ (getElem?_pos arr i hi) (by simp))
theorem wpS_lt {p q : PyProof.Rows.Keyed} {Q : Option Bool → SortSt → Prop} {st : SortSt} (hk : kindOf st = oneType') (hp : IntK p) (hq : IntK q) (h : ∀ b, Q (some b) st) : wpS (model prog w) A E s (lt' p q) Q st := by
  obtain ⟨a, t, e1⟩ := hp
  obtain ⟨b, u, e2⟩ := hq
  rw [lt'_eq]
  refine wpS_bind (wpS_get ?_)
  rw [hk, keyLt'_oneType, e1, e2]
  refine wpS_bind (wpS_lift (wpAny_attempt (oneLt_int ⟨rfl, ?_⟩)))
  exact wpS_pure (h _)
theorem wpS_gallop {left : Bool} {key : PyProof.Rows.Keyed} {arr : Array PyProof.Rows.Keyed} {base n hint : Nat} {Q : Option Nat → SortSt → Prop} {st : SortSt} (hk : kindOf st = oneType') (ik : IntK key) (ia : IntKeys arr) (hb : base + n ≤ arr.size) (hh : hint < n) (h : ∀ k, k ≤ n → Q (some k) st) : wpS (model prog w) A E s (gallop' left key arr base n hint) Q st := by
  have by_ : ∀ i, i < n → ∀ (Q : Option Bool → SortSt → Prop), (∀ b, Q (some b) st) → wpS (model prog w) A E s (elem' arr (base + i) >>= fun x => if left = true then lt' x key else lt' key x >>= fun r => pure (Option.map (fun x => !x) r)) Q st := by
    intro i hi Q hQ
    refine wpS_bind (wpS_elem (by (first | lia | omega)) fun x _ hx => ?_)
    split
    · exact wpS_lt hk (ia _ hx) ik hQ
    · exact wpS_bind (wpS_lt hk ik (ia _ hx) fun b => wpS_pure (hQ _))
  refine wpS_bind (by_ hint hh _ fun b => ?_)
  dsimp only
  cases b with
  | true =>
    simp only [if_true]
    refine wpS_bind (wpS_mono (wpS_forRange (I := fun _ c st' => st = st' ∧ ∃ l h, c = (none, l, h)) (Q := fun c st' => st = st' ∧ ∃ l h, c = (none, l, h)) ?_ (fun _ _ h => h) ⟨rfl, _, _, rfl⟩) ?_)
    · rintro x _ _ _ _ ⟨rfl, l, h, rfl⟩
      dsimp only
      by_cases c : h ≥ n - hint
      · rw [if_pos c]
        exact wpS_pure ⟨rfl, _, _, rfl⟩
      · rw [if_neg c]
        refine wpS_bind (by_ (hint + h) (by (first | lia | omega)) _ fun b => ?_)
        cases b
        · exact wpS_pure ⟨rfl, _, _, rfl⟩
        · exact wpS_pure ⟨rfl, _, _, rfl⟩
    · rintro _ _ ⟨rfl, l, h', rfl⟩
      dsimp only
      refine wpS_bind (wpS_mono (wpS_forRange (I := fun _ c st' => st = st' ∧ ∃ l h, c = (none, l, h) ∧ h ≤ n) (Q := fun c st' => st = st' ∧ ∃ l h, c = (none, l, h) ∧ h ≤ n) ?_ (fun _ _ h => h) ⟨rfl, _, _, rfl, by (first | lia | omega)⟩) ?_)
      · rintro x _ _ _ _ ⟨rfl, l, h, rfl, hn'⟩
        dsimp only
        by_cases c : l ≥ h
        · rw [if_pos c]
          exact wpS_pure ⟨rfl, _, _, rfl, hn'⟩
        · rw [if_neg c]
          refine wpS_bind (by_ (l + (h - l) / 2) (by (first | lia | omega)) _ fun b => ?_)
          cases b
          · exact wpS_pure ⟨rfl, _, _, rfl, by (first | lia | omega)⟩
          · exact wpS_pure ⟨rfl, _, _, rfl, by (first | lia | omega)⟩
      · rintro _ _ ⟨rfl, l, h', rfl, hn'⟩
        exact wpS_pure (h _ hn')
  | false =>
    simp only [Bool.false_eq_true, if_false]
    refine wpS_bind (wpS_mono (wpS_forRange (I := fun _ c st' => st = st' ∧ ∃ l h, c = (none, l, h)) (Q := fun c st' => st = st' ∧ ∃ l h, c = (none, l, h)) ?_ (fun _ _ h => h) ⟨rfl, _, _, rfl⟩) ?_)
    · rintro x _ _ _ _ ⟨rfl, l, h, rfl⟩
      dsimp only
      by_cases c : h ≥ hint + 1
      · rw [if_pos c]
        exact wpS_pure ⟨rfl, _, _, rfl⟩
      · rw [if_neg c]
        refine wpS_bind (by_ (hint - h) (by (first | lia | omega)) _ fun b => ?_)
        cases b
        · exact wpS_pure ⟨rfl, _, _, rfl⟩
        · exact wpS_pure ⟨rfl, _, _, rfl⟩
    · rintro _ _ ⟨rfl, l, h', rfl⟩
      dsimp only
      refine wpS_bind (wpS_mono (wpS_forRange (I := fun _ c st' => st = st' ∧ ∃ l h, c = (none, l, h) ∧ h ≤ n) (Q := fun c st' => st = st' ∧ ∃ l h, c = (none, l, h) ∧ h ≤ n) ?_ (fun _ _ h => h) ⟨rfl, _, _, rfl, by (first | lia | omega)⟩) ?_)
      · rintro x _ _ _ _ ⟨rfl, l, h, rfl, hn'⟩
        dsimp only
        by_cases c : l ≥ h
        · rw [if_pos c]
          exact wpS_pure ⟨rfl, _, _, rfl, hn'⟩
        · rw [if_neg c]
          refine wpS_bind (by_ (l + (h - l) / 2) (by (first | lia | omega)) _ fun b => ?_)
          cases b
          · exact wpS_pure ⟨rfl, _, _, rfl, by (first | lia | omega)⟩
          · exact wpS_pure ⟨rfl, _, _, rfl, by (first | lia | omega)⟩
      · rintro _ _ ⟨rfl, l, h', rfl, hn'⟩
        exact wpS_pure (h _ hn')
end
noncomputable def G (st st' : SortSt) : Prop := ∃ g, st' = SortSt.mk' (kindOf st) (arrOf st) (pendingOf st) g (failedOf st)
theorem G.refl (st : SortSt) : G st st := ⟨gallopOf st, rfl⟩
theorem G.set {st st' : SortSt} (g : G st st') (n : Nat) : G st (SortSt.mk' (kindOf st') (arrOf st') (pendingOf st') n (failedOf st')) := by
  obtain ⟨m, rfl⟩ := g
  exact ⟨n, rfl⟩
theorem G.trans {a b c : SortSt} (x : G a b) (y : G b c) : G a c := by
  obtain ⟨g, rfl⟩ := x
  obtain ⟨k, rfl⟩ := y
  exact ⟨k, rfl⟩
theorem G.kind {st st' : SortSt} (g : G st st') (h : kindOf st = oneType') : kindOf st' = oneType' := by obtain ⟨m, rfl⟩ := g; exact h
section
variable {α : Type}
noncomputable def LoP (a b out : Array α) (i j : Nat) : Prop := (out.toList ++ (a.toList.drop i ++ b.toList.drop j)).Perm (a.toList ++ b.toList)
variable {a b out : Array α} {i j : Nat}
theorem drop_at {l : List α} {i : Nat} {p : α} (h : l[i]? = some p) : l.drop i = p :: l.drop (i + 1) := by
  have hl := (List.getElem?_eq_some_iff.mp h).1
  rw [List.drop_eq_getElem_cons hl, (List.getElem?_eq_some_iff.mp h).2]
theorem LoP.pa {p : α} (e : a[i]? = some p) (h : LoP a b out i j) : LoP a b (out.push p) (i + 1) j := by
  unfold LoP at *
  rw [drop_at (by simpa using e)] at h
  simpa using h
theorem LoP.pb {p : α} (e : b[j]? = some p) (h : LoP a b out i j) : LoP a b (out.push p) i (j + 1) := by
  unfold LoP at *
  rw [drop_at (l := b.toList) (p := p) (by simpa using e)] at h
  refine List.Perm.trans ?_ h
  simp only [Array.toList_push, List.append_assoc, List.singleton_append]
  exact List.Perm.append_left _ List.perm_middle.symm
theorem LoP.ra {k : Nat} (h : LoP a b out i j) : LoP a b (out ++ a.extract i (i + k)) (i + k) j := by
  unfold LoP at *
  refine List.Perm.trans ?_ h
  rw [show a.toList.drop i = (a.toList.drop i).take k ++ a.toList.drop (i + k) by rw [← List.drop_drop, List.take_append_drop]]
  simp [List.extract_eq_take_drop]
theorem LoP.rb {k : Nat} (h : LoP a b out i j) : LoP a b (out ++ b.extract j (j + k)) i (j + k) := by
  unfold LoP at *
  refine List.Perm.trans ?_ h
  rw [show b.toList.drop j = (b.toList.drop j).take k ++ b.toList.drop (j + k) by rw [← List.drop_drop, List.take_append_drop]]
  simp only [Array.toList_append, Array.toList_extract, List.extract_eq_take_drop, List.append_assoc, Nat.add_sub_cancel_left]
  refine List.Perm.append_left _ ?_
  rw [← List.append_assoc, ← List.append_assoc]
  exact List.Perm.append_right _ List.perm_append_comm
theorem LoP.done (h : LoP a b out i j) : (out ++ a.extract i ++ b.extract j).Perm (a ++ b) := by
  rw [Array.perm_iff_toList_perm]
  unfold LoP at h
  simpa [List.extract_eq_take_drop, List.take_of_length_le] using h
theorem LoP.last (h : LoP a b out i j) : (out ++ b.extract j ++ a.extract i).Perm (a ++ b) := by
  rw [Array.perm_iff_toList_perm]
  unfold LoP at h
  refine List.Perm.trans ?_ (by simpa using h)
  simp only [Array.toList_append, Array.toList_extract, List.extract_eq_take_drop, List.append_assoc]
  refine List.Perm.append_left _ ?_
  refine List.perm_append_comm.trans ?_
  simp [List.take_of_length_le]
end
section
variable {prog : Program} {w : World} {A : Around} {E : Value → Shared → Prop} {s : Shared}
theorem wpS_use1 {M : Model} {σ β γ : Type} {Q : γ → σ → Prop} {st : σ} {t : StateT σ Sem γ} (jp : PUnit → β → StateT σ Sem γ) (hv : ∀ x, wpS M A E s (jp ⟨⟩ x) Q st) (hb : (∀ x, wpS M A E s (jp ⟨⟩ x) Q st) → wpS M A E s t Q st) : wpS M A E s t Q st := hb hv
theorem wpS_use2 {M : Model} {σ α β γ : Type} {Q : γ → σ → Prop} {st : σ} {t : StateT σ Sem γ} (jp : PUnit → α → β → StateT σ Sem γ) (C : α → β → Prop) (hv : ∀ x y, C x y → wpS M A E s (jp ⟨⟩ x y) Q st) (hb : (∀ x y, C x y → wpS M A E s (jp ⟨⟩ x y) Q st) → wpS M A E s t Q st) : wpS M A E s t Q st := hb hv
theorem wpS_useS {M : Model} {σ γ : Type} {Q : γ → σ → Prop} {st : σ} {t : StateT σ Sem γ} (jp : PUnit → StateT σ Sem γ) (C : σ → Prop) (hv : ∀ st, C st → wpS M A E s (jp ⟨⟩) Q st) (hb : (∀ st, C st → wpS M A E s (jp ⟨⟩) Q st) → wpS M A E s t Q st) : wpS M A E s t Q st := hb hv
theorem wpS_useB {M : Model} {σ β γ : Type} {Q : γ → σ → Prop} {st : σ} {t : StateT σ Sem γ} (jp : PUnit → β → StateT σ Sem γ) (C : β → σ → Prop) (hv : ∀ x st, C x st → wpS M A E s (jp ⟨⟩ x) Q st) (hb : (∀ x st, C x st → wpS M A E s (jp ⟨⟩ x) Q st) → wpS M A E s t Q st) : wpS M A E s t Q st := hb hv
theorem wpS_gen {M : Model} {σ γ : Type} {Q : γ → σ → Prop} {st : σ} {t : StateT σ Sem γ} (F : (γ → σ → Prop) → Prop) (hQ : F Q) (h : ∀ Q, F Q → wpS M A E s t Q st) : wpS M A E s t Q st := h Q hQ
theorem wpS_zeta {M : Model} {σ α γ : Type} {Q : γ → σ → Prop} {st : σ} {v : α} {body : α → StateT σ Sem γ} (h : wpS M A E s (body v) Q st) : wpS M A E s (have x := v; body x) Q st := h
theorem wpS_if {M : Model} {σ γ : Type} {Q : γ → σ → Prop} {st : σ} {c : Prop} [Decidable c] {t e : StateT σ Sem γ} (x : c → wpS M A E s t Q st) (y : ¬ c → wpS M A E s e Q st) : wpS M A E s (if c then t else e) Q st := by
  by_cases h : c
  · rw [if_pos h]; exact x h
  · rw [if_neg h]; exact y h
theorem wpS_eq {M : Model} {σ γ : Type} {Q : γ → σ → Prop} {st : σ} {i j : Nat} [Decidable ((i == j) = true)] {t e : StateT σ Sem γ} (x : i = j → wpS M A E s t Q st) (y : ¬ i = j → wpS M A E s e Q st) : wpS M A E s (if (i == j) = true then t else e) Q st := wpS_if (fun h => x (by simpa using h)) fun h => y (by simpa using h)
theorem wpS_mergeLo {a b : Array PyProof.Rows.Keyed} {Q : Array PyProof.Rows.Keyed → SortSt → Prop} {st : SortSt} (hk : kindOf st = oneType') (ia : IntKeys a) (ib : IntKeys b) (na : 1 ≤ a.size) (nb : 1 ≤ b.size) (h : ∀ out st', out.Perm (a ++ b) → G st st' → Q out st') : wpS (model prog w) A E s (mergeLo' a b) Q st := by
  refine wpS_bind (wpS_lift (wpAny_rule ⟨rfl, ?_⟩))
  refine wpS_bind (wpS_elem nb fun p0 e0 m0 => ?_)
  dsimp -zeta only
  have P0 : LoP a b #[p0] 0 1 := by
    have : LoP a b #[] 0 0 := by unfold LoP; simp
    exact this.pb e0
  refine wpS_eq (fun c1 => wpS_pure (h _ _ P0.done (.refl _))) fun c1 => ?_
  refine wpS_eq (fun c2 => wpS_pure (h _ _ P0.last (.refl _))) fun c2 => ?_
  refine wpS_bind (wpS_get ?_)
  refine wpS_bind (wpS_mono (wpS_forRange
    (I := fun x c st' => ∃ out i j g, A6 (c = (none, out, i, j, g)) (G st st') (LoP a b out i j) (i + 1 < a.size) (j < b.size) (x + 1 ≤ i + j))
    (Q := fun c st' => ∃ out c', c = (some out, c') ∧ G st st' ∧ out.Perm (a ++ b)) ?step ?fin ⟨_, _, _, _, rfl, .refl _, P0, by (first | lia | omega), by (first | lia | omega), by (first | lia | omega)⟩) ?post)
  case fin =>
    rintro _ st' ⟨out, i, j, g, rfl, _, _, h1, h2, h3⟩
    (first | lia | omega)
  case post =>
    rintro _ st' ⟨out, c', rfl, g, hp⟩
    exact wpS_pure (h _ _ hp g)
  case step =>
    rintro x _ st1 _ hx ⟨out, i, j, g, rfl, g1, lp, hi, hj, hm⟩
    refine wpS_zeta ?_
    dsimp -zeta only
    refine wpS_bind (wpS_mono (wpS_forRange
      (I := fun _ c st' => ∃ out i' j' g g', A6 (c = (none, out, i', j', g, g')) (st1 = st') (LoP a b out i' j') (i' + 1 < a.size) (j' < b.size) (i + j ≤ i' + j'))
      (Q := fun c st' => st1 = st' ∧ ((∃ out c', c = (some out, c') ∧ out.Perm (a ++ b)) ∨ ∃ out i' j' g g', A5 (c = (none, out, i', j', g, g')) (LoP a b out i' j') (i' + 1 < a.size) (j' < b.size) (i + j ≤ i' + j'))) ?istep ?ifin ⟨_, _, _, _, _, rfl, rfl, lp, hi, hj, Nat.le_refl _⟩) ?ipost)
    case ifin =>
      rintro _ _ ⟨out, i', j', g, g', rfl, rfl, h1, h2, h3, h4⟩
      exact ⟨rfl, .inr ⟨_, _, _, _, _, rfl, h1, h2, h3, h4⟩⟩
    case istep =>
      rintro y _ _ _ _ ⟨out, i', j', ac, bc, rfl, rfl, lp, hi', hj', hm'⟩
      refine wpS_gen (fun Q => (∀ o c, o.Perm (a ++ b) → Q (.done (some o, c)) st1) ∧ ∀ o i'' j'' ac bc, LoP a b o i'' j'' → i'' + 1 < a.size → j'' < b.size → i' + j' ≤ i'' + j'' → Q (.done (none, o, i'', j'', ac, bc)) st1 ∧ Q (.yield (none, o, i'', j'', ac, bc)) st1) ⟨fun o c h => ⟨rfl, .inl ⟨_, _, rfl, h⟩⟩, fun o _ _ _ _ h1 h2 h3 h4 => ⟨⟨rfl, .inr ⟨_, _, _, _, _, rfl, h1, h2, h3, Nat.le_trans hm' h4⟩⟩, ⟨_, _, _, _, _, rfl, rfl, h1, h2, h3, Nat.le_trans hm' h4⟩⟩⟩ fun Q hQ => ?_
      obtain ⟨q1, q2⟩ := hQ
      dsimp only
      refine wpS_bind (wpS_elem hj' fun p e m => ?_)
      refine wpS_bind (wpS_elem (by (first | lia | omega)) fun q e' m' => ?_)
      refine wpS_bind (wpS_lt (g1.kind hk) (ib _ m) (ia _ m') fun bb => ?_)
      cases bb with
      | true =>
        simp only [if_true]
        refine wpS_bind (wpS_elem hj' fun p e m => ?_)
        refine wpS_eq (fun c => wpS_pure (q1 _ _ (lp.pb e).done)) fun c => ?_
        have q := fun ac bc => q2 _ _ _ ac bc (lp.pb e) hi' (by (first | lia | omega)) (Nat.le_succ _)
        exact wpS_if (fun _ => wpS_pure (q _ _).1) fun _ => wpS_pure (q _ _).2
      | false =>
        simp only [Bool.false_eq_true, if_false]
        refine wpS_bind (wpS_elem (by (first | lia | omega)) fun p e m => ?_)
        refine wpS_eq (fun c => wpS_pure (q1 _ _ (lp.pa e).last)) fun c => ?_
        have q := fun ac bc => q2 _ _ _ ac bc (lp.pa e) (by (first | lia | omega)) hj' (by (first | lia | omega))
        exact wpS_if (fun _ => wpS_pure (q _ _).1) fun _ => wpS_pure (q _ _).2
    case ipost =>
      rintro _ _ ⟨rfl, ⟨out', c', rfl, hp⟩ | ⟨out, i', j', ac, bc, rfl, lp, hi', hj', hm'⟩⟩
      · exact wpS_pure ⟨_, _, rfl, g1, hp⟩
      refine wpS_zeta ?_
      dsimp -zeta only
      refine wpS_bind (wpS_lift (wpAny_rule ⟨rfl, ?_⟩))
      refine wpS_bind (wpS_mono (wpS_forRange
        (I := fun y c st' => ∃ out i' j' g ac bc, A6 (c = (none, out, i', j', g, ac, bc)) (G st st') (LoP a b out i' j') (i' + 1 < a.size) (j' < b.size) (i + j + y ≤ i' + j'))
        (Q := fun c st' => G st st' ∧ ((∃ out c', c = (some out, c') ∧ out.Perm (a ++ b)) ∨ ∃ out i' j' g ac bc, A5 (c = (none, out, i', j', g, ac, bc)) (LoP a b out i' j') (i' + 1 < a.size) (j' < b.size) (i + j + 1 ≤ i' + j'))) ?gstep ?gfin ⟨_, _, _, _, _, _, rfl, g1, lp, hi', hj', by (first | lia | omega)⟩) ?gpost)
      case gfin =>
        rintro _ st' ⟨out, i', j', g, ac, bc, rfl, g2, h1, h2, h3, h4⟩
        exact ⟨g2, .inr ⟨_, _, _, _, _, _, rfl, h1, h2, h3, by (first | lia | omega)⟩⟩
      case gpost =>
        rintro _ st' ⟨g2, ⟨out', c', rfl, hp⟩ | ⟨out, i', j', g, ac, bc, rfl, lp, hi', hj', hm'⟩⟩
        · exact wpS_pure ⟨_, _, rfl, g2, hp⟩
        dsimp only
        refine wpS_bind (wpS_modify ?_)
        exact wpS_pure ⟨_, _, _, _, rfl, g2.set _, lp, hi', hj', by (first | lia | omega)⟩
      case gstep =>
        clear lp hi' hj' hm'
        rintro y _ st2 _ hy ⟨out, i', j', g, ac, bc, rfl, g2, lp, hi', hj', hm'⟩
        refine wpS_gen (fun Q => (∀ o c st', G st2 st' → o.Perm (a ++ b) → Q (.done (some o, c)) st') ∧ ∀ o i'' j'' g ac bc st', G st2 st' → LoP a b o i'' j'' → i'' + 1 < a.size → j'' < b.size → i' + j' + 1 ≤ i'' + j'' → Q (.done (none, o, i'', j'', g, ac, bc)) st' ∧ Q (.yield (none, o, i'', j'', g, ac, bc)) st')
          ⟨fun o c st' h0 h => ⟨g2.trans h0, .inl ⟨_, _, rfl, h⟩⟩, fun o _ _ _ _ _ st' h0 h1 h2 h3 h4 => ⟨⟨g2.trans h0, .inr ⟨_, _, _, _, _, _, rfl, h1, h2, h3, by (first | lia | omega)⟩⟩, ⟨_, _, _, _, _, _, rfl, g2.trans h0, h1, h2, h3, by (first | lia | omega)⟩⟩⟩ fun Q hQ => ?_
        obtain ⟨q1, q2⟩ := hQ
        have hk2 := g2.kind hk
        have g3 := G.refl st2
        extract_lets -underBinder +onlyGivenNames s1 o1 s2 a1 s3 b1 s4 m1 s5 c1 c2 jp
        subst c2 c1 s5 m1 s4 b1 s3 a1 s2 o1 s1
        dsimp -zeta only at jp ⊢
        refine wpS_use1 jp (fun g' => ?v1) (fun hjp => ?b1)
        case b1 => clear_value jp; split <;> exact hjp _
        case v1 =>
          dsimp -zeta only [jp]
          refine wpS_bind (wpS_modify ?_)
          refine wpS_bind (wpS_elem hj' fun p e m => ?_)
          refine wpS_bind (wpS_gallop ((g3.set _).kind hk2) (ib _ m) ia (by (first | lia | omega)) (by (first | lia | omega)) fun k hk' => ?_)
          dsimp -zeta only
          clear jp
          extract_lets -underBinder +onlyGivenNames c1 jp
          subst c1
          refine wpS_use2 jp (fun o i => LoP a b o i j' ∧ i + 1 < a.size ∧ i' ≤ i) (fun o i'' ⟨lp, hi', hm1⟩ => ?v2) (fun hjp => ?b2)
          case b2 =>
            clear_value jp
            refine wpS_if (fun ck => ?_) fun ck => ?_
            · dsimp only
              refine wpS_eq (fun c1 => wpS_pure (q1 _ _ _ (g3.set _) lp.ra.last)) fun c1 => ?_
              refine wpS_eq (fun c2 => wpS_pure (q1 _ _ _ (g3.set _) lp.ra.done)) fun c2 => ?_
              exact hjp _ _ ⟨lp.ra, by (first | lia | omega), by (first | lia | omega)⟩
            · exact hjp _ _ ⟨lp, by (first | lia | omega), by (first | lia | omega)⟩
          case v2 =>
            dsimp -zeta only [jp]
            clear jp
            refine wpS_bind (wpS_elem hj' fun p1 e1 m1 => ?_)
            refine wpS_zeta ?_
            refine wpS_eq (fun c3 => wpS_pure (q1 _ _ _ (g3.set _) (lp.pb e1).done)) fun c3 => ?_
            have lp2 := lp.pb e1
            refine wpS_bind (wpS_elem (by (first | lia | omega)) fun p2 e2 m2 => ?_)
            refine wpS_bind (wpS_gallop ((g3.set _).kind hk2) (ia _ m2) ib (by (first | lia | omega)) (by (first | lia | omega)) fun k2 hk2 => ?_)
            dsimp -zeta only
            extract_lets -underBinder +onlyGivenNames c1 jp
            subst c1
            refine wpS_use2 jp (fun o j => LoP a b o i'' j ∧ j < b.size ∧ j' + 1 ≤ j) (fun o j ⟨lp, hj3, hm3⟩ => ?v3) (fun hjp => ?b3)
            case b3 =>
              clear_value jp
              refine wpS_if (fun ck2 => ?_) fun ck2 => ?_
              · dsimp only
                refine wpS_eq (fun c4 => wpS_pure (q1 _ _ _ (g3.set _) lp2.rb.done)) fun c4 => ?_
                exact hjp _ _ ⟨lp2.rb, by (first | lia | omega), by (first | lia | omega)⟩
              · exact hjp _ _ ⟨lp2, by (first | lia | omega), by (first | lia | omega)⟩
            case v3 =>
              dsimp -zeta only [jp]
              clear jp
              refine wpS_bind (wpS_elem (by (first | lia | omega)) fun p3 e3 m3 => ?_)
              refine wpS_zeta ?_
              refine wpS_eq (fun c5 => wpS_pure (q1 _ _ _ (g3.set _) (lp.pa e3).last)) fun c5 => ?_
              have q := fun n g ac bc => q2 _ _ _ g ac bc _ (g3.set n) (lp.pa e3) (by (first | lia | omega)) hj3 (by (first | lia | omega))
              exact wpS_if (fun _ => wpS_pure (q _ _ _ _).1) fun _ => wpS_pure (q _ _ _ _).2
end
section
variable {α : Type}
noncomputable def HiP (a b out : Array α) (n m : Nat) : Prop := (a.toList.take n ++ (b.toList.take m ++ out.toList.reverse)).Perm (a.toList ++ b.toList)
variable {a b out : Array α} {n m : Nat}
theorem take_at {l : List α} {i : Nat} {p : α} (h : l[i]? = some p) : l.take (i + 1) = l.take i ++ [p] := by
  have hl := (List.getElem?_eq_some_iff.mp h).1
  rw [List.take_succ_eq_append_getElem hl, (List.getElem?_eq_some_iff.mp h).2]
theorem HiP.pa {p : α} (e : a[n - 1]? = some p) (hn : 1 ≤ n) (h : HiP a b out n m) : HiP a b (out.push p) (n - 1) m := by
  obtain ⟨n, rfl⟩ : ∃ k, n = k + 1 := ⟨n - 1, by (first | lia | omega)⟩
  unfold HiP at *
  rw [Nat.add_sub_cancel] at *
  rw [take_at (l := a.toList) (p := p) (by simpa using e)] at h
  refine List.Perm.trans ?_ h
  simp only [Array.toList_push, List.reverse_append, List.reverse_cons, List.reverse_nil, List.nil_append, List.append_assoc, List.singleton_append]
  exact List.Perm.append_left _ List.perm_middle
theorem HiP.pb {p : α} (e : b[m - 1]? = some p) (hn : 1 ≤ m) (h : HiP a b out n m) : HiP a b (out.push p) n (m - 1) := by
  obtain ⟨m, rfl⟩ : ∃ k, m = k + 1 := ⟨m - 1, by (first | lia | omega)⟩
  unfold HiP at *
  rw [Nat.add_sub_cancel] at *
  rw [take_at (l := b.toList) (p := p) (by simpa using e)] at h
  refine List.Perm.trans ?_ h
  simp
theorem take_cut {l : List α} {k n : Nat} (h : k ≤ n) : l.take n = l.take k ++ (l.drop k).take (n - k) := by
  rw [← List.take_append_drop k (l.take n), List.take_take, List.drop_take, Nat.min_eq_left h]
theorem HiP.ra {k : Nat} (hk : k ≤ n) (h : HiP a b out n m) : HiP a b (out ++ (a.extract k n).reverse) k m := by
  unfold HiP at *
  refine List.Perm.trans ?_ h
  rw [take_cut hk (l := a.toList)]
  simp only [Array.toList_append, Array.toList_reverse, Array.toList_extract, List.extract_eq_take_drop, List.reverse_append, List.reverse_reverse, List.append_assoc]
  refine List.Perm.append_left _ ?_
  rw [← List.append_assoc, ← List.append_assoc]
  exact List.Perm.append_right _ List.perm_append_comm
theorem HiP.rb {k : Nat} (hk : k ≤ m) (h : HiP a b out n m) : HiP a b (out ++ (b.extract k m).reverse) n k := by
  unfold HiP at *
  refine List.Perm.trans ?_ h
  rw [take_cut hk (l := b.toList)]
  simp [List.extract_eq_take_drop]
theorem HiP.done (h : HiP a b out n m) : (a.extract 0 n ++ b.extract 0 m ++ out.reverse).Perm (a ++ b) := by
  rw [Array.perm_iff_toList_perm]
  unfold HiP at h
  simpa [List.extract_eq_take_drop] using h
theorem HiP.first (h : HiP a b out n m) : (b.extract 0 m ++ a.extract 0 n ++ out.reverse).Perm (a ++ b) := by
  rw [Array.perm_iff_toList_perm]
  unfold HiP at h
  refine List.Perm.trans ?_ (by simpa using h)
  simp only [Array.toList_append, Array.toList_extract, List.extract_eq_take_drop, Array.toList_reverse, Nat.sub_zero, List.drop_zero]
  rw [← List.append_assoc]
  exact List.Perm.append_right _ List.perm_append_comm
end
structure Hb {α : Type} (a b : Array α) (n m : Nat) : Prop where
  f0 : 1 ≤ n
  f1 : n ≤ a.size
  f2 : 2 ≤ m
  f3 : m ≤ b.size
section
variable {prog : Program} {w : World} {A : Around} {E : Value → Shared → Prop} {s : Shared}
theorem wpS_mergeHi {a b : Array PyProof.Rows.Keyed} {Q : Array PyProof.Rows.Keyed → SortSt → Prop} {st : SortSt} (hk : kindOf st = oneType') (ia : IntKeys a) (ib : IntKeys b) (na : 1 ≤ a.size) (nb : 1 ≤ b.size) (h : ∀ out st', out.Perm (a ++ b) → G st st' → Q out st') : wpS (model prog w) A E s (mergeHi' a b) Q st := by
  refine wpS_bind (wpS_lift (wpAny_rule ⟨rfl, ?_⟩))
  refine wpS_bind (wpS_elem (by (first | lia | omega)) fun p0 e0 m0 => ?_)
  dsimp -zeta only
  have P0 : HiP a b #[p0] (a.size - 1) b.size := by
    have : HiP a b #[] a.size b.size := by unfold HiP; simp [List.take_of_length_le]
    exact this.pa e0 na
  refine wpS_eq (fun c1 => wpS_pure (h _ _ P0.done (.refl _))) fun c1 => ?_
  refine wpS_eq (fun c2 => wpS_pure (h _ _ P0.first (.refl _))) fun c2 => ?_
  refine wpS_bind (wpS_get ?_)
  refine wpS_bind (wpS_mono (wpS_forRange
    (I := fun x c st' => ∃ n m out g, A5 (c = (none, n, m, out, g)) (G st st') (HiP a b out n m) (Hb a b n m) (x + n + m + 1 ≤ a.size + b.size))
    (Q := fun c st' => ∃ out c', c = (some out, c') ∧ G st st' ∧ out.Perm (a ++ b)) ?step ?fin ⟨_, _, _, _, rfl, .refl _, P0, ⟨by (first | lia | omega), by (first | lia | omega), by (first | lia | omega), by (first | lia | omega)⟩, by (first | lia | omega)⟩) ?post)
  case fin =>
    rintro _ st' ⟨n, m, out, g, rfl, _, _, ⟨h1, h2, h3, h4⟩, h5⟩
    (first | lia | omega)
  case post =>
    rintro _ st' ⟨out, c', rfl, g, hp⟩
    exact wpS_pure (h _ _ hp g)
  case step =>
    rintro x _ st1 _ hx ⟨n, m, out, g, rfl, g1, hp, hb, hx'⟩
    refine wpS_zeta ?_
    dsimp -zeta only
    refine wpS_bind (wpS_mono (wpS_forRange
      (I := fun _ c st' => ∃ n' m' out ac bc, A5 (c = (none, n', m', out, ac, bc)) (st1 = st') (HiP a b out n' m') (Hb a b n' m') (n' + m' ≤ n + m))
      (Q := fun c st' => st1 = st' ∧ ((∃ out c', c = (some out, c') ∧ out.Perm (a ++ b)) ∨ ∃ n' m' out ac bc, A4 (c = (none, n', m', out, ac, bc)) (HiP a b out n' m') (Hb a b n' m') (n' + m' ≤ n + m))) ?istep ?ifin ⟨_, _, _, _, _, rfl, rfl, hp, hb, Nat.le_refl _⟩) ?ipost)
    case ifin =>
      rintro _ _ ⟨n', m', out, ac, bc, rfl, rfl, h1, h2, h3⟩
      exact ⟨rfl, .inr ⟨_, _, _, _, _, rfl, h1, h2, h3⟩⟩
    case istep =>
      rintro y _ _ _ _ ⟨n', mm, out, ac, bc, rfl, rfl, hp, ⟨hn1, hn2, hm1, hm2⟩, hx''⟩
      refine wpS_gen (fun Q => (∀ o c, o.Perm (a ++ b) → Q (.done (some o, c)) st1) ∧ ∀ o i'' j'' ac bc, HiP a b o i'' j'' → Hb a b i'' j'' → i'' + j'' ≤ n' + mm → Q (.done (none, i'', j'', o, ac, bc)) st1 ∧ Q (.yield (none, i'', j'', o, ac, bc)) st1) ⟨fun o c h => ⟨rfl, .inl ⟨_, _, rfl, h⟩⟩, fun o _ _ _ _ h1 h2 h3 => ⟨⟨rfl, .inr ⟨_, _, _, _, _, rfl, h1, h2, Nat.le_trans h3 hx''⟩⟩, ⟨_, _, _, _, _, rfl, rfl, h1, h2, Nat.le_trans h3 hx''⟩⟩⟩ fun Q hQ => ?_
      obtain ⟨q1, q2⟩ := hQ
      dsimp only
      refine wpS_bind (wpS_elem (by (first | lia | omega)) fun p e mb => ?_)
      refine wpS_bind (wpS_elem (by (first | lia | omega)) fun q e' ma => ?_)
      refine wpS_bind (wpS_lt (g1.kind hk) (ib _ mb) (ia _ ma) fun bb => ?_)
      cases bb with
      | true =>
        simp only [if_true]
        refine wpS_bind (wpS_elem (by (first | lia | omega)) fun p e _ => ?_)
        refine wpS_eq (fun c => wpS_pure (q1 _ _ (hp.pa e hn1).done)) fun c => ?_
        have q := fun ac bc => q2 _ _ _ ac bc (hp.pa e hn1) ⟨by (first | lia | omega), by (first | lia | omega), hm1, hm2⟩ (by (first | lia | omega))
        exact wpS_if (fun _ => wpS_pure (q _ _).1) fun _ => wpS_pure (q _ _).2
      | false =>
        simp only [Bool.false_eq_true, if_false]
        refine wpS_bind (wpS_elem (by (first | lia | omega)) fun p e _ => ?_)
        refine wpS_eq (fun c => wpS_pure (q1 _ _ (hp.pb e (by (first | lia | omega))).first)) fun c => ?_
        have q := fun ac bc => q2 _ _ _ ac bc (hp.pb e (by (first | lia | omega))) ⟨hn1, hn2, by (first | lia | omega), by (first | lia | omega)⟩ (by (first | lia | omega))
        exact wpS_if (fun _ => wpS_pure (q _ _).1) fun _ => wpS_pure (q _ _).2
    case ipost =>
      rintro _ _ ⟨rfl, ⟨out', c', rfl, hp⟩ | ⟨n', m', out, ac, bc, rfl, hp, hb, hx''⟩⟩
      · exact wpS_pure ⟨_, _, rfl, g1, hp⟩
      refine wpS_zeta ?_
      dsimp -zeta only
      refine wpS_bind (wpS_lift (wpAny_rule ⟨rfl, ?_⟩))
      refine wpS_bind (wpS_mono (wpS_forRange
        (I := fun y c st' => ∃ n' m' out g ac bc, A5 (c = (none, n', m', out, g, ac, bc)) (G st st') (HiP a b out n' m') (Hb a b n' m') (n' + m' + y ≤ n + m))
        (Q := fun c st' => G st st' ∧ ((∃ out c', c = (some out, c') ∧ out.Perm (a ++ b)) ∨ ∃ n' m' out g ac bc, A4 (c = (none, n', m', out, g, ac, bc)) (HiP a b out n' m') (Hb a b n' m') (n' + m' + 1 ≤ n + m))) ?gstep ?gfin ⟨_, _, _, _, _, _, rfl, g1, hp, hb, hx''⟩) ?gpost)
      case gfin =>
        rintro _ st' ⟨n', m', out, g, ac, bc, rfl, g2, h1, h2, h4⟩
        exact ⟨g2, .inr ⟨_, _, _, _, _, _, rfl, h1, h2, by obtain ⟨u, v, w, x⟩ := hb; (first | lia | omega)⟩⟩
      case gpost =>
        rintro _ st' ⟨g2, ⟨out', c', rfl, hp⟩ | ⟨n', m', out, g, ac, bc, rfl, hp, hb, hx''⟩⟩
        · exact wpS_pure ⟨_, _, rfl, g2, hp⟩
        dsimp only
        refine wpS_bind (wpS_modify ?_)
        exact wpS_pure ⟨_, _, _, _, rfl, g2.set _, hp, hb, by (first | lia | omega)⟩
      case gstep =>
        clear hp hb hx''
        rintro y _ st2 _ hy ⟨n', m', out, g, ac, bc, rfl, g2, hp, ⟨hn1, hn2, hm1, hm2⟩, hx''⟩
        refine wpS_gen (fun Q => (∀ o c st', G st2 st' → o.Perm (a ++ b) → Q (.done (some o, c)) st') ∧ ∀ o i'' j'' g ac bc st', G st2 st' → HiP a b o i'' j'' → Hb a b i'' j'' → i'' + j'' + 1 ≤ n' + m' → Q (.done (none, i'', j'', o, g, ac, bc)) st' ∧ Q (.yield (none, i'', j'', o, g, ac, bc)) st')
          ⟨fun o c st' h0 h => ⟨g2.trans h0, .inl ⟨_, _, rfl, h⟩⟩, fun o _ _ _ _ _ st' h0 h1 h2 h3 => ⟨⟨g2.trans h0, .inr ⟨_, _, _, _, _, _, rfl, h1, h2, by (first | lia | omega)⟩⟩, ⟨_, _, _, _, _, _, rfl, g2.trans h0, h1, h2, by (first | lia | omega)⟩⟩⟩ fun Q hQ => ?_
        obtain ⟨q1, q2⟩ := hQ
        have hk2 := g2.kind hk
        have g3 := G.refl st2
        clear hx'' hy hx'
        extract_lets -underBinder +onlyGivenNames s1 o1 s2 a1 s3 b1 s4 m1 s5 c1 c2 jp
        subst c2 c1 s5 m1 s4 b1 s3 a1 s2 o1 s1
        dsimp -zeta only at jp ⊢
        refine wpS_use1 jp (fun g' => ?v1) (fun hjp => ?b1)
        case b1 => clear_value jp; split <;> exact hjp _
        case v1 =>
          dsimp -zeta only [jp]
          refine wpS_bind (wpS_modify ?_)
          refine wpS_bind (wpS_elem (by (first | lia | omega)) fun p e mb => ?_)
          refine wpS_bind (wpS_gallop ((g3.set _).kind hk2) (ib _ mb) ia (by (first | lia | omega)) (by (first | lia | omega)) fun k hk' => ?_)
          dsimp -zeta only
          clear jp
          extract_lets -underBinder +onlyGivenNames k1 c1 jp
          subst c1 k1
          refine wpS_use2 jp (fun n o => HiP a b o n m' ∧ 1 ≤ n ∧ n ≤ n') (fun n'' o ⟨hp, hn3, hn4⟩ => ?v2) (fun hjp => ?b2)
          case b2 =>
            clear_value jp
            refine wpS_if (fun ck => ?_) fun ck => ?_
            · dsimp only
              refine wpS_eq (fun c1 => wpS_pure (q1 _ _ _ (g3.set _) (hp.ra hk').done)) fun c1 => ?_
              exact hjp _ _ ⟨hp.ra hk', by (first | lia | omega), hk'⟩
            · exact hjp _ _ ⟨hp, hn1, Nat.le_refl _⟩
          case v2 =>
            dsimp -zeta only [jp]
            clear jp
            refine wpS_bind (wpS_elem (by (first | lia | omega)) fun p1 e1 m1 => ?_)
            refine wpS_zeta ?_
            refine wpS_eq (fun c3 => wpS_pure (q1 _ _ _ (g3.set _) (hp.pb e1 (by (first | lia | omega))).first)) fun c3 => ?_
            have hp2 := hp.pb e1 (by (first | lia | omega))
            refine wpS_bind (wpS_elem (by (first | lia | omega)) fun p2 e2 m2 => ?_)
            refine wpS_bind (wpS_gallop ((g3.set _).kind hk2) (ia _ m2) ib (by (first | lia | omega)) (by (first | lia | omega)) fun k2 hk2 => ?_)
            dsimp -zeta only
            extract_lets -underBinder +onlyGivenNames k1 c1 jp
            subst c1 k1
            refine wpS_use2 jp (fun m o => HiP a b o n'' m ∧ 2 ≤ m ∧ m ≤ m' - 1) (fun m'' o ⟨hp, hm3, hm4⟩ => ?v3) (fun hjp => ?b3)
            case b3 =>
              clear_value jp
              refine wpS_if (fun ck2 => ?_) fun ck2 => ?_
              · dsimp only
                refine wpS_eq (fun c4 => wpS_pure (q1 _ _ _ (g3.set _) (hp2.rb hk2).first)) fun c4 => ?_
                refine wpS_eq (fun c4 => wpS_pure (q1 _ _ _ (g3.set _) (hp2.rb hk2).done)) fun c5 => ?_
                exact hjp _ _ ⟨hp2.rb hk2, by (first | lia | omega), hk2⟩
              · exact hjp _ _ ⟨hp2, by (first | lia | omega), by (first | lia | omega)⟩
            case v3 =>
              dsimp -zeta only [jp]
              clear jp
              refine wpS_bind (wpS_elem (by (first | lia | omega)) fun p3 e3 m3 => ?_)
              refine wpS_zeta ?_
              refine wpS_eq (fun c5 => wpS_pure (q1 _ _ _ (g3.set _) (hp.pa e3 hn3).done)) fun c5 => ?_
              have q := fun n g ac bc => q2 _ _ _ g ac bc _ (g3.set n) (hp.pa e3 hn3) ⟨by (first | lia | omega), by (first | lia | omega), hm3, by (first | lia | omega)⟩ (by (first | lia | omega))
              exact wpS_if (fun _ => wpS_pure (q _ _ _ _).1) fun _ => wpS_pure (q _ _ _ _).2
end
structure R (st st' : SortSt) : Prop where
  k : kindOf st' = kindOf st
  f : failedOf st' = failedOf st
  p : pendingOf st' = pendingOf st
  a : (arrOf st').Perm (arrOf st)
theorem R.refl (st : SortSt) : R st st := ⟨rfl, rfl, rfl, .refl _⟩
theorem R.trans {x y z : SortSt} (h : R x y) (g : R y z) : R x z := ⟨g.k.trans h.k, g.f.trans h.f, g.p.trans h.p, g.a.trans h.a⟩
theorem R.set {x y : SortSt} {xs : Array PyProof.Rows.Keyed} (h : R x y) (p : xs.Perm (arrOf y)) : R x (setArr y xs) := ⟨h.k, h.f, h.p, p.trans h.a⟩
theorem IntKeys.perm {a b : Array PyProof.Rows.Keyed} (h : IntKeys a) (p : b.Perm a) : IntKeys b := fun q hq => h q ((Array.perm_iff_toList_perm.mp p).mem_iff.mp hq)
section
variable {prog : Program} {w : World} {A : Around} {E : Value → Shared → Prop} {s : Shared}
theorem wpS_ltR {st : SortSt} {i j : Nat} {Q : Option Bool → SortSt → Prop} (hk : kindOf st = oneType') (ik : IntKeys (arrOf st)) (hi : i < (arrOf st).size) (hj : j < (arrOf st).size) (h : ∀ b, Q (some b) st) : wpS (model prog w) A E s (ltAt' i j) Q st := by
  rw [ltAt'_eq]
  refine wpS_bind (wpS_get ?_)
  refine wpS_bind (wpS_elem hi fun p _ mp => ?_)
  refine wpS_bind (wpS_elem hj fun q _ mq => ?_)
  exact wpS_lt hk (ik _ mp) (ik _ mq) h
theorem wpS_rev {st : SortSt} {i j : Nat} {Q : Unit → SortSt → Prop} (h : ∀ st', R st st' → Q () st') : wpS (model prog w) A E s (reverseSlice' i j) Q st := wpS_reverse (h _ ((R.refl st).set (mirror_perm _ _ _ _)))
theorem wpS_down {st : SortSt} {i j : Nat} {Q : Unit → SortSt → Prop} (h : ∀ st', R st st' → Q () st') : wpS (model prog w) A E s (moveDown' i j) Q st := by
  rw [moveDown'_eq]
  exact wpS_modify (h _ ((R.refl st).set (bubble_perm _ _ _)))
theorem wpS_count {lo nrem : Nat} {Q : Option Nat → SortSt → Prop} {st : SortSt} (hk : kindOf st = oneType') (ik : IntKeys (arrOf st)) (hn : lo + nrem ≤ (arrOf st).size) (h1 : 1 ≤ nrem) (h : ∀ m st', R st st' → 1 ≤ m → m ≤ nrem → Q (some m) st') : wpS (model prog w) A E s (countRun' lo nrem) Q st := by
  have lt : ∀ {st' i j} {Q : Option Bool → SortSt → Prop}, R st st' → i < lo + nrem → j < lo + nrem → (∀ b, Q (some b) st') → wpS (model prog w) A E s (ltAt' i j) Q st' := by
    intro st' i j Q r hi hj hQ
    exact wpS_ltR (r.k.trans hk) (IntKeys.perm ik r.a) (by rw [r.a.size_eq]; (first | lia | omega)) (by rw [r.a.size_eq]; (first | lia | omega)) hQ
  refine wpS_bind (wpS_mono (wpS_forRange (I := fun x c st' => st = st' ∧ c = (none, x)) (Q := fun c st' => st = st' ∧ ∃ n, c = (none, n) ∧ 1 ≤ n ∧ n ≤ nrem) ?s1 ?f1 ⟨rfl, rfl⟩) ?p1)
  case f1 =>
    rintro _ _ ⟨rfl, rfl⟩
    exact ⟨rfl, _, rfl, by (first | lia | omega), by (first | lia | omega)⟩
  case s1 =>
    rintro x _ _ hx1 hx2 ⟨rfl, rfl⟩
    dsimp only
    refine wpS_bind (lt (.refl _) (by (first | lia | omega)) (by (first | lia | omega)) fun b => ?_)
    cases b with
    | true => exact wpS_pure ⟨rfl, _, rfl, hx1, by (first | lia | omega)⟩
    | false => exact wpS_pure ⟨rfl, rfl⟩
  case p1 =>
    rintro _ _ ⟨rfl, n, rfl, hn1, hn2⟩
    dsimp -zeta only
    refine wpS_eq (fun c1 => wpS_pure (h _ _ (.refl _) hn1 hn2)) fun c1 => ?_
    extract_lets -underBinder +onlyGivenNames jp
    refine wpS_useS jp (R st) (fun st1 r1 => ?v) (fun hjp => ?b)
    case b =>
      clear_value jp
      refine wpS_if (fun c2 => ?_) fun c2 => hjp _ (.refl _)
      refine wpS_bind (lt (.refl _) (by (first | lia | omega)) (by (first | lia | omega)) fun b => ?_)
      cases b with
      | true => exact wpS_pure (h _ _ (.refl _) hn1 hn2)
      | false =>
        dsimp only
        rw [if_neg (by decide)]
        exact wpS_bind (wpS_rev fun st1 r1 => hjp _ r1)
    case v =>
      dsimp -zeta only [jp]
      clear jp
      refine wpS_bind (wpS_lift (wpAny_rule ⟨rfl, ?_⟩))
      refine wpS_bind (wpS_mono (wpS_forRange (I := fun x c st' => R st st' ∧ ∃ q, c = (none, x, q)) (Q := fun c st' => R st st' ∧ ∃ m q, c = (none, m, q) ∧ n + 1 ≤ m ∧ m ≤ nrem) ?s2 ?f2 ⟨r1, 0, rfl⟩) ?p2)
      case f2 =>
        rintro _ _ ⟨r2, q, rfl⟩
        exact ⟨r2, _, q, rfl, by (first | lia | omega), by (first | lia | omega)⟩
      case s2 =>
        rintro x _ st2 hx1 hx2 ⟨r2, q, rfl⟩
        dsimp only
        refine wpS_bind (lt r2 (by (first | lia | omega)) (by (first | lia | omega)) fun b => ?_)
        cases b with
        | true =>
          dsimp only
          rw [if_pos rfl]
          exact wpS_if (fun cq => wpS_bind (wpS_rev fun st3 r3 => wpS_pure ⟨r2.trans r3, 0, rfl⟩)) fun cq => wpS_pure ⟨r2, 0, rfl⟩
        | false =>
          dsimp only
          rw [if_neg (by decide)]
          refine wpS_bind (lt r2 (by (first | lia | omega)) (by (first | lia | omega)) fun b => ?_)
          cases b with
          | true => exact wpS_pure ⟨r2, _, _, rfl, hx1, by (first | lia | omega)⟩
          | false => exact wpS_pure ⟨r2, _, rfl⟩
      case p2 =>
        rintro _ st2 ⟨r2, m, q, rfl, hm1, hm2⟩
        dsimp -zeta only
        extract_lets -underBinder +onlyGivenNames z1 z2 z3 z4
        subst z4 z3 z2 z1
        dsimp -zeta only
        extract_lets -underBinder +onlyGivenNames jp
        refine wpS_useS jp (R st) (fun st4 r4 => ?v2) (fun hjp => ?b2)
        case b2 =>
          clear_value jp
          exact wpS_if (fun cq => wpS_bind (wpS_rev fun st3 r3 => hjp _ (r2.trans r3))) fun cq => hjp _ r2
        case v2 =>
          dsimp only [jp]
          clear jp
          refine wpS_bind (wpS_rev fun st5 r5 => ?_)
          have r6 := r4.trans r5
          refine wpS_bind (wpS_mono (wpS_forRange (I := fun x c st' => st5 = st' ∧ c = (none, x)) (Q := fun c st' => st5 = st' ∧ ∃ k, c = (none, k) ∧ m ≤ k ∧ k ≤ nrem) ?s3 ?f3 ⟨rfl, rfl⟩) ?p3)
          case f3 =>
            rintro _ _ ⟨rfl, rfl⟩
            exact ⟨rfl, _, rfl, by (first | lia | omega), by (first | lia | omega)⟩
          case s3 =>
            rintro x _ _ hx1 hx2 ⟨rfl, rfl⟩
            dsimp only
            refine wpS_bind (lt r6 (by (first | lia | omega)) (by (first | lia | omega)) fun b => ?_)
            cases b with
            | true => exact wpS_pure ⟨rfl, _, rfl, hx1, by (first | lia | omega)⟩
            | false => exact wpS_pure ⟨rfl, rfl⟩
          case p3 =>
            rintro _ _ ⟨rfl, k, rfl, hk1, hk2⟩
            exact wpS_pure (h k _ r6 (by (first | lia | omega)) hk2)
theorem wpS_bsort {lo n ok : Nat} {Q : Bool → SortSt → Prop} {st : SortSt} (hk : kindOf st = oneType') (ik : IntKeys (arrOf st)) (hn : lo + n ≤ (arrOf st).size) (h : ∀ st', R st st' → Q true st') : wpS (model prog w) A E s (binarySort' lo n ok) Q st := by
  have lt : ∀ {st' i j} {Q : Option Bool → SortSt → Prop}, R st st' → i < lo + n → j < lo + n → (∀ b, Q (some b) st') → wpS (model prog w) A E s (ltAt' i j) Q st' := by
    intro st' i j Q r hi hj hQ
    exact wpS_ltR (r.k.trans hk) (IntKeys.perm ik r.a) (by rw [r.a.size_eq]; (first | lia | omega)) (by rw [r.a.size_eq]; (first | lia | omega)) hQ
  refine wpS_bind (wpS_mono (wpS_forRange (I := fun x c st' => R st st' ∧ c = (none, ())) (Q := fun c st' => R st st' ∧ c = (none, ())) ?s1 (fun _ _ h => h) ⟨.refl _, rfl⟩) ?p1)
  case p1 =>
    rintro _ _ ⟨r, rfl⟩
    exact wpS_pure (h _ r)
  case s1 =>
    rintro k _ st1 hk1 hk2 ⟨r, rfl⟩
    dsimp only
    refine wpS_bind (wpS_mono (wpS_forRange (I := fun x c st' => st1 = st' ∧ ∃ l r, c = (none, l, r) ∧ r ≤ k) (Q := fun c st' => st1 = st' ∧ ∃ l r, c = (none, l, r) ∧ r ≤ k) ?s2 (fun _ _ h => h) ⟨rfl, _, _, rfl, Nat.le_refl _⟩) ?p2)
    case p2 =>
      rintro _ _ ⟨rfl, l, r', rfl, _⟩
      exact wpS_bind (wpS_down fun st' r2 => wpS_pure ⟨r.trans r2, rfl⟩)
    case s2 =>
      rintro x _ _ _ _ ⟨rfl, l, r', rfl, hr⟩
      dsimp only
      by_cases c : l ≥ r'
      · rw [if_pos c]
        exact wpS_pure ⟨rfl, _, _, rfl, hr⟩
      rw [if_neg c]
      refine wpS_bind (lt r (by (first | lia | omega)) (by (first | lia | omega)) fun b => ?_)
      cases b with
      | true => exact wpS_pure ⟨rfl, _, _, rfl, by (first | lia | omega)⟩
      | false => exact wpS_pure ⟨rfl, _, _, rfl, by (first | lia | omega)⟩
end
noncomputable def Runs : Nat → List (Nat × Nat × Nat) → Nat → Prop
  | s, [], e => s = e
  | s, (a, n, _) :: r, e => a = s ∧ 1 ≤ n ∧ Runs (s + n) r e
theorem Runs.append {l₁ l₂ : List (Nat × Nat × Nat)} {s e : Nat} : Runs s (l₁ ++ l₂) e ↔ ∃ m, Runs s l₁ m ∧ Runs m l₂ e := by
  induction l₁ generalizing s with
  | nil => exact ⟨fun h => ⟨s, rfl, h⟩, fun ⟨m, h1, h2⟩ => by cases h1; exact h2⟩
  | cons x r ih =>
    obtain ⟨a, n, p⟩ := x
    show (a = s ∧ 1 ≤ n ∧ Runs (s + n) (r ++ l₂) e) ↔ ∃ m, (a = s ∧ 1 ≤ n ∧ Runs (s + n) r m) ∧ Runs m l₂ e
    rw [ih]
    constructor
    · rintro ⟨h1, h2, m, h3, h4⟩; exact ⟨m, ⟨h1, h2, h3⟩, h4⟩
    · rintro ⟨m, ⟨h1, h2, h3⟩, h4⟩; exact ⟨h1, h2, m, h3, h4⟩
theorem Runs.le {l : List (Nat × Nat × Nat)} : ∀ {s e : Nat}, Runs s l e → s ≤ e := by
  induction l with
  | nil => intro s e h; cases h; exact Nat.le_refl _
  | cons x r ih =>
    obtain ⟨a, n, p⟩ := x
    rintro s e ⟨_, _, h⟩
    have := ih h; (first | lia | omega)
theorem two_at {α : Type} {l : List α} {i : Nat} (h : i + 1 < l.length) : ∃ l₁ x y l₂, l = l₁ ++ x :: y :: l₂ ∧ l₁.length = i := by
  refine ⟨l.take i, l[i], l[i + 1], l.drop (i + 2), ?_, by simp; (first | lia | omega)⟩
  rw [← List.drop_eq_getElem_cons, ← List.drop_eq_getElem_cons, List.take_append_drop]
theorem merged_eq {xs : Array PyProof.Rows.Keyed} : ∀ (l : List PyProof.Rows.Keyed) (k sa : Nat) (pre post : List PyProof.Rows.Keyed) (mid : List PyProof.Rows.Keyed), xs.toList = pre ++ mid ++ post → mid.length = l.length → pre.length = sa + k → ((l.zipIdx k).foldl (fun a (pj : PyProof.Rows.Keyed × Nat) => a.setIfInBounds (sa + pj.2) pj.1) xs).toList = pre ++ l ++ post
  | [], k, sa, pre, post, mid, e, hl, hp => by
    have : mid = [] := List.length_eq_zero_iff.mp hl
    subst this
    simpa using e
  | p :: l, k, sa, pre, post, [], e, hl, hp => by simp at hl
  | p :: l, k, sa, pre, post, q :: mid, e, hl, hp => by
    rw [List.zipIdx_cons, List.foldl_cons]
    have := merged_eq (xs := xs.setIfInBounds (sa + k) p) l (k + 1) sa (pre ++ [p]) post mid (by
      rw [Array.toList_setIfInBounds, e, ← hp]
      simp) (by simpa using hl) (by simp; (first | lia | omega))
    simpa using this
section
variable {prog : Program} {w : World} {A : Around} {E : Value → Shared → Prop} {s : Shared}
theorem wpS_set {σ : Type} {M : Model} {x st : σ} {Q : PUnit → σ → Prop} (h : Q ⟨⟩ x) : wpS M A E s (set x : StateT σ Sem PUnit) Q st := by
  unfold wpS
  rw [StateT.run_set]
  exact wpAny_pure ⟨rfl, h⟩
structure R2 (st st' : SortSt) : Prop where
  k : kindOf st' = kindOf st
  f : failedOf st' = failedOf st
  a : (arrOf st').Perm (arrOf st)
theorem R.two {x y : SortSt} (h : R x y) : R2 x y := ⟨h.k, h.f, h.a⟩
theorem R2.refl (st : SortSt) : R2 st st := ⟨rfl, rfl, .refl _⟩
theorem R2.trans {x y z : SortSt} (h : R2 x y) (g : R2 y z) : R2 x z := ⟨g.k.trans h.k, g.f.trans h.f, g.a.trans h.a⟩
theorem IntKeys.extract {a : Array PyProof.Rows.Keyed} {i j : Nat} (h : IntKeys a) : IntKeys (a.extract i j) := fun q hq => h q (by
  rw [Array.toList_extract, List.extract_eq_take_drop] at hq
  exact List.mem_of_mem_drop (List.mem_of_mem_take hq))
theorem merged_perm {xs out : Array PyProof.Rows.Keyed} {i j k : Nat} (hij : i ≤ j) (hjk : j ≤ k) (hk : k ≤ xs.size) (hp : out.Perm (xs.extract i j ++ xs.extract j k)) : (out.toList.zipIdx.foldl (fun a (pj : PyProof.Rows.Keyed × Nat) => a.setIfInBounds (i + pj.2) pj.1) xs).Perm xs := by
  rw [Array.perm_iff_toList_perm]
  have hl : xs.toList.length = xs.size := Array.length_toList
  have hm : (xs.toList.drop i).take (k - i) = (xs.extract i j ++ xs.extract j k).toList := by
    rw [Array.toList_append, Array.toList_extract, Array.toList_extract, List.extract_eq_take_drop, List.extract_eq_take_drop, take_cut (show j - i ≤ k - i by (first | lia | omega)), List.drop_drop, show i + (j - i) = j by (first | lia | omega), show k - i - (j - i) = k - j by (first | lia | omega)]
  have e : xs.toList = xs.toList.take i ++ (xs.toList.drop i).take (k - i) ++ xs.toList.drop k := by
    rw [List.append_assoc, show xs.toList.drop k = (xs.toList.drop i).drop (k - i) by rw [List.drop_drop, show i + (k - i) = k by (first | lia | omega)], List.take_append_drop, List.take_append_drop]
  have hp' := Array.perm_iff_toList_perm.mp hp
  rw [merged_eq (xs := xs) out.toList 0 i (xs.toList.take i) (xs.toList.drop k) ((xs.toList.drop i).take (k - i)) e (by rw [hm]; exact hp'.length_eq.symm) (by simp; (first | lia | omega))]
  refine List.Perm.trans ?_ (List.Perm.of_eq e.symm)
  rw [hm]
  exact List.Perm.append_right _ (List.Perm.append_left _ hp')
theorem wpS_mergeAt {i e : Nat} {Q : Bool → SortSt → Prop} {st : SortSt} (hk : kindOf st = oneType') (hf : failedOf st = none) (ik : IntKeys (arrOf st)) (hr : Runs 0 (pendingOf st).toList e) (he : e ≤ (arrOf st).size) (hi : i + 1 < (pendingOf st).size)
    (h : ∀ st', R2 st st' → Runs 0 (pendingOf st').toList e → (pendingOf st').size + 1 = (pendingOf st).size → Q true st') : wpS (model prog w) A E s (mergeAt' i) Q st := by
  obtain ⟨l₁, ⟨sa, na, p⟩, ⟨sb, nb, q⟩, l₂, hl, rfl⟩ := two_at (l := (pendingOf st).toList) hi
  rw [hl] at hr
  obtain ⟨m, hr1, rfl, hna, rfl, hnb, hr2⟩ := Runs.append.mp hr
  refine wpS_bind (wpS_get ?_)
  have ea : (pendingOf st)[l₁.length]? = some (sa, na, p) := by rw [← Array.getElem?_toList, hl]; simp
  have eb : (pendingOf st)[l₁.length + 1]? = some (sa + na, nb, q) := by rw [← Array.getElem?_toList, hl]; simp
  have hle := hr2.le
  have sz : sa + na + nb ≤ (arrOf st).size := Nat.le_trans hle he
  have key : ∀ st', kindOf st' = kindOf st → failedOf st' = failedOf st → (arrOf st').Perm (arrOf st) → pendingOf st' = ((pendingOf st).setIfInBounds l₁.length (sa, na + nb, p)).eraseIdxIfInBounds (l₁.length + 1) → Q true st' := by
    intro st' h1 h2 h3 h4
    have e4 : (pendingOf st').toList = l₁ ++ (sa, na + nb, p) :: l₂ := by
      rw [h4, Array.toList_eraseIdxIfInBounds, Array.toList_setIfInBounds, hl]
      simp [List.eraseIdx_append]
      intro hh
      (first | lia | omega)
    refine h st' ⟨h1, h2, h3⟩ ?_ ?_
    · rw [e4]
      exact Runs.append.mpr ⟨_, hr1, rfl, by (first | lia | omega), by rw [← Nat.add_assoc]; exact hr2⟩
    · rw [← Array.length_toList, ← Array.length_toList, e4, hl]
      simp
      (first | lia | omega)
  rw [ea, eb]
  dsimp only
  refine wpS_bind (wpS_set ?_)
  refine wpS_bind (wpS_elem (by show _ < (arrOf st).size; (first | lia | omega)) fun p1 e1 m1 => ?_)
  refine wpS_bind (wpS_gallop hk (ik _ m1) ik (by show _ ≤ (arrOf st).size; (first | lia | omega)) (by (first | lia | omega)) fun k hk1 => ?_)
  dsimp only
  refine wpS_eq (fun c1 => wpS_pure (key _ rfl rfl (.refl _) rfl)) fun c1 => ?_
  refine wpS_bind (wpS_elem (by show _ < (arrOf st).size; (first | lia | omega)) fun p2 e2 m2 => ?_)
  refine wpS_bind (wpS_gallop hk (ik _ m2) ik (by show _ ≤ (arrOf st).size; (first | lia | omega)) (by (first | lia | omega)) fun k2 hk2 => ?_)
  dsimp only
  refine wpS_eq (fun c2 => wpS_pure (key _ rfl rfl (.refl _) rfl)) fun c2 => ?_
  have z1 : sa + k ≤ sa + na := Nat.add_le_add_left hk1 sa
  have z2 : sa + na ≤ sa + na + k2 := Nat.le_add_right _ _
  have z3 : sa + na + k2 ≤ (arrOf st).size := Nat.le_trans (Nat.add_le_add_left hk2 _) sz
  have x1 : 1 ≤ ((arrOf st).extract (sa + k) (sa + na)).size := by
    rw [Array.size_extract, Nat.min_eq_left (Nat.le_trans z2 z3), Nat.add_sub_add_left]
    exact Nat.pos_of_ne_zero c1
  have y1 : 1 ≤ ((arrOf st).extract (sa + na) (sa + na + k2)).size := by
    rw [Array.size_extract, Nat.min_eq_left z3, Nat.add_sub_cancel_left]
    exact Nat.pos_of_ne_zero c2
  have en : (failedOf st).isNone = true := by rw [hf]; rfl
  refine wpS_if (fun c3 => ?_) fun c3 => ?_
  · refine wpS_bind (wpS_mergeLo hk (IntKeys.extract ik) (IntKeys.extract ik) x1 y1 fun out st' hp hg => ?_)
    obtain ⟨g, rfl⟩ := hg
    refine wpS_bind (wpS_modify ?_)
    refine wpS_bind (wpS_get ?_)
    show wpS _ _ _ _ (pure ((failedOf st).isNone)) _ _
    rw [en]
    exact wpS_pure (key _ rfl rfl (merged_perm (i := sa + k) (j := sa + na) (k := sa + na + k2) z1 z2 z3 hp) rfl)
  · refine wpS_bind (wpS_mergeHi hk (IntKeys.extract ik) (IntKeys.extract ik) x1 y1 fun out st' hp hg => ?_)
    obtain ⟨g, rfl⟩ := hg
    refine wpS_bind (wpS_modify ?_)
    refine wpS_bind (wpS_get ?_)
    show wpS _ _ _ _ (pure ((failedOf st).isNone)) _ _
    rw [en]
    exact wpS_pure (key _ rfl rfl (merged_perm (i := sa + k) (j := sa + na) (k := sa + na + k2) z1 z2 z3 hp) rfl)
theorem Runs.push {p : Array (Nat × Nat × Nat)} {s e n q : Nat} (h : Runs s p.toList e) (hn : 1 ≤ n) : Runs s (p.push (e, n, q)).toList (e + n) := by
  rw [Array.toList_push]
  exact Runs.append.mpr ⟨e, h, rfl, hn, rfl⟩
theorem Runs.modify' {l : List (Nat × Nat × Nat)} {pw : Nat} : ∀ {s e i : Nat}, Runs s l e → Runs s (l.modify i fun x => (x.1, x.2.1, pw)) e := by
  induction l with
  | nil => intro s e i h; cases i <;> exact h
  | cons x r ih =>
    obtain ⟨a, n, p⟩ := x
    rintro s e i ⟨h1, h2, h3⟩
    cases i with
    | zero => exact ⟨h1, h2, h3⟩
    | succ i => exact ⟨h1, h2, ih h3⟩
theorem Runs.modify {p : Array (Nat × Nat × Nat)} {pw s e i : Nat} (h : Runs s p.toList e) : Runs s (p.modify i fun x => (x.1, x.2.1, pw)).toList e := by
  rw [Array.toList_modify]
  exact h.modify'
theorem idx_ok (c : Prop) [Decidable c] {n : Nat} (h : ¬ n ≤ 1) : (if c then n - 2 - 1 else n - 2) + 1 < n := by split <;> (first | lia | omega)
theorem wpS_sort {Q : Unit → SortSt → Prop} {st : SortSt} (hk : kindOf st = oneType') (hf : failedOf st = none) (ik : IntKeys (arrOf st)) (hp : pendingOf st = #[])
    (h : ∀ st', R2 st st' → Q () st') : wpS (model prog w) A E s sortRuns' Q st := by
  refine wpS_bind (wpS_get ?_)
  refine wpS_zeta ?_
  dsimp -zeta only
  generalize hN : (arrOf st).size = N
  refine wpS_bind (wpS_mono (wpS_forRange (I := fun _ c st' => ∃ lo, c = (none, lo) ∧ R2 st st' ∧ lo ≤ N ∧ Runs 0 (pendingOf st').toList lo) (Q := fun c st' => ∃ lo, c = (none, lo) ∧ R2 st st' ∧ lo ≤ N ∧ Runs 0 (pendingOf st').toList lo) ?s1 (fun _ _ h => h) ⟨0, rfl, .refl _, Nat.zero_le _, by rw [hp]; rfl⟩) ?p1)
  case p1 =>
    rintro _ st1 ⟨lo, rfl, r1, hlo, hr⟩
    dsimp only
    refine wpS_bind (wpS_mono (wpS_forRange (I := fun _ c st' => c = (none, ()) ∧ R2 st st' ∧ Runs 0 (pendingOf st').toList lo) (Q := fun c st' => c = (none, ()) ∧ R2 st st' ∧ Runs 0 (pendingOf st').toList lo) ?s2 (fun _ _ h => h) ⟨rfl, r1, hr⟩) ?p2)
    case p2 =>
      rintro _ st4 ⟨rfl, r4, hr4⟩
      exact wpS_pure (h _ r4)
    case s2 =>
      rintro y _ st4 _ _ ⟨rfl, r4, hr4⟩
      refine wpS_bind (wpS_get ?_)
      by_cases cs : (pendingOf st4).size ≤ 1
      · rw [if_pos cs]
        exact wpS_pure ⟨rfl, r4, hr4⟩
      · rw [if_neg cs]
        refine wpS_bind (wpS_mergeAt (r4.k.trans hk) (r4.f.trans hf) (IntKeys.perm ik r4.a) hr4 (by rw [r4.a.size_eq, hN]; (first | lia | omega)) (idx_ok _ cs) fun st5 r5 hr5 _ => ?_)
        exact wpS_pure ⟨rfl, r4.trans r5, hr5⟩
  case s1 =>
    rintro x _ st1 _ _ ⟨lo, rfl, r1, hlo, hr⟩
    refine wpS_zeta ?_
    dsimp -zeta only
    refine wpS_if (fun c1 => wpS_pure ⟨lo, rfl, r1, hlo, hr⟩) fun c1 => ?_
    refine wpS_bind (wpS_count (r1.k.trans hk) (IntKeys.perm ik r1.a) (by rw [r1.a.size_eq, hN]; (first | lia | omega)) (by (first | lia | omega)) fun m st2 r2 hm1 hm2 => ?_)
    dsimp -zeta only
    have r2' := r1.trans r2.two
    generalize (sortPriv% PySem.Builtin.minRun) N N 0 = mr
    extract_lets -underBinder +onlyGivenNames n1 jp
    subst n1
    refine wpS_useB jp (fun n st' => R2 st st' ∧ Runs 0 (pendingOf st').toList lo ∧ lo + n ≤ N ∧ 1 ≤ n) (fun n st3 ⟨r3, hr3, hl, hp⟩ => ?v) (fun hjp => ?b)
    case b =>
      clear_value jp
      refine wpS_if (fun c2 => ?_) fun c2 => hjp _ _ ⟨r2', by rw [r2.p]; exact hr, by (first | lia | omega), hm1⟩
      refine wpS_bind (wpS_lift (wpAny_rule ⟨rfl, ?_⟩))
      refine wpS_zeta ?_
      refine wpS_bind (wpS_bsort (r2'.k.trans hk) (IntKeys.perm ik r2'.a) (by rw [r2'.a.size_eq, hN]; (first | lia | omega)) fun st3 r3' => ?_)
      rw [if_neg (by decide)]
      exact hjp _ _ ⟨r2'.trans r3'.two, by rw [r3'.p, r2.p]; exact hr, by (first | lia | omega), by (first | lia | omega)⟩
    case v =>
      dsimp -zeta only [jp]
      clear jp
      refine wpS_bind (wpS_get ?_)
      extract_lets -underBinder +onlyGivenNames jp
      refine wpS_useS jp (fun st' => R2 st st' ∧ Runs 0 (pendingOf st').toList lo) (fun st4 ⟨r4, hr4⟩ => ?v2) (fun hjp => ?b2)
      case v2 =>
        dsimp only [jp]
        exact wpS_bind (wpS_modify (wpS_pure ⟨_, rfl, ⟨r4.k, r4.f, r4.a⟩, hl, Runs.push hr4 hp⟩))
      case b2 =>
        clear_value jp
        rcases hb : (pendingOf st3).back? with _ | ⟨s1, n1, pw⟩
        · exact hjp _ ⟨r3, hr3⟩
        refine wpS_zeta ?_
        refine wpS_bind (wpS_mono (wpS_forRange (I := fun _ c st' => c = (none, ()) ∧ R2 st st' ∧ Runs 0 (pendingOf st').toList lo) (Q := fun c st' => c = (none, ()) ∧ R2 st st' ∧ Runs 0 (pendingOf st').toList lo) ?s2 (fun _ _ h => h) ⟨rfl, r3, hr3⟩) ?p2)
        case p2 =>
          rintro _ st4 ⟨rfl, r4, hr4⟩
          exact wpS_bind (wpS_modify (hjp _ ⟨⟨r4.k, r4.f, r4.a⟩, Runs.modify hr4⟩))
        case s2 =>
          rintro y _ st4 _ _ ⟨rfl, r4, hr4⟩
          refine wpS_bind (wpS_get ?_)
          dsimp only
          by_cases cs : (pendingOf st4).size > 1
          · rw [if_pos cs]
            obtain ⟨⟨a1, a2, older⟩, ho⟩ : ∃ o, (pendingOf st4)[(pendingOf st4).size - 2]? = some o := ⟨_, getElem?_pos _ _ (by (first | lia | omega))⟩
            rw [ho]
            refine wpS_if (fun _ => wpS_pure ⟨rfl, r4, hr4⟩) fun _ => ?_
            refine wpS_bind (wpS_mergeAt (r4.k.trans hk) (r4.f.trans hf) (IntKeys.perm ik r4.a) hr4 (by rw [r4.a.size_eq, hN]; (first | lia | omega)) (by show (pendingOf st4).size - 2 + 1 < (pendingOf st4).size; (first | lia | omega)) fun st5 r5 hr5 _ => ?_)
            exact wpS_pure ⟨rfl, r4.trans r5, hr5⟩
          · rw [if_neg cs]
            exact wpS_pure ⟨rfl, r4, hr4⟩
end
end Mine
open PySem.W PySem.Calls PySem.SeqAt
namespace Mine
theorem perm_snd {vs : List Value} {xs : Array PyProof.Rows.Keyed} (h : xs.Perm (pairsOf vs)) : (xs.map (·.2)).toList.Perm vs := by
  have h1 := (Array.perm_iff_toList_perm.mp h).map (·.2)
  have h2 : (vs.zip vs).map (·.2) = vs := List.map_snd_zip (Nat.le_refl _)
  rw [pairsOf_toList, h2] at h1
  simpa using h1
section
variable {prog : Program} {w : World} {A : Around} {E : Value → Shared → Prop} {s : Shared}
theorem list_sort_any {a : Addr} {vs : List Value} {ns : List Int} {n : Nat} {P : Fin → Shared → Prop} (ho : s.heap.get? a = some (seqObj "list" vs.toArray n)) (hI : IntsAre vs ns) (hz : vs.length ≤ sizeLine)
    (h : ∀ out : Array Value, out.toList.Perm vs → P (.done (.ret .none)) { s with heap := sortedHeap s.heap a vs out }) : wpAny (model prog w) A (Builtin.«list.sort» ⟨[.ref a], []⟩) P E s := by
  rw [list_sort_plain]
  have ha : a < s.heap.objs.size := Heap.lt_size ho
  have hsz : vs.toArray.size = vs.length := by simp
  refine wpAny_bind (listItems_at ho rfl ?_)
  refine wpAny_bind (listUpdate_at ho rfl ?_ (by rw [hsz]; exact hz) (Nat.zero_le _))
  obtain ⟨e1, ho1⟩ : ∃ e1, (s.heap.update a (Obj.mapSeq fun _ => #[])).get? a = some (seqObj "list" #[] e1) := ⟨_, get?_update_seq ho (fun _ => #[])⟩
  refine wpAny_bind (seqEpoch_at ho1 rfl ?_)
  refine wpAny_bind (wpAny_newTuple ?_ (by simpa using hz))
  refine wpAny_bind (wpAny_newList ?_)
  refine wpAny_holding ?_
  have ho6 : (((s.heap.update a (Obj.mapSeq fun _ => #[])).push (seqObj "tuple" vs.toArray 0)).push (seqObj "list" #[] 0)).get? a = some (seqObj "list" #[] e1) := by
    rw [Heap.get?_push_ne _ _ _ (by rw [size_push', Heap.size_update]; exact Nat.ne_of_lt (Nat.lt_succ_of_lt ha)), Heap.get?_push_ne _ _ _ (by rw [Heap.size_update]; exact Nat.ne_of_lt ha)]
    exact ho1
  show wpAny (model prog w) A _ P E { s with heap := ((s.heap.update a (Obj.mapSeq fun _ => #[])).push (seqObj "tuple" vs.toArray 0)).push (seqObj "list" #[] 0) }
  dsimp only
  have psz : (vs.toArray.zip vs.toArray).size = vs.length := pairsOf_size vs
  by_cases h2 : vs.toArray.size < 2
  · rw [if_pos h2, if_pos h2]
    refine wpAny_bind (wpAny_pure ?_)
    rw [StateT.run_pure]
    refine wpAny_bind (wpAny_pure ?_)
    dsimp only
    refine wpAny_bind (seqEpoch_at ho6 rfl ?_)
    refine wpAny_bind (listUpdate_at ho6 rfl ?_ (Nat.zero_le _) (by rw [Array.size_map]; show (pairsOf vs).size ≤ _; rw [pairsOf_size]; (first | lia | omega)))
    simp only [bne_self_eq_false, Bool.false_eq_true, if_false]
    exact wpAny_pure (h _ (perm_snd (Array.Perm.refl (pairsOf vs))))
  · rw [if_neg h2, if_neg h2]
    obtain ⟨v₁, v₂, rest, rfl⟩ : ∃ v₁ v₂ rest, vs = v₁ :: v₂ :: rest := by
      match vs, hsz, h2 with
      | [], _, h2 => simp at h2
      | [_], _, h2 => simp at h2
      | v₁ :: v₂ :: rest, _, _ => exact ⟨v₁, v₂, rest, rfl⟩
    rw [keyKind_ints hI]
    refine wpAny_bind (wpAny_pure ?_)
    refine wpAny_bind (wpAny_mono (wpS_sort (st := SortSt.mk' oneType' ((v₁ :: v₂ :: rest).toArray.zip (v₁ :: v₂ :: rest).toArray) #[] 7 none)
      (Q := fun _ st' => R2 (SortSt.mk' oneType' ((v₁ :: v₂ :: rest).toArray.zip (v₁ :: v₂ :: rest).toArray) #[] 7 none) st') rfl rfl hI.intKeys rfl fun st' r => r) ?_ fun _ _ e => e)
    rintro ⟨⟨⟩, st'⟩ s' ⟨rfl, r⟩
    have hp : (arrOf st').Perm (pairsOf (v₁ :: v₂ :: rest)) := r.a
    have hf : failedOf st' = none := r.f
    dsimp only
    refine wpAny_bind (seqEpoch_at ho6 rfl ?_)
    refine wpAny_bind (listUpdate_at ho6 rfl ?_ (Nat.zero_le _) (by refine Nat.le_trans (Nat.le_of_eq ((Array.size_map ..).trans (hp.size_eq.trans (pairsOf_size _)))) ?_; (first | lia | omega)))
    rw [hf]
    simp only [bne_self_eq_false, Bool.false_eq_true, if_false]
    exact wpAny_pure (h _ (perm_snd hp))
end
theorem cps {P : Prop} (h : ∀ G : Prop, (P → G) → G) : P := h P id
theorem drop_hd {α : Type} {L r : List α} {v : α} {j : Nat} (e : v :: r = L.drop j) : L[j]? = some v := by
  have := congrArg List.head? e
  simpa [List.head?_drop] using this.symm
theorem drop_tl {α : Type} {L r : List α} {v : α} {j : Nat} (e : v :: r = L.drop j) : r = L.drop (j + 1) := by
  have := congrArg List.tail e
  simpa [List.tail_drop] using this
theorem len_s {α : Type} {l : List α} {n : Nat} (h : l.length = n + 1) : ∃ a t, l = a :: t ∧ t.length = n := by
  cases l with
  | nil => cases h
  | cons a t => exact ⟨a, t, rfl, Nat.succ.inj h⟩
theorem len1 {α : Type} {l : List α} (h : l.length = 1) : ∃ a, l = [a] := by
  obtain ⟨a, t, e, g⟩ := len_s h
  exact ⟨a, by rw [e, List.eq_nil_of_length_eq_zero g]⟩
theorem len2 {α : Type} {l : List α} (h : l.length = 2) : ∃ a b, l = [a, b] := by
  obtain ⟨a, t, e, g⟩ := len_s h
  obtain ⟨b, e'⟩ := len1 g
  exact ⟨a, b, by rw [e, e']⟩
theorem len3 {α : Type} {l : List α} (h : l.length = 3) : ∃ a b c, l = [a, b, c] := by
  obtain ⟨a, t, e, g⟩ := len_s h
  obtain ⟨b, c, e'⟩ := len2 g
  exact ⟨a, b, c, by rw [e, e']⟩
theorem len5 {α : Type} {l : List α} (h : l.length = 5) : ∃ a b c d e, l = [a, b, c, d, e] := by
  obtain ⟨a, t, e1, g1⟩ := len_s h
  obtain ⟨b, u, e2, g2⟩ := len_s g1
  obtain ⟨c, d, e, e3⟩ := len3 g2
  exact ⟨a, b, c, d, e, by rw [e1, e2, e3]⟩
theorem dle {a b d : Nat} (h : a ≤ d) (e : Nat.ble b a = true) : b ≤ d := Nat.le_trans (Nat.le_of_ble_eq_true e) h
theorem dle1 {a b d : Nat} (h : a ≤ d) (e : Nat.ble (b + 1) a = true) : b ≤ d - 1 := Nat.le_sub_one_of_lt (dle h e)
theorem dle2 {a b d : Nat} (h : a ≤ d) (e : Nat.ble (b + 2) a = true) : b ≤ d - 1 - 1 := Nat.le_sub_one_of_lt (dle1 h e)

inductive All2 {α β : Type} (R : α → β → Prop) : List α → List β → Prop
  | nil : All2 R [] []
  | cons {a : α} {b : β} {l : List α} {m : List β} : R a b → All2 R l m → All2 R (a :: l) (b :: m)
namespace All2
variable {α β : Type} {R S : α → β → Prop}
theorem length {l : List α} {m : List β} (h : All2 R l m) : l.length = m.length := by
  induction h with
  | nil => rfl
  | cons _ _ ih => simp [ih]
theorem imp (hs : ∀ a b, R a b → S a b) {l : List α} {m : List β} (h : All2 R l m) : All2 S l m := by
  induction h with
  | nil => exact .nil
  | cons a _ ih => exact .cons (hs _ _ a) ih
theorem append {l l' : List α} {m m' : List β} (h : All2 R l m) (h' : All2 R l' m') : All2 R (l ++ l') (m ++ m') := by
  induction h with
  | nil => exact h'
  | cons a _ ih => exact .cons a ih
theorem get {l : List α} {m : List β} (h : All2 R l m) {i : Nat} {a : α} (e : l[i]? = some a) : ∃ b, m[i]? = some b ∧ R a b := by
  induction h generalizing i with
  | nil => simp at e
  | cons x _ ih =>
    cases i with
    | zero => simp at e; subst e; exact ⟨_, by simp, x⟩
    | succ i => simp at e; obtain ⟨b, hb, r⟩ := ih e; exact ⟨b, by simpa using hb, r⟩
theorem get' {l : List α} {m : List β} (h : All2 R l m) {i : Nat} {b : β} (e : m[i]? = some b) : ∃ a, l[i]? = some a ∧ R a b := by
  induction h generalizing i with
  | nil => simp at e
  | cons x _ ih =>
    cases i with
    | zero => simp at e; subst e; exact ⟨_, by simp, x⟩
    | succ i => simp at e; obtain ⟨b, hb, r⟩ := ih e; exact ⟨b, by simpa using hb, r⟩
theorem set {l : List α} {m : List β} (h : All2 R l m) (i : Nat) {a : α} {b : β} (r : R a b) : All2 R (l.set i a) (m.set i b) := by
  induction h generalizing i with
  | nil => exact .nil
  | cons x y ih =>
    cases i with
    | zero => exact .cons r y
    | succ i => exact .cons x (ih i)
theorem take {l : List α} {m : List β} (h : All2 R l m) (i : Nat) : All2 R (l.take i) (m.take i) := by
  induction h generalizing i with
  | nil => simp; exact .nil
  | cons x y ih =>
    cases i with
    | zero => simp; exact .nil
    | succ i => simp only [List.take_succ_cons]; exact .cons x (ih i)
theorem drop {l : List α} {m : List β} (h : All2 R l m) (i : Nat) : All2 R (l.drop i) (m.drop i) := by
  induction h generalizing i with
  | nil => simp; exact .nil
  | cons x y ih =>
    cases i with
    | zero => simp only [List.drop_zero]; exact .cons x y
    | succ i => simp only [List.drop_succ_cons]; exact ih i
theorem reverse {l : List α} {m : List β} (h : All2 R l m) : All2 R l.reverse m.reverse := by
  induction h with
  | nil => exact .nil
  | cons x y ih => simp only [List.reverse_cons]; exact ih.append (.cons x .nil)
end All2

inductive V where
  | none
  | bool (b : Bool)
  | int (i : Int)
  | str (x : Str)
  | ref (i : Nat)
  | ext (a : Addr)
  deriving DecidableEq
inductive O where
  | inst (C : Addr) (fs : List (Str × V))
  | list (vs : List V)
  | tup (vs : List V)
  | sd (es : List (Str × V)) (ep : Nat)
  | idt (es : List (Int × V)) (ep : Nat)
  | rng (a b c : Int)

structure Wd where
  prog : Program
  w : World
  K : Frag
  h₀ : Heap
  view : Program
  loose : List Str
  mg : Str → Option Value
  mb : Str → Option Value
  X : K.In h₀
  sm : ∀ b, h₀.get? b = none → (b == sysModules) = false
  T : TopRead view loose mg mb h₀
noncomputable abbrev mdl (W : Wd) : Model := model W.prog W.w

noncomputable abbrev Map := List (Addr × Addr)
noncomputable def dom (φ : Map) (b : Addr) : Prop := ∃ p ∈ φ, b = p.1 ∨ b = p.2
noncomputable abbrev St (σ : Shared) (h : Heap) (t : Nat) : Shared := { σ with heap := h, toks := t }

inductive VR (φ : Map) : V → Value → Prop
  | none : VR φ .none .none
  | bool (b) : VR φ (.bool b) (.bool b)
  | int (i t) : VR φ (.int i) (.int i t)
  | str (x t) : VR φ (.str x) (.str x t)
  | ref {i a d} : φ[i]? = some (a, d) → VR φ (.ref i) (.ref a)
  | ext (a) : VR φ (.ext a) (.ref a)
noncomputable abbrev VsR (φ : Map) : List V → List Value → Prop := All2 (VR φ)

noncomputable def FR (W : Wd) (φ : Map) (p : Str × V) (e : DictEntry) : Prop := e.hash = PyData.keyHash W.w.params p.1 ∧ (∃ t, e.key = .str p.1 t) ∧ VR φ p.2 e.val
noncomputable def KR {K : Type} (φ : Map) (p : K × V) (q : K × Value) : Prop := p.1 = q.1 ∧ VR φ p.2 q.2
noncomputable abbrev tupObj (its : Array Value) (n : Nat) : Obj := { cls := .type "tuple", data := .seq its n }
noncomputable def OR (W : Wd) (φ : Map) (h : Heap) (p : Addr × Addr) : O → Prop
  | .inst C fs => h.get? p.1 = some (instObj C p.2) ∧ ∃ es n, h.get? p.2 = some (dictOf es n) ∧ All2 (FR W φ) fs es
  | .list vs => p.2 = p.1 ∧ ∃ vs' n, IsL h p.1 vs'.toArray n ∧ VsR φ vs vs'
  | .tup vs => p.2 = p.1 ∧ ∃ vs' n, h.get? p.1 = some (tupObj vs'.toArray n) ∧ VsR φ vs vs'
  | .sd es ep => p.2 = p.1 ∧ ∃ kvs, h.DictAt (strKind W.prog W.w) p.1 kvs ep ∧ All2 (KR φ) es kvs
  | .idt es ep => p.2 = p.1 ∧ ∃ kvs, h.DictAt (intKind W.prog W.w) p.1 kvs ep ∧ All2 (KR φ) es kvs
  | .rng a b c => p.2 = p.1 ∧ ∃ t u v, IsRange h p.1 a b c t u v

noncomputable def Pre (φ φ' : Map) : Prop := ∃ ψ, φ' = φ ++ ψ
theorem Pre.refl (φ : Map) : Pre φ φ := ⟨[], by simp⟩
theorem Pre.trans {a b c : Map} (x : Pre a b) (y : Pre b c) : Pre a c := by
  obtain ⟨p, rfl⟩ := x; obtain ⟨q, rfl⟩ := y; exact ⟨p ++ q, by simp⟩
theorem Pre.get {φ φ' : Map} (x : Pre φ φ') {i : Nat} {p : Addr × Addr} (e : φ[i]? = some p) : φ'[i]? = some p := by
  obtain ⟨ψ, rfl⟩ := x
  have hi : i < φ.length := (List.getElem?_eq_some_iff.mp e).1
  rw [List.getElem?_append_left hi]; exact e
theorem Pre.dom {φ φ' : Map} (x : Pre φ φ') {b : Addr} (h : dom φ b) : dom φ' b := by
  obtain ⟨ψ, rfl⟩ := x
  obtain ⟨p, hp, e⟩ := h
  exact ⟨p, List.mem_append_left _ hp, e⟩
theorem VR.mono {φ φ' : Map} (x : Pre φ φ') {v : V} {v' : Value} (h : VR φ v v') : VR φ' v v' := by
  cases h with
  | none => exact .none
  | bool b => exact .bool b
  | int i t => exact .int i t
  | str s t => exact .str s t
  | ref e => exact .ref (x.get e)
  | ext a => exact .ext a
theorem VsR.mono {φ φ' : Map} (x : Pre φ φ') {vs : List V} {vs' : List Value} (h : VsR φ vs vs') : VsR φ' vs vs' := h.imp fun _ _ => VR.mono x
theorem FR.mono {W : Wd} {φ φ' : Map} (x : Pre φ φ') {p e} (h : FR W φ p e) : FR W φ' p e := ⟨h.1, h.2.1, h.2.2.mono x⟩
theorem KR.mono {K : Type} {φ φ' : Map} (x : Pre φ φ') {p : K × V} {q} (h : KR φ p q) : KR φ' p q := ⟨h.1, h.2.mono x⟩
theorem OR.mono {W : Wd} {φ φ' : Map} (x : Pre φ φ') {h : Heap} {p : Addr × Addr} {o : O} (r : OR W φ h p o) : OR W φ' h p o := by
  cases o with
  | inst C fs => obtain ⟨a, es, n, b, c⟩ := r; exact ⟨a, es, n, b, c.imp fun _ _ => FR.mono x⟩
  | list vs => obtain ⟨a, es, n, b, c⟩ := r; exact ⟨a, es, n, b, VsR.mono x c⟩
  | tup vs => obtain ⟨a, es, n, b, c⟩ := r; exact ⟨a, es, n, b, VsR.mono x c⟩
  | sd es ep => obtain ⟨a, kvs, b, c⟩ := r; exact ⟨a, kvs, b, c.imp fun _ _ => KR.mono x⟩
  | idt es ep => obtain ⟨a, kvs, b, c⟩ := r; exact ⟨a, kvs, b, c.imp fun _ _ => KR.mono x⟩
  | rng a b c => exact r
theorem OR.at {W : Wd} {φ : Map} {h h' : Heap} {p : Addr × Addr} {o : O} (r : OR W φ h p o) (k : ∀ b, (b = p.1 ∨ b = p.2) → ∀ ob, h.get? b = some ob → h'.get? b = some ob) : OR W φ h' p o := by
  cases o with
  | inst C fs => obtain ⟨a, es, n, b, c⟩ := r; exact ⟨k _ (.inl rfl) _ a, es, n, k _ (.inr rfl) _ b, c⟩
  | list vs => obtain ⟨a, es, n, b, c⟩ := r; exact ⟨a, es, n, k _ (.inl rfl) _ b, c⟩
  | tup vs => obtain ⟨a, es, n, b, c⟩ := r; exact ⟨a, es, n, k _ (.inl rfl) _ b, c⟩
  | sd es ep => obtain ⟨a, kvs, b, c⟩ := r; exact ⟨a, kvs, b.at' (k _ (.inl rfl)), c⟩
  | idt es ep => obtain ⟨a, kvs, b, c⟩ := r; exact ⟨a, kvs, b.at' (k _ (.inl rfl)), c⟩
  | rng a b c => obtain ⟨a, t, u, v, b⟩ := r; exact ⟨a, t, u, v, k _ (.inl rfl) _ b⟩
theorem OR.there {W : Wd} {φ : Map} {h : Heap} {p : Addr × Addr} {o : O} (r : OR W φ h p o) {b : Addr} (hb : b = p.1 ∨ b = p.2) : ∃ ob, h.get? b = some ob := by
  cases o with
  | inst C fs =>
    obtain ⟨a, es, n, c, _⟩ := r
    rcases hb with rfl | rfl
    · exact ⟨_, a⟩
    · exact ⟨_, c⟩
  | list vs => obtain ⟨a, es, n, c, _⟩ := r; rw [a, or_self] at hb; subst hb; exact ⟨_, c⟩
  | tup vs => obtain ⟨a, es, n, c, _⟩ := r; rw [a, or_self] at hb; subst hb; exact ⟨_, c⟩
  | sd es ep => obtain ⟨a, kvs, c, _⟩ := r; rw [a, or_self] at hb; subst hb; obtain ⟨o, _, e, _⟩ := c; exact ⟨o, e⟩
  | idt es ep => obtain ⟨a, kvs, c, _⟩ := r; rw [a, or_self] at hb; subst hb; obtain ⟨o, _, e, _⟩ := c; exact ⟨o, e⟩
  | rng _ _ _ => obtain ⟨a, t, u, v, c⟩ := r; rw [a, or_self] at hb; subst hb; exact ⟨_, c⟩

structure HR (W : Wd) (φ : Map) (H : List O) (h : Heap) : Prop where
  base : ∀ b o, W.h₀.get? b = some o → h.get? b = some o
  len : φ.length = H.length
  obj : ∀ (i : Nat) (o : O) (p : Addr × Addr), H[i]? = some o → φ[i]? = some p → OR W φ h p o
  new : ∀ b, dom φ b → W.h₀.get? b = none
  sep : ∀ (i j : Nat) (p q : Addr × Addr), φ[i]? = some p → φ[j]? = some q → i ≠ j → p.1 ≠ q.1 ∧ p.1 ≠ q.2 ∧ p.2 ≠ q.1 ∧ p.2 ≠ q.2
section
variable {W : Wd} {φ φ' : Map} {H : List O} {h h' : Heap}
theorem HR.at (r : HR W φ H h) {i : Nat} {o : O} (e : H[i]? = some o) : ∃ p, φ[i]? = some p ∧ OR W φ h p o := by
  have hi : i < H.length := (List.getElem?_eq_some_iff.mp e).1
  have hj : i < φ.length := r.len ▸ hi
  exact ⟨φ[i], List.getElem?_eq_getElem hj, r.obj i o _ e (List.getElem?_eq_getElem hj)⟩
theorem HR.there (r : HR W φ H h) {b : Addr} (d : dom φ b) : ∃ o, h.get? b = some o := by
  obtain ⟨p, hp, e⟩ := d
  obtain ⟨i, hi, rfl⟩ := List.getElem_of_mem hp
  have hj : i < H.length := r.len ▸ hi
  exact (r.obj i _ _ (List.getElem?_eq_getElem hj) (List.getElem?_eq_getElem hi)).there e
theorem HR.keep (r : HR W φ H h) (k : ∀ b o, dom φ b → h.get? b = some o → h'.get? b = some o) (kb : ∀ b o, W.h₀.get? b = some o → h'.get? b = some o) : HR W φ H h' where
  base := kb
  len := r.len
  obj := fun i o p e e' => (r.obj i o p e e').at fun b hb ob q => k b ob ⟨p, List.mem_of_getElem? e', hb⟩ q
  new := r.new
  sep := r.sep
theorem HR.grow (r : HR W φ H h) (k : ∀ b o, h.get? b = some o → h'.get? b = some o) : HR W φ H h' := r.keep (fun b o _ => k b o) fun b o e => k b o (r.base b o e)
theorem HR.upd (r : HR W φ H h) {i : Nat} {p : Addr × Addr} {o' : O} (ep : φ[i]? = some p) (x : OR W φ h' p o') (k : ∀ b o, b ≠ p.1 → b ≠ p.2 → h.get? b = some o → h'.get? b = some o) : HR W φ (H.set i o') h' where
  base := fun b o e => k b o (fun q => by have := r.new p.1 ⟨p, List.mem_of_getElem? ep, .inl rfl⟩; rw [← q, e] at this; cases this) (fun q => by have := r.new p.2 ⟨p, List.mem_of_getElem? ep, .inr rfl⟩; rw [← q, e] at this; cases this) (r.base b o e)
  len := by rw [List.length_set]; exact r.len
  obj := fun j o q e e' => by
    by_cases hj : i = j
    · subst hj
      rw [List.getElem?_set_self (by rw [← r.len]; exact (List.getElem?_eq_some_iff.mp ep).1)] at e
      cases e
      rw [ep] at e'; cases e'
      exact x
    · rw [List.getElem?_set_ne hj] at e
      have s := r.sep j i q p e' ep (Ne.symm hj)
      refine (r.obj j o q e e').at fun b hb ob z => ?_
      rcases hb with rfl | rfl
      · exact k _ _ s.1 s.2.1 z
      · exact k _ _ s.2.2.1 s.2.2.2 z
  new := r.new
  sep := r.sep
theorem HR.push (r : HR W φ H h) {p : Addr × Addr} {o' : O} (x : OR W (φ ++ [p]) h' p o') (k : ∀ b o, h.get? b = some o → h'.get? b = some o) (n1 : h.get? p.1 = none) (n2 : h.get? p.2 = none) : HR W (φ ++ [p]) (H ++ [o']) h' where
  base := fun b o e => k b o (r.base b o e)
  len := by simp [r.len]
  obj := fun j o q e e' => by
    by_cases hj : j < φ.length
    · rw [List.getElem?_append_left hj] at e'
      rw [List.getElem?_append_left (r.len ▸ hj)] at e
      exact ((r.obj j o q e e').mono ⟨[p], rfl⟩).at fun b _ ob z => k b ob z
    · have : j = φ.length := by
        have h1 := (List.getElem?_eq_some_iff.mp e').1
        simp at h1
        (first | lia | omega)
      subst this
      simp at e'
      rw [r.len] at e
      simp at e
      subst e e'
      exact x
  new := fun b d => by
    obtain ⟨q, hq, e⟩ := d
    rcases List.mem_append.mp hq with hq | hq
    · exact r.new b ⟨q, hq, e⟩
    · simp at hq
      subst hq
      cases z : W.h₀.get? b with
      | none => rfl
      | some o =>
        have := r.base b o z
        rcases e with rfl | rfl
        · rw [n1] at this; cases this
        · rw [n2] at this; cases this
  sep := by
    have old : ∀ i (q : Addr × Addr), φ[i]? = some q → q.1 ≠ p.1 ∧ q.1 ≠ p.2 ∧ q.2 ≠ p.1 ∧ q.2 ≠ p.2 := fun i q e => by
      have m := List.mem_of_getElem? e
      obtain ⟨o1, e1⟩ := r.there ⟨q, m, .inl rfl⟩
      obtain ⟨o2, e2⟩ := r.there ⟨q, m, .inr rfl⟩
      refine ⟨fun z => ?_, fun z => ?_, fun z => ?_, fun z => ?_⟩
      · rw [z, n1] at e1; cases e1
      · rw [z, n2] at e1; cases e1
      · rw [z, n1] at e2; cases e2
      · rw [z, n2] at e2; cases e2
    intro i j a b ea eb ne
    have la := (List.getElem?_eq_some_iff.mp ea).1
    have lb := (List.getElem?_eq_some_iff.mp eb).1
    simp at la lb
    by_cases hi : i < φ.length
    · rw [List.getElem?_append_left hi] at ea
      by_cases hj : j < φ.length
      · rw [List.getElem?_append_left hj] at eb
        exact r.sep i j a b ea eb ne
      · have : j = φ.length := by (first | lia | omega)
        subst this
        simp at eb; subst eb
        exact old i a ea
    · have : i = φ.length := by (first | lia | omega)
      subst this
      simp at ea; subst ea
      have hj : j < φ.length := by (first | lia | omega)
      rw [List.getElem?_append_left hj] at eb
      obtain ⟨x1, x2, x3, x4⟩ := old j b eb
      exact ⟨Ne.symm x1, Ne.symm x3, Ne.symm x2, Ne.symm x4⟩
end

structure Kp (φ : Map) (h : Heap) (φ' : Map) (h' : Heap) : Prop where
  pre : Pre φ φ'
  keep : ∀ b o, ¬ dom φ b → h.get? b = some o → h'.get? b = some o
  new : ∀ b, dom φ' b → dom φ b ∨ h.get? b = none
theorem Kp.refl (φ : Map) (h : Heap) : Kp φ h φ h := ⟨.refl φ, fun _ _ _ e => e, fun _ d => .inl d⟩
theorem Kp.trans {φ φ₁ φ₂ : Map} {h h₁ h₂ : Heap} (x : Kp φ h φ₁ h₁) (y : Kp φ₁ h₁ φ₂ h₂) : Kp φ h φ₂ h₂ where
  pre := x.pre.trans y.pre
  keep := fun b o d e => y.keep b o (fun d' => (x.new b d').elim d fun z => by rw [z] at e; cases e) (x.keep b o d e)
  new := fun b d => by
    rcases y.new b d with d | z
    · exact x.new b d
    · by_cases hd : dom φ b
      · exact .inl hd
      · refine .inr ?_
        cases q : h.get? b with
        | none => rfl
        | some o => have := x.keep b o hd q; rw [z] at this; cases this
theorem Kp.grow {φ : Map} {h h' : Heap} (k : ∀ b o, h.get? b = some o → h'.get? b = some o) : Kp φ h φ h' := ⟨.refl φ, fun b o _ e => k b o e, fun _ d => .inl d⟩
theorem Kp.upd {φ : Map} {h h' : Heap} {i : Nat} {p : Addr × Addr} (ep : φ[i]? = some p) (k : ∀ b o, b ≠ p.1 → b ≠ p.2 → h.get? b = some o → h'.get? b = some o) : Kp φ h φ h' :=
  ⟨.refl φ, fun b o d e => k b o (fun q => d ⟨p, List.mem_of_getElem? ep, .inl q⟩) (fun q => d ⟨p, List.mem_of_getElem? ep, .inr q⟩) e, fun _ d => .inl d⟩
theorem Kp.push {φ : Map} {h h' : Heap} {p : Addr × Addr} (k : ∀ b o, h.get? b = some o → h'.get? b = some o) (n1 : h.get? p.1 = none) (n2 : h.get? p.2 = none) : Kp φ h (φ ++ [p]) h' :=
  ⟨⟨[p], rfl⟩, fun b o _ e => k b o e, fun b d => by
    obtain ⟨q, hq, e⟩ := d
    rcases List.mem_append.mp hq with hq | hq
    · exact .inl ⟨q, hq, e⟩
    · simp at hq; subst hq
      rcases e with rfl | rfl
      · exact .inr n1
      · exact .inr n2⟩
noncomputable abbrev Loc := List (Str × V)
structure Rm (A : Around) (d : Nat) : Prop where
  hh : A.handled = none
  dp : A.depth + d < recursionLimit
  un : A.units + 10 * d + 100 < cLine
theorem Rm.le {A : Around} {d d' : Nat} (r : Rm A d) (h : d' ≤ d) : Rm A d' := ⟨r.hh, by have := r.dp; (first | lia | omega), by have := r.un; (first | lia | omega)⟩
theorem Rm.room {A : Around} {d : Nat} (r : Rm A d) : A.depth < recursionLimit := by have := r.dp; (first | lia | omega)
theorem Rm.unit {A : Around} {d : Nat} (r : Rm A d) : A.units < cLine := by have := r.un; (first | lia | omega)
theorem Rm.deeper {A : Around} {d : Nat} (r : Rm A d) (h : 1 ≤ d) (env : Env) : Rm (A.deeper env) (d - 1) where
  hh := r.hh
  dp := by have := r.dp; show A.depth + 1 + (d - 1) < _; (first | lia | omega)
  un := by have := r.un; show A.units + 3 + 10 * (d - 1) + 100 < _; (first | lia | omega)
theorem Rm.in1 {A : Around} {d : Nat} (r : Rm A d) (h : 1 ≤ d) : Rm A.in1 (d - 1) where
  hh := r.hh
  dp := by have := r.dp; show A.depth + (d - 1) < _; (first | lia | omega)
  un := by have := r.un; show A.units + 1 + 10 * (d - 1) + 100 < _; (first | lia | omega)

structure Fm (W : Wd) (sc : Scope) (env : Env) (φ : Map) (h : Heap) (ρ : Loc) : Prop where
  scq : env.scope = sc
  kind : sc.kind = .function
  glob : env.globals = mainGlobals
  bui : env.builtins = builtinsNs
  fun_ : ∀ x v, ρ.lookup x = some v → sc.names.lookup x = some .local ∨ sc.names.lookup x = some .cell
  ns : ∃ m, h.Ns env.locals m ∧ ∀ x v, ρ.lookup x = some v → sc.names.lookup x = some .local → ∃ v', m x = some v' ∧ VR φ v v'
  cell : ∀ x v, ρ.lookup x = some v → sc.names.lookup x = some .cell → ∃ c v', env.cells.lookup x = some c ∧ h.IsCell c (some v') ∧ VR φ v v'
  cells : ∀ x c, env.cells.lookup x = some c → (∃ v₀, h.IsCell c v₀) ∧ ¬ dom φ c ∧ W.h₀.get? c = none ∧ c ≠ env.locals
  inj : ∀ x y c, env.cells.lookup x = some c → env.cells.lookup y = some c → x = y
  have_ : ∀ x, sc.names.lookup x = some .cell → ∃ c, env.cells.lookup x = some c
  off : ¬ dom φ env.locals ∧ W.h₀.get? env.locals = none
noncomputable def FA (env : Env) (b : Addr) : Prop := b = env.locals ∨ ∃ x, env.cells.lookup x = some b

section
variable {W : Wd} {sc : Scope} {env : Env} {φ φ' : Map} {h h' : Heap} {ρ : Loc}
theorem Fm.lt (F : Fm W sc env φ h ρ) : ∃ o, h.get? env.locals = some o := by obtain ⟨m, ⟨o, _, _, e, _⟩, _⟩ := F.ns; exact ⟨o, e⟩
theorem Fm.cellThere (F : Fm W sc env φ h ρ) {x : Str} {c : Addr} (e : env.cells.lookup x = some c) : ∃ o, h.get? c = some o := by
  obtain ⟨⟨v, o, q, _⟩, _⟩ := F.cells x c e; exact ⟨o, q⟩
theorem Fm.there (F : Fm W sc env φ h ρ) {b : Addr} (e : FA env b) : ¬ dom φ b ∧ ∃ o, h.get? b = some o := by
  rcases e with rfl | ⟨x, e⟩
  · exact ⟨F.off.1, F.lt⟩
  · exact ⟨(F.cells x b e).2.1, F.cellThere e⟩
theorem Fm.keep (F : Fm W sc env φ h ρ) (pre : Pre φ φ') (k : ∀ b o, FA env b → h.get? b = some o → h'.get? b = some o) (nd : ∀ b, FA env b → ¬ dom φ' b) : Fm W sc env φ' h' ρ where
  scq := F.scq
  kind := F.kind
  glob := F.glob
  bui := F.bui
  fun_ := F.fun_
  ns := by
    obtain ⟨m, n, v⟩ := F.ns
    exact ⟨m, n.at' fun o e => k _ o (.inl rfl) e, fun x a e q => by obtain ⟨v', e1, e2⟩ := v x a e q; exact ⟨v', e1, e2.mono pre⟩⟩
  cell := fun x v e q => by
    obtain ⟨c, v', e1, ⟨o, e2, e3⟩, e4⟩ := F.cell x v e q
    exact ⟨c, v', e1, ⟨o, k _ _ (.inr ⟨x, e1⟩) e2, e3⟩, e4.mono pre⟩
  cells := fun x c e => by
    obtain ⟨⟨v, o, e2, e3⟩, _, e5, e6⟩ := F.cells x c e
    exact ⟨⟨v, o, k _ _ (.inr ⟨x, e⟩) e2, e3⟩, nd _ (.inr ⟨x, e⟩), e5, e6⟩
  inj := F.inj
  have_ := F.have_
  off := ⟨nd _ (.inl rfl), F.off.2⟩
theorem Fm.kp (F : Fm W sc env φ h ρ) (k : Kp φ h φ' h') : Fm W sc env φ' h' ρ :=
  F.keep k.pre (fun b o e q => k.keep b o (F.there e).1 q) fun b e d => by
    obtain ⟨n, o, q⟩ := F.there e
    rcases k.new b d with d | z
    · exact n d
    · rw [q] at z; cases z
end

structure Kq (env : Env) (φ : Map) (h : Heap) (φ' : Map) (h' : Heap) : Prop where
  pre : Pre φ φ'
  keep : ∀ b o, ¬ dom φ b → ¬ FA env b → h.get? b = some o → h'.get? b = some o
  new : ∀ b, dom φ' b → dom φ b ∨ h.get? b = none
theorem Kp.q {env : Env} {φ φ' : Map} {h h' : Heap} (k : Kp φ h φ' h') : Kq env φ h φ' h' := ⟨k.pre, fun b o d _ e => k.keep b o d e, k.new⟩
theorem Kq.refl (env : Env) (φ : Map) (h : Heap) : Kq env φ h φ h := (Kp.refl φ h).q
theorem Kq.trans {env : Env} {φ φ₁ φ₂ : Map} {h h₁ h₂ : Heap} (fa : ∀ b, FA env b → ¬ dom φ b ∧ ∃ o, h₁.get? b = some o) (x : Kq env φ h φ₁ h₁) (y : Kq env φ₁ h₁ φ₂ h₂) : Kq env φ h φ₂ h₂ where
  pre := x.pre.trans y.pre
  keep := fun b o d f e => y.keep b o (fun d' => (x.new b d').elim d fun z => by rw [z] at e; cases e) f (x.keep b o d f e)
  new := fun b d => by
    rcases y.new b d with d | z
    · exact x.new b d
    · by_cases hd : dom φ b
      · exact .inl hd
      · refine .inr ?_
        cases q : h.get? b with
        | none => rfl
        | some o =>
          by_cases hf : FA env b
          · obtain ⟨_, o', e⟩ := fa b hf; rw [z] at e; cases e
          · have := x.keep b o hd hf q; rw [z] at this; cases this

noncomputable abbrev Out := Option V
inductive OutR (φ : Map) : Out → Flow → Prop
  | next : OutR φ none .next
  | ret {v v'} : VR φ v v' → OutR φ (some v) (.ret v')

noncomputable def Ev (W : Wd) (d : Nat) (sc : Scope) (ρ : Loc) (H : List O) (e : PySem.Expr) (v : V) (H' : List O) : Prop :=
  ∀ (A : Around) (env : Env) (h : Heap) (t : Nat) (σ : Shared) (φ : Map) (Q : Value → Shared → Prop) (E : Value → Shared → Prop), Rm A d → Fm W sc env φ h ρ → HR W φ H h →
    (∀ v' h' t' φ', VR φ' v v' → HR W φ' H' h' → Kp φ h φ' h' → Q v' (St σ h' t')) → wpAny (mdl W) A (eval e env) Q E (St σ h t)
noncomputable def Tr (W : Wd) (d : Nat) (sc : Scope) (ρ : Loc) (H : List O) (e : PySem.Expr) (b : Bool) (H' : List O) : Prop :=
  ∀ (A : Around) (env : Env) (h : Heap) (t : Nat) (σ : Shared) (φ : Map) (Q : Bool → Shared → Prop) (E : Value → Shared → Prop), Rm A d → Fm W sc env φ h ρ → HR W φ H h →
    (∀ h' t' φ', HR W φ' H' h' → Kp φ h φ' h' → Q b (St σ h' t')) → wpAny (mdl W) A (isTrue e env (eval e env)) Q E (St σ h t)
noncomputable def Ex (W : Wd) (d : Nat) (sc : Scope) (ρ : Loc) (H : List O) (ss : List Stmt) (o : Out) (ρ' : Loc) (H' : List O) : Prop :=
  ∀ (A : Around) (env : Env) (h : Heap) (t : Nat) (σ : Shared) (φ : Map) (Q : Flow → Shared → Prop) (E : Value → Shared → Prop), Rm A d → Fm W sc env φ h ρ → HR W φ H h →
    (∀ f h' t' φ', OutR φ' o f → Fm W sc env φ' h' ρ' → HR W φ' H' h' → Kq env φ h φ' h' → Q f (St σ h' t')) → wpAny (mdl W) A (execs ss env) Q E (St σ h t)
noncomputable def Ex1 (W : Wd) (d : Nat) (sc : Scope) (ρ : Loc) (H : List O) (s : Stmt) (o : Out) (ρ' : Loc) (H' : List O) : Prop :=
  ∀ (A : Around) (env : Env) (h : Heap) (t : Nat) (σ : Shared) (φ : Map) (Q : Flow → Shared → Prop) (E : Value → Shared → Prop), Rm A d → Fm W sc env φ h ρ → HR W φ H h →
    (∀ f h' t' φ', OutR φ' o f → Fm W sc env φ' h' ρ' → HR W φ' H' h' → Kq env φ h φ' h' → Q f (St σ h' t')) → wpAny (mdl W) A (exec s env) Q E (St σ h t)
noncomputable def Fn (W : Wd) (d : Nat) (H : List O) (f : Value) (vs : List V) (v : V) (H' : List O) : Prop :=
  ∀ (A : Around) (h : Heap) (t : Nat) (σ : Shared) (φ : Map) (vs' : List Value) (R : Result → Shared → Prop), Rm A d → HR W φ H h → VsR φ vs vs' →
    (∀ v' h' t' φ', VR φ' v v' → HR W φ' H' h' → Kp φ h φ' h' → R (.ok (.ret v')) (St σ h' t')) → codeAny (mdl W) A (.call f ⟨vs', []⟩) R (St σ h t)

section
variable {W : Wd} {d : Nat} {sc : Scope} {ρ : Loc} {H H₁ H' : List O}
theorem Ev.le {d' : Nat} {e : PySem.Expr} {v : V} (x : Ev W d sc ρ H e v H') (hd : d ≤ d') : Ev W d' sc ρ H e v H' := fun A env h t σ φ Q E r F R k => x A env h t σ φ Q E (r.le hd) F R k
theorem Fn.le {d' : Nat} {f : Value} {vs : List V} {v : V} (x : Fn W d H f vs v H') (hd : d ≤ d') : Fn W d' H f vs v H' := fun A h t σ φ vs' R r F y k => x A h t σ φ vs' R (r.le hd) F y k

theorem ex_nil : Ex W d sc ρ H [] none ρ H := fun A env h t σ φ Q E r F R k => wpAny_execs_nil (k .next h t φ .next F R (.refl _ _ _))
theorem ex_cons {s : Stmt} {ss : List Stmt} {o : Out} {ρ₁ ρ' : Loc} (x : Ex1 W d sc ρ H s none ρ₁ H₁) (y : Ex W d sc ρ₁ H₁ ss o ρ' H') : Ex W d sc ρ H (s :: ss) o ρ' H' :=
  fun A env h t σ φ Q E r F R k => wpAny_execs_cons (x A env h t σ φ _ E r F R fun f h₁ t₁ φ₁ ho F₁ R₁ k₁ => by
    cases ho
    exact y A env h₁ t₁ σ φ₁ Q E r F₁ R₁ fun f h' t' φ' ho F' R' k' => k f h' t' φ' ho F' R' (k₁.trans (fun b e => ⟨(F.there e).1, (F₁.there e).2⟩) k'))
theorem ex_ret {s : Stmt} {ss : List Stmt} {v : V} {ρ' : Loc} (x : Ex1 W d sc ρ H s (some v) ρ' H') : Ex W d sc ρ H (s :: ss) (some v) ρ' H' :=
  fun A env h t σ φ Q E r F R k => wpAny_execs_cons (x A env h t σ φ _ E r F R fun f h₁ t₁ φ₁ ho F₁ R₁ k₁ => by
    cases ho with
    | ret y => exact k _ h₁ t₁ φ₁ (.ret y) F₁ R₁ k₁)
end
section
variable {W : Wd} {d : Nat} {sc : Scope} {ρ : Loc} {H H₁ H₂ H' : List O}

theorem ev_pure {e : PySem.Expr} {v : V}
    (x : ∀ (A : Around) (env : Env) (h : Heap) (t : Nat) (σ : Shared) (φ : Map) (Q : Value → Shared → Prop) (E : Value → Shared → Prop), Rm A d → Fm W sc env φ h ρ → HR W φ H h →
      (∀ v' t', VR φ v v' → Q v' (St σ h t')) → wpAny (mdl W) A (eval e env) Q E (St σ h t)) : Ev W d sc ρ H e v H :=
  fun A env h t σ φ Q E r F R k => x A env h t σ φ Q E r F R fun v' t' y => k v' h t' φ y R (.refl φ h)

theorem ev_int {i : Int} {k : Nat} {p : Pos} : Ev W d sc ρ H (.Constant (.int i) k p) (.int i) H :=
  ev_pure fun A env h t σ φ Q E r F R k => wpAny_Constant_int (k _ _ (.int i t))
theorem ev_str {x : Str} {k : Nat} {p : Pos} : Ev W d sc ρ H (.Constant (.str x) k p) (.str x) H :=
  ev_pure fun A env h t σ φ Q E r F R k => wpAny_Constant_str (k _ _ (.str x t))
theorem ev_none {k : Nat} {p : Pos} : Ev W d sc ρ H (.Constant .none k p) .none H :=
  ev_pure fun A env h t σ φ Q E r F R k => wpAny_Constant_none (k _ _ .none)
theorem ev_bool {b : Bool} {k : Nat} {p : Pos} : Ev W d sc ρ H (.Constant (.bool b) k p) (.bool b) H :=
  ev_pure fun A env h t σ φ Q E r F R k => wpAny_Constant_bool (k _ _ (.bool b))

theorem ev_name {x : Str} {p : Pos} {v : V} (hv : ρ.lookup x = some v) (hd : (x == ("__debug__" : Str)) = false := by decide) : Ev W d sc ρ H (.Name x p) v H :=
  ev_pure fun A env h t σ φ Q E r F R k => by
    refine wpAny_Name ?_ hd
    rcases F.fun_ x v hv with q | q
    · obtain ⟨m, n, f⟩ := F.ns
      obtain ⟨v', e, y⟩ := f x v hv q
      exact wpAny_loadName_local (by rw [F.scq]; exact F.kind) (by show env.scope.names.lookup x = _; rw [F.scq]; exact q) n e (k _ _ y)
    · obtain ⟨c, v', e1, e2, y⟩ := F.cell x v hv q
      exact wpAny_loadName_cell (by rw [F.scq]; exact F.kind) (by show env.scope.names.lookup x = _; rw [F.scq]; exact q) e1 e2 (k _ _ y)

theorem wp_then {α : Type} {e : PySem.Expr} {v : V} {A : Around} {env : Env} {h : Heap} {t : Nat} {σ : Shared} {φ : Map} {Q : Value → Shared → Prop} {E : Value → Shared → Prop} (x : Ev W d sc ρ H e v H₁)
    (r : Rm A d) (F : Fm W sc env φ h ρ) (R : HR W φ H h)
    (k : ∀ v' h' t' φ', VR φ' v v' → Fm W sc env φ' h' ρ → HR W φ' H₁ h' → Kp φ h φ' h' → Q v' (St σ h' t')) : wpAny (mdl W) A (eval e env) Q E (St σ h t) :=
  x A env h t σ φ Q E r F R fun v' h' t' φ' y R' kp => k v' h' t' φ' y (F.kp kp) R' kp

theorem ev_bin {l r : PySem.Expr} {op : Operator} {p : Pos} {a b v : V} (x : Ev W d sc ρ H l a H₁) (y : Ev W d sc ρ H₁ r b H₂)
    (z : ∀ (A : Around) (env : Env) (h : Heap) (t : Nat) (σ : Shared) (φ : Map) (a' b' : Value) (Q : Value → Shared → Prop) (E : Value → Shared → Prop), Rm A d → Fm W sc env φ h ρ → HR W φ H₂ h → VR φ a a' → VR φ b b' →
      (∀ v' h' t' φ', VR φ' v v' → HR W φ' H' h' → Kp φ h φ' h' → Q v' (St σ h' t')) → wpAny (mdl W) A (binaryOp op a' b') Q E (St σ h t)) :
    Ev W d sc ρ H (.BinOp l op r p) v H' :=
  fun A env h t σ φ Q E rm F R k => wpAny_BinOp (x A env h t σ φ _ E rm F R fun a' h₁ t₁ φ₁ ya R₁ k₁ =>
    y A env h₁ t₁ σ φ₁ _ E rm (F.kp k₁) R₁ fun b' h₂ t₂ φ₂ yb R₂ k₂ =>
      z A env h₂ t₂ σ φ₂ a' b' Q E rm ((F.kp k₁).kp k₂) R₂ (ya.mono k₂.pre) yb fun v' h' t' φ' yv R' k' => k v' h' t' φ' yv R' ((k₁.trans k₂).trans k'))

theorem ev_add {l r : PySem.Expr} {p : Pos} {a b : Int} (x : Ev W d sc ρ H l (.int a) H₁) (y : Ev W d sc ρ H₁ r (.int b) H₂) : Ev W d sc ρ H (.BinOp l .Add r p) (.int (a + b)) H₂ :=
  ev_bin x y fun A env h t σ φ a' b' Q E rm F R ya yb k => by cases ya; cases yb; exact add_int (k _ h _ φ (.int _ _) R (.refl _ _))
theorem ev_sub {l r : PySem.Expr} {p : Pos} {a b : Int} (x : Ev W d sc ρ H l (.int a) H₁) (y : Ev W d sc ρ H₁ r (.int b) H₂) : Ev W d sc ρ H (.BinOp l .Sub r p) (.int (a - b)) H₂ :=
  ev_bin x y fun A env h t σ φ a' b' Q E rm F R ya yb k => by cases ya; cases yb; exact sub_int (k _ h _ φ (.int _ _) R (.refl _ _))
theorem ev_mod {l r : PySem.Expr} {p : Pos} {a b : Int} (x : Ev W d sc ρ H l (.int a) H₁) (y : Ev W d sc ρ H₁ r (.int b) H₂) (hb : b ≠ 0) : Ev W d sc ρ H (.BinOp l .Mod r p) (.int (a.fmod b)) H₂ :=
  ev_bin x y fun A env h t σ φ a' b' Q E rm F R ya yb k => by cases ya; cases yb; exact mod_int' hb (k _ h _ φ (.int _ _) R (.refl _ _))
theorem ev_div {l r : PySem.Expr} {p : Pos} {a b : Int} (x : Ev W d sc ρ H l (.int a) H₁) (y : Ev W d sc ρ H₁ r (.int b) H₂) (hb : b ≠ 0) (hs : b.natAbs < 1073741824) : Ev W d sc ρ H (.BinOp l .FloorDiv r p) (.int (a.fdiv b)) H₂ :=
  ev_bin x y fun A env h t σ φ a' b' Q E rm F R ya yb k => by cases ya; cases yb; exact floordiv_int hb (k _ h _ φ (.int _ _) R (.refl _ _)) (.inl (PyProof.noPylong_small hs))
theorem ev_pow {l r : PySem.Expr} {p : Pos} {a b : Int} (x : Ev W d sc ρ H l (.int a) H₁) (y : Ev W d sc ρ H₁ r (.int b) H₂) (hn : 0 ≤ b) (hs : (Builtin.Int.intBits a : Int) * b ≤ 2 ^ 27) : Ev W d sc ρ H (.BinOp l .Pow r p) (.int (a ^ b.toNat)) H₂ :=
  ev_bin x y fun A env h t σ φ a' b' Q E rm F R ya yb k => by cases ya; cases yb; exact pow_int hn hs (k _ h _ φ (.int _ _) R (.refl _ _))
theorem ev_cat {l r : PySem.Expr} {p : Pos} {a b : Str} (x : Ev W d sc ρ H l (.str a) H₁) (y : Ev W d sc ρ H₁ r (.str b) H₂) (hs : a.length + b.length ≤ sizeLine) : Ev W d sc ρ H (.BinOp l .Add r p) (.str (a ++ b)) H₂ :=
  ev_bin x y fun A env h t σ φ a' b' Q E rm F R ya yb k => by cases ya; cases yb; exact add_str (fun t' tk => k _ h _ φ (.str _ _) R (.refl _ _)) hs
theorem ev_neg {e : PySem.Expr} {p : Pos} {a : Int} (x : Ev W d sc ρ H e (.int a) H₁) : Ev W d sc ρ H (.UnaryOp .USub e p) (.int (-a)) H₁ :=
  fun A env h t σ φ Q E rm F R k => wpAny_UnaryOp (x A env h t σ φ _ E rm F R fun a' h₁ t₁ φ₁ ya R₁ k₁ => by cases ya; exact neg_int (k _ h₁ _ φ₁ (.int _ _) R₁ k₁))

noncomputable def isCall : PySem.Expr → Bool
  | .Call .. => true
  | _ => false
theorem attributeBase_plain {value : PySem.Expr} {attr : Str} {env : Env} {t : Sem Value} (h : isCall value = false) : attributeBase value attr env t = t := by
  cases value <;> first | rfl | cases h

noncomputable def attrOk (K : Frag) (C : Addr) (name : Str) : Bool := plainGet K C name && hasDictIn K C && (match findIn K (.ref C) name with | some a => noGet K a | none => false)
theorem fr_get {φ : Map} {fs : List (Str × V)} {es : List DictEntry} (x : All2 (FR W φ) fs es) {name : Str} {v : V} (e : fs.lookup name = some v) : ∃ v', getL name es = some (some v') ∧ VR φ v v' := by
  induction x with
  | nil => cases e
  | @cons p en fs es hp _ ih =>
    obtain ⟨n, u⟩ := p
    obtain ⟨h1, ⟨t, h2⟩, h3⟩ := hp
    unfold getL
    rw [List.lookup_cons] at e
    have hk : en.key.isStr name = (n == name) := by rw [h2]; rfl
    by_cases hn : name = n
    · subst hn
      simp only [beq_self_eq_true] at e
      cases e
      refine ⟨en.val, ?_, h3⟩
      rw [List.find?_cons, hk]
      simp
    · have hf : (name == n) = false := by simpa using hn
      rw [hf] at e
      obtain ⟨v', g, y⟩ := ih e
      refine ⟨v', ?_, y⟩
      have hf' : (n == name) = false := by simpa using fun q => hn q.symm
      unfold getL at g
      rw [List.find?_cons, hk, hf']
      simp only
      split at g
      · exact g
      · split at g <;> cases g
theorem VR.handed {φ : Map} {v : V} {v' : Value} (x : VR φ v v') : handedIn v' = true := by cases x <;> rfl
theorem wp_getattr {A : Around} {h : Heap} {t : Nat} {σ : Shared} {φ : Map} {i : Nat} {C : Addr} {fs : List (Str × V)} {name : Str} {v : V} {v₀ : Value} {ex : Bool} {Q : Value → Shared → Prop} {E : Value → Shared → Prop}
    (R : HR W φ H h) (ho : H[i]? = some (.inst C fs)) (hl : fs.lookup name = some v) (hc : attrOk W.K C name = true) (y : VR φ (.ref i) v₀) (k : ∀ v' t', VR φ v v' → Q v' (St σ h t')) :
    wpAny (mdl W) A (getAttr v₀ name ex) Q E (St σ h t) := by
  cases y with
  | @ref _ a dx ea =>
    obtain ⟨p, ep, o1, es, n, o2, fr⟩ := R.at ho
    rw [ea] at ep; cases ep
    obtain ⟨v', g, y'⟩ := fr_get fr hl
    unfold attrOk at hc
    simp only [Bool.and_eq_true] at hc
    obtain ⟨⟨c1, c2⟩, c3⟩ := hc
    split at c3
    · rename_i at' q
      exact get_value (s := St σ h t) (W.X.keeps R.base) ⟨o1, rfl, rfl, o2⟩ (plainGet_of c1).1 (findObj_own c2 q c3 ((lookIn_dict name es n).trans g)) y'.handed (k v' _ y')
    · cases c3
theorem ev_attr {value : PySem.Expr} {attr : Str} {p : Pos} {i : Nat} {C : Addr} {fs : List (Str × V)} {v : V} (x : Ev W d sc ρ H value (.ref i) H₁) (ho : H₁[i]? = some (.inst C fs)) (hl : fs.lookup attr = some v)
    (hc : attrOk W.K C attr = true) (hn : isCall value = false := by rfl) : Ev W d sc ρ H (.Attribute value attr p) v H₁ :=
  fun A env h t σ φ Q E rm F R k => Attribute_any_ (x A env h t σ φ _ E rm F R fun a' h₁ t₁ φ₁ ya R₁ k₁ => wp_getattr R₁ ho hl hc ya fun v' t' y => k v' h₁ t' φ₁ y R₁ k₁)
    (by show (do let o ← attributeBase value attr env (eval value env); _) = _; rw [attributeBase_plain hn])
end
section
variable {W : Wd} {d : Nat} {sc : Scope} {ρ : Loc} {H H₁ H₂ H' : List O}

noncomputable def CmpR (W : Wd) (d : Nat) (H : List O) (op : CmpOp) (a b : V) (c : Bool) : Prop :=
  ∀ (A : Around) (h : Heap) (t : Nat) (σ : Shared) (φ : Map) (a' b' : Value) (Q : Value → Shared → Prop) (E : Value → Shared → Prop), Rm A d → HR W φ H h → VR φ a a' → VR φ b b' →
    (∀ h' t', HR W φ H h' → Kp φ h φ h' → Q (.bool c) (St σ h' t')) → wpAny (mdl W) A (compareOp op a' b') Q E (St σ h t)
theorem cmp_pure {op : CmpOp} {a b : V} {c : Bool}
    (x : ∀ (A : Around) (h : Heap) (t : Nat) (σ : Shared) (φ : Map) (a' b' : Value) (Q : Value → Shared → Prop) (E : Value → Shared → Prop), Rm A d → HR W φ H h → VR φ a a' → VR φ b b' →
      (∀ t', Q (.bool c) (St σ h t')) → wpAny (mdl W) A (compareOp op a' b') Q E (St σ h t)) : CmpR W d H op a b c :=
  fun A h t σ φ a' b' Q E r R ya yb k => x A h t σ φ a' b' Q E r R ya yb fun t' => k h t' R (.refl φ h)
theorem CmpR.to {op : CmpOp} {a b : V} {c c' : Bool} (x : CmpR W d H op a b c) (e : c = c') : CmpR W d H op a b c' := e ▸ x
theorem cmp_eq_int {a b : Int} : CmpR W d H .Eq (.int a) (.int b) (a == b) := cmp_pure fun A h t σ φ a' b' Q E r R ya yb k => by cases ya; cases yb; exact eq_int (k t)
theorem cmp_ne_int {a b : Int} : CmpR W d H .NotEq (.int a) (.int b) (a != b) := cmp_pure fun A h t σ φ a' b' Q E r R ya yb k => by cases ya; cases yb; exact ne_int (k t)
theorem cmp_lt {a b : Int} : CmpR W d H .Lt (.int a) (.int b) (decide (a < b)) := cmp_pure fun A h t σ φ a' b' Q E r R ya yb k => by cases ya; cases yb; exact lt_int (k t)
theorem cmp_gt {a b : Int} : CmpR W d H .Gt (.int a) (.int b) (decide (b < a)) := cmp_pure fun A h t σ φ a' b' Q E r R ya yb k => by cases ya; cases yb; exact gt_int (k t)
theorem cmp_eq_str {a b : Str} : CmpR W d H .Eq (.str a) (.str b) (a == b) := cmp_pure fun A h t σ φ a' b' Q E r R ya yb k => by cases ya; cases yb; exact eq_str (k t)
theorem cmp_is_none {a : V} : CmpR W d H .Is a .none (decide (a = .none)) := cmp_pure fun A h t σ φ a' b' Q E r R ya yb k => by
  cases yb
  cases ya with
  | none => exact wpAny_is_self rfl (by simpa using k t)
  | bool b => exact is_bool_none (by simpa using k t)
  | int i u => exact is_int_none (by simpa using k t)
  | str x u => exact is_str_none (by simpa using k t)
  | ref e => exact is_ref_none (by simpa using k t)
  | ext a => exact is_ref_none (by simpa using k t)
theorem cmp_isnot_none {a : V} : CmpR W d H .IsNot a .none (decide (a ≠ .none)) := cmp_pure fun A h t σ φ a' b' Q E r R ya yb k => by
  cases yb
  cases ya with
  | none => exact wpAny_isNot_self rfl (by simpa using k t)
  | bool b => exact isnot_bool_none (by simpa using k t)
  | int i u => exact isnot_int_none (by simpa using k t)
  | str x u => exact isnot_str_none (by simpa using k t)
  | ref e => exact isnot_ref_none (by simpa using k t)
  | ext a => exact isnot_ref_none (by simpa using k t)

theorem ev_cmp {l r : PySem.Expr} {op : CmpOp} {p : Pos} {a b : V} {c : Bool} (x : Ev W d sc ρ H l a H₁) (y : Ev W d sc ρ H₁ r b H₂) (z : CmpR W d H₂ op a b c) (hm : behindInMarks op r = false := by rfl) :
    Ev W d sc ρ H (.Compare l [op] [r] p) (.bool c) H₂ :=
  fun A env h t σ φ Q E rm F R k => wpAny_Compare1 (x A env h t σ φ _ E rm F R fun a' h₁ t₁ φ₁ ya R₁ k₁ =>
    y A env h₁ t₁ σ φ₁ _ E rm (F.kp k₁) R₁ fun b' h₂ t₂ φ₂ yb R₂ k₂ =>
      z A h₂ t₂ σ φ₂ a' b' Q E rm R₂ (ya.mono k₂.pre) yb fun h' t' R' k' => k _ h' t' φ₂ (.bool c) R' ((k₁.trans k₂).trans k')) hm
theorem tr_cmp {l r : PySem.Expr} {op : CmpOp} {p : Pos} {a b : V} {c : Bool} (x : Ev W d sc ρ H l a H₁) (y : Ev W d sc ρ H₁ r b H₂) (z : CmpR W d H₂ op a b c) (hm : behindInMarks op r = false := by rfl) :
    Tr W d sc ρ H (.Compare l [op] [r] p) c H₂ :=
  fun A env h t σ φ Q E rm F R k => wpAny_isTrue_Compare1 (x A env h t σ φ _ E rm F R fun a' h₁ t₁ φ₁ ya R₁ k₁ =>
    y A env h₁ t₁ σ φ₁ _ E rm (F.kp k₁) R₁ fun b' h₂ t₂ φ₂ yb R₂ k₂ =>
      z A h₂ t₂ σ φ₂ a' b' _ E rm R₂ (ya.mono k₂.pre) yb fun h' t' R' k' => wpAny_truthy_bool (k h' t' φ₂ R' ((k₁.trans k₂).trans k'))) hm
noncomputable def plainT : PySem.Expr → Bool
  | .UnaryOp .Not _ _ | .BoolOp .. | .IfExp .. | .Compare .. => false
  | _ => true
theorem isTrue_plainT {e : PySem.Expr} {env : Env} {whole : Sem Value} (h : plainT e = true) : isTrue e env whole = (do let v ← whole; standAt e.pos; holding [v] (truthy v)) := by
  cases e <;> first | rfl | cases h | (rename_i op _ _; cases op <;> first | rfl | cases h)
theorem tr_ev {e : PySem.Expr} {b : Bool} (x : Ev W d sc ρ H e (.bool b) H') (hp : plainT e = true := by rfl) : Tr W d sc ρ H e b H' :=
  fun A env h t σ φ Q E rm F R k => PyProof.Rows.isTrue_plain (x A env h t σ φ _ E rm F R fun a' h₁ t₁ φ₁ ya R₁ k₁ => by cases ya; exact wpAny_truthy_bool (k h₁ t₁ φ₁ R₁ k₁)) (isTrue_plainT hp)
theorem tr_not {e : PySem.Expr} {b c : Bool} {p : Pos} (x : Tr W d sc ρ H e b H') (hb : c = !b := by rfl) : Tr W d sc ρ H (.UnaryOp .Not e p) c H' := hb ▸
  fun A env h t σ φ Q E rm F R k => isTrue_not (x A env h t σ φ _ E rm F R fun h₁ t₁ φ₁ R₁ k₁ => k h₁ t₁ φ₁ R₁ k₁)
theorem tr_and_nil {p : Pos} : Tr W d sc ρ H (.BoolOp .And [] p) true H := fun A env h t σ φ Q E rm F R k => wpAny_pure (k h t φ R (.refl _ _))
theorem tr_or_nil {p : Pos} : Tr W d sc ρ H (.BoolOp .Or [] p) false H := fun A env h t σ φ Q E rm F R k => wpAny_pure (k h t φ R (.refl _ _))
theorem isTrue_and_cons {e : PySem.Expr} {es : List PySem.Expr} {p : Pos} {env : Env} {w w' : Sem Value} : isTrue (.BoolOp .And (e :: es) p) env w = (do if ← isTrue e env (eval e env) then isTrue (.BoolOp .And es p) env w' else pure false) := by
  show (do match BoolOp.And, ← isTrue e env (eval e env) with | .And, false => pure false | .Or, true => pure true | _, _ => allTrue .And es env) = _
  congr 1
  funext b
  cases b <;> rfl
theorem isTrue_or_cons {e : PySem.Expr} {es : List PySem.Expr} {p : Pos} {env : Env} {w w' : Sem Value} : isTrue (.BoolOp .Or (e :: es) p) env w = (do if ← isTrue e env (eval e env) then pure true else isTrue (.BoolOp .Or es p) env w') := by
  show (do match BoolOp.Or, ← isTrue e env (eval e env) with | .And, false => pure false | .Or, true => pure true | _, _ => allTrue .Or es env) = _
  congr 1
  funext b
  cases b <;> rfl
theorem tr_and {e : PySem.Expr} {es : List PySem.Expr} {p : Pos} {b c : Bool} (x : Tr W d sc ρ H e b H₁) (y : b = true → Tr W d sc ρ H₁ (.BoolOp .And es p) c H₂) (hb : b = false → c = false ∧ H₂ = H₁) :
    Tr W d sc ρ H (.BoolOp .And (e :: es) p) c H₂ := fun A env h t σ φ Q E rm F R k => by
  rw [isTrue_and_cons (w' := eval (.BoolOp .And es p) env)]
  refine wpAny_bind (x A env h t σ φ _ E rm F R fun h₁ t₁ φ₁ R₁ k₁ => ?_)
  cases b with
  | true => exact y rfl A env h₁ t₁ σ φ₁ Q E rm (F.kp k₁) R₁ fun h' t' φ' R' k' => k h' t' φ' R' (k₁.trans k')
  | false =>
    obtain ⟨rfl, rfl⟩ := hb rfl
    exact wpAny_pure (k h₁ t₁ φ₁ R₁ k₁)
theorem tr_or {e : PySem.Expr} {es : List PySem.Expr} {p : Pos} {b c : Bool} (x : Tr W d sc ρ H e b H₁) (y : b = false → Tr W d sc ρ H₁ (.BoolOp .Or es p) c H₂) (hb : b = true → c = true ∧ H₂ = H₁) :
    Tr W d sc ρ H (.BoolOp .Or (e :: es) p) c H₂ := fun A env h t σ φ Q E rm F R k => by
  rw [isTrue_or_cons (w' := eval (.BoolOp .Or es p) env)]
  refine wpAny_bind (x A env h t σ φ _ E rm F R fun h₁ t₁ φ₁ R₁ k₁ => ?_)
  cases b with
  | false => exact y rfl A env h₁ t₁ σ φ₁ Q E rm (F.kp k₁) R₁ fun h' t' φ' R' k' => k h' t' φ' R' (k₁.trans k')
  | true =>
    obtain ⟨rfl, rfl⟩ := hb rfl
    exact wpAny_pure (k h₁ t₁ φ₁ R₁ k₁)
theorem ev_if {test body orelse : PySem.Expr} {p : Pos} {b : Bool} {v : V} (x : Tr W d sc ρ H test b H₁) (y : b = true → Ev W d sc ρ H₁ body v H₂) (z : b = false → Ev W d sc ρ H₁ orelse v H₂) :
    Ev W d sc ρ H (.IfExp test body orelse p) v H₂ := fun A env h t σ φ Q E rm F R k => by
  refine wpAny_IfExp (x A env h t σ φ _ E rm F R fun h₁ t₁ φ₁ R₁ k₁ => ?_)
  cases b with
  | true => exact y rfl A env h₁ t₁ σ φ₁ Q E rm (F.kp k₁) R₁ fun v' h' t' φ' yv R' k' => k v' h' t' φ' yv R' (k₁.trans k')
  | false => exact z rfl A env h₁ t₁ σ φ₁ Q E rm (F.kp k₁) R₁ fun v' h' t' φ' yv R' k' => k v' h' t' φ' yv R' (k₁.trans k')

theorem ev_ifT {test body orelse : PySem.Expr} {p : Pos} {v : V} (x : Tr W d sc ρ H test true H₁) (y : Ev W d sc ρ H₁ body v H₂) : Ev W d sc ρ H (.IfExp test body orelse p) v H₂ := ev_if x (fun _ => y) fun e => by cases e
theorem ev_ifF {test body orelse : PySem.Expr} {p : Pos} {v : V} (x : Tr W d sc ρ H test false H₁) (y : Ev W d sc ρ H₁ orelse v H₂) : Ev W d sc ρ H (.IfExp test body orelse p) v H₂ := ev_if x (fun e => by cases e) fun _ => y
noncomputable def EvA (W : Wd) (d : Nat) (sc : Scope) (ρ : Loc) (H : List O) (es : List PySem.Expr) (vs : List V) (H' : List O) : Prop :=
  ∀ (A : Around) (env : Env) (h : Heap) (t : Nat) (σ : Shared) (φ : Map) (p : Pos) (Q : List Value → Shared → Prop) (E : Value → Shared → Prop), Rm A d → Fm W sc env φ h ρ → HR W φ H h →
    (∀ vs' h' t' φ', VsR φ' vs vs' → HR W φ' H' h' → Kp φ h φ' h' → Q vs' (St σ h' t')) → wpAny (mdl W) A (spliced (backTo p (starEach es env))) Q E (St σ h t)
noncomputable def isStar : PySem.Expr → Bool
  | .Starred .. => true
  | _ => false
theorem starEach_cons {e : PySem.Expr} {es : List PySem.Expr} {env : Env} (h : isStar e = false) : starEach (e :: es) env = (false, eval e env) :: starEach es env := by
  cases e <;> first | rfl | cases h
theorem eva_nil : EvA W d sc ρ H [] [] H := fun A env h t σ φ p Q E rm F R k => spliced_nil (k [] h t φ .nil R (.refl _ _))
theorem eva_cons {e : PySem.Expr} {es : List PySem.Expr} {v : V} {vs : List V} (x : Ev W d sc ρ H e v H₁) (y : EvA W d sc ρ H₁ es vs H₂) (hs : isStar e = false := by rfl) : EvA W d sc ρ H (e :: es) (v :: vs) H₂ :=
  fun A env h t σ φ p Q E rm F R k => by
    rw [starEach_cons hs]
    exact spliced_cons (x A env h t σ φ _ E rm F R fun v' h₁ t₁ φ₁ yv R₁ k₁ => y A env h₁ t₁ σ φ₁ p _ E rm (F.kp k₁) R₁ fun vs' h' t' φ' yvs R' k' => k _ h' t' φ' (.cons (yv.mono k'.pre) yvs) R' (k₁.trans k'))
noncomputable def noStars : List PySem.Expr → Bool
  | [] => true
  | e :: es => !isStar e && noStars es
theorem backTo_plain {es : List PySem.Expr} {env : Env} {p : Pos} (h : noStars es = true) : (backTo p (starEach es env)).any (·.1) = false := by
  induction es with
  | nil => rfl
  | cons e es ih =>
    unfold noStars at h
    simp only [Bool.and_eq_true, Bool.not_eq_true'] at h
    rw [starEach_cons h.1]
    show (false || (backTo p (starEach es env)).any (·.1)) = false
    rw [ih h.2]; rfl
theorem wp_callWith {A : Around} {env : Env} {h : Heap} {t : Nat} {σ : Shared} {φ : Map} {p : Pos} {f : Value} {first : List Value} {es : List PySem.Expr} {vs : List V} {Q : Value → Shared → Prop} {E : Value → Shared → Prop}
    (hk : ∀ g, (∀ b o, W.h₀.get? b = some o → g.get? b = some o) → ∃ k, (k = Keeper.frame ∨ k = Keeper.machine ∨ k = Keeper.boundFrame) ∧ Looks (mdl W) g (keeperOf f) k)
    (x : EvA W d sc ρ H es vs H₁) (hs : noStars es = true) (rm : Rm A d) (F : Fm W sc env φ h ρ) (R : HR W φ H h)
    (k : ∀ vs' h' t' φ', VsR φ' vs vs' → HR W φ' H₁ h' → Kp φ h φ' h' → wpAny (mdl W) A (call f (first ++ vs')) Q E (St σ h' t')) :
    wpAny (mdl W) A (callWith p f first (backTo p (starEach es env)) []) Q E (St σ h t) := by
  refine callWith_of (P := fun g => ∀ b o, W.h₀.get? b = some o → g.get? b = some o) (by rw [backTo_plain hs]; rfl) hk ?_
  cases es with
  | nil =>
    have := x A env h t σ φ p (fun vs' s' => (∀ b o, W.h₀.get? b = some o → s'.heap.get? b = some o) ∧ wpAny (mdl W) A (call f (first ++ vs')) Q E s') E rm F R
      fun vs' h' t' φ' y R' kp => ⟨R'.base, k vs' h' t' φ' y R' kp⟩
    intro Γ q hΓ
    exact evalArgs_nil3 (this Γ q hΓ) Γ q hΓ
  | cons e es =>
    have hs' := hs
    unfold noStars at hs'
    simp only [Bool.and_eq_true, Bool.not_eq_true'] at hs'
    rw [starEach_cons hs'.1]
    refine evalArgs_plain ?_
    have := x A env h t σ φ p (fun vs' s' => (∀ b o, W.h₀.get? b = some o → s'.heap.get? b = some o) ∧ wpAny (mdl W) A (call f (first ++ vs')) Q E s') E rm F R
      fun vs' h' t' φ' y R' kp => ⟨R'.base, k vs' h' t' φ' y R' kp⟩
    rw [starEach_cons hs'.1] at this
    exact this
theorem keeps_def {f : Value} (hk : keepIn W.K f = true) (g : Heap) (b : ∀ b o, W.h₀.get? b = some o → g.get? b = some o) : ∃ k, (k = Keeper.frame ∨ k = Keeper.machine ∨ k = Keeper.boundFrame) ∧ Looks (mdl W) g (keeperOf f) k :=
  keeps_K hk g (W.X.keeps b)
theorem keeps_machine {f : Value} (hf : ∀ a, f ≠ .ref a) (g : Heap) (_ : ∀ b o, W.h₀.get? b = some o → g.get? b = some o) : ∃ k, (k = Keeper.frame ∨ k = Keeper.machine ∨ k = Keeper.boundFrame) ∧ Looks (mdl W) g (keeperOf f) k :=
  ⟨.machine, .inr (.inl rfl), Looks.of_pure (by cases f <;> first | rfl | exact absurd rfl (hf _))⟩
theorem wp_global {A : Around} {env : Env} {h : Heap} {t : Nat} {σ : Shared} {φ : Map} {x : Str} {p : Pos} {f : Value} {Q : Value → Shared → Prop} {E : Value → Shared → Prop} (F : Fm W sc env φ h ρ) (R : HR W φ H h)
    (hx : sc.names.lookup x = some .globalImplicit) (e : nsIn W.K mainGlobals x = some (some f)) (k : Q f (St σ h t)) (hd : (x == ("__debug__" : Str)) = false := by decide) : wpAny (mdl W) A (eval (.Name x p) env) Q E (St σ h t) :=
  Name_function_global (by rw [F.scq]; exact F.kind) (by show env.scope.names.lookup x = _; rw [F.scq]; exact hx) (loadGlobal_global (by rw [F.glob]; exact W.T.g.keeps R.base) (mg_of W.X W.T.g e) k) hd
theorem wp_builtin {A : Around} {env : Env} {h : Heap} {t : Nat} {σ : Shared} {φ : Map} {x : Str} {p : Pos} {f : Value} {Q : Value → Shared → Prop} {E : Value → Shared → Prop} (F : Fm W sc env φ h ρ) (R : HR W φ H h)
    (hx : sc.names.lookup x = some .globalImplicit) (e : nsIn W.K mainGlobals x = some none) (hv : bootBuiltins x = some f) (hn : x ≠ "__name__") (k : Q f (St σ h t)) (hd : (x == ("__debug__" : Str)) = false := by decide) :
    wpAny (mdl W) A (eval (.Name x p) env) Q E (St σ h t) :=
  Name_function_global (by rw [F.scq]; exact F.kind) (by show env.scope.names.lookup x = _; rw [F.scq]; exact hx)
    (loadGlobal_builtin (by rw [F.glob]; exact W.T.g.keeps R.base) (mg_none_of W.X W.T.g e) (by rw [F.bui]; exact W.T.b.keeps R.base) ((W.T.builtins x hn).trans hv) k) hd
end
theorem zip_lookup_mem {α : Type} {names : List Str} {vs : List α} {x : Str} {v : α} (e : (names.zip vs).lookup x = some v) : x ∈ names := by
  induction names generalizing vs with
  | nil => simp at e
  | cons n ns ih =>
    cases vs with
    | nil => simp at e
    | cons u us =>
      simp only [List.zip_cons_cons, List.lookup_cons] at e
      by_cases h : x = n
      · subst h; exact .head _
      · have : (x == n) = false := by simpa using h
        rw [this] at e
        exact .tail _ (ih e)
theorem bindL_skip {kindOf : Str → Option NameKind} {x : Str} : ∀ {binds : List (Str × Value)} {m : Str → Option Value}, (∀ p ∈ binds, p.1 ≠ x) → bindL kindOf binds m x = m x
  | [], m, _ => rfl
  | (n, v) :: r, m, h => by
    unfold bindL
    rw [bindL_skip fun p hp => h p (.tail _ hp)]
    have := h (n, v) (.head _)
    split
    · simp [Ne.symm this]
    · rfl
theorem bindC_skip {kindOf : Str → Option NameKind} {x : Str} : ∀ {binds : List (Str × Value)} {m : Str → Option Value}, (∀ p ∈ binds, p.1 ≠ x) → bindC kindOf binds m x = m x
  | [], m, _ => rfl
  | (n, v) :: r, m, h => by
    unfold bindC
    rw [bindC_skip fun p hp => h p (.tail _ hp)]
    have := h (n, v) (.head _)
    split
    · rfl
    · simp [Ne.symm this]
theorem zip_fst {names : List Str} {vs : List Value} {x : Str} (h : x ∉ names) : ∀ p ∈ names.zip vs, p.1 ≠ x := fun p hp e => h (e ▸ (List.of_mem_zip hp).1)
theorem bindL_zip {φ : Map} {kindOf : Str → Option NameKind} {x : Str} {v : V} (hk : kindOf x = some .local) : ∀ {names : List Str} {vs : List V} {vs' : List Value} {m : Str → Option Value}, names.Nodup → VsR φ vs vs' → (names.zip vs).lookup x = some v →
    ∃ v', bindL kindOf (names.zip vs') m x = some v' ∧ VR φ v v'
  | [], _, _, _, _, _, e => by simp at e
  | n :: ns, [], _, _, _, _, e => by simp at e
  | n :: ns, u :: us, _, m, nd, .cons (b := u') y ys, e => by
    rw [List.nodup_cons] at nd
    simp only [List.zip_cons_cons, List.lookup_cons] at e
    simp only [List.zip_cons_cons]
    unfold bindL
    by_cases h : x = n
    · subst h
      simp only [beq_self_eq_true] at e
      cases e
      rw [bindL_skip (zip_fst nd.1), if_pos hk]
      exact ⟨u', by simp, y⟩
    · have : (x == n) = false := by simpa using h
      rw [this] at e
      exact bindL_zip hk nd.2 ys e
theorem bindC_zip {φ : Map} {kindOf : Str → Option NameKind} {x : Str} {v : V} (hk : kindOf x ≠ some .local) : ∀ {names : List Str} {vs : List V} {vs' : List Value} {m : Str → Option Value}, names.Nodup → VsR φ vs vs' → (names.zip vs).lookup x = some v →
    ∃ v', bindC kindOf (names.zip vs') m x = some v' ∧ VR φ v v'
  | [], _, _, _, _, _, e => by simp at e
  | n :: ns, [], _, _, _, _, e => by simp at e
  | n :: ns, u :: us, _, m, nd, .cons (b := u') y ys, e => by
    rw [List.nodup_cons] at nd
    simp only [List.zip_cons_cons, List.lookup_cons] at e
    simp only [List.zip_cons_cons]
    unfold bindC
    by_cases h : x = n
    · subst h
      simp only [beq_self_eq_true] at e
      cases e
      rw [bindC_skip (zip_fst nd.1), if_neg hk]
      exact ⟨u', by simp, y⟩
    · have : (x == n) = false := by simpa using h
      rw [this] at e
      exact bindC_zip hk nd.2 ys e

section
variable {W : Wd} {d : Nat} {sc : Scope} {ρ : Loc} {H H₁ H₂ H' : List O}

theorem HR.fresh {φ : Map} {h : Heap} (R : HR W φ H h) {b : Addr} (hb : h.objs.size ≤ b) : ¬ dom φ b ∧ W.h₀.get? b = none := by
  refine ⟨fun dd => ?_, ?_⟩
  · obtain ⟨o, e⟩ := R.there dd
    exact absurd (Heap.lt_size e) (Nat.not_lt.mpr hb)
  · cases q : W.h₀.get? b with
    | none => rfl
    | some o => exact absurd (Heap.lt_size (R.base b o q)) (Nat.not_lt.mpr hb)
theorem get_none_of_ge {h : Heap} {b : Addr} (hb : h.objs.size ≤ b) : h.get? b = none := by
  cases q : h.get? b with
  | none => rfl
  | some o => exact absurd (Heap.lt_size q) (Nat.not_lt.mpr hb)

theorem fn_gen {f : Addr} {name qual : Str} {params : Arguments} {body : List Stmt} {scope : Scope} {dV kV doc pm cdv ct oc : Value} {an od : Option Addr} {osl : Array (Option Value)} {names : List Str} {vs ds : List V} {ds' : List Value} {v : V} {o : Out} {ρ' : Loc}
    (hd : 1 ≤ d) (ho : W.K.lookup f = some ⟨oc, od, .func (fnOf name qual params body scope dV kV doc pm an cdv ct), osl⟩) (hcd : codeIn W.K cdv qual = true) (hds : ∀ φ, VsR φ ds ds')
    (hb : ∀ (s : Shared) (vs' : List Value), W.K.In s.heap → vs'.length = vs.length → BindsTo s (fnOf name qual params body scope dV kV doc pm an cdv ct) ⟨vs', []⟩ (names.zip (vs' ++ ds')))
    (hn : names.Nodup) (hk : ∀ x ∈ names, scope.names.lookup x = some .local ∨ scope.names.lookup x = some .cell)
    (x : Ex W (d - 1) scope (names.zip (vs ++ ds)) H body o ρ' H') (hv : o = some v ∨ (o = none ∧ v = .none))
    (hco : scope.isCoroutine = false := by rfl) (hgen : scope.isGenerator = false := by rfl) (hkd : scope.kind = .function := by rfl) : Fn W d H (.ref f) vs v H' := by
  intro A h t σ φ vs' R rm RR y₀ k
  have y : VsR φ (vs ++ ds) (vs' ++ ds') := y₀.append (hds φ)
  have low : ∀ b o, h.get? b = some o → b < h.objs.size := fun b o e => Heap.lt_size e
  refine codeAny_call_function (s := St σ h t) (fd := fnOf name qual params body scope dV kV doc pm an cdv ct) (body := body) rm.room ((W.X.keeps RR.base) _ _ ho) rfl hco hgen rfl (codeRec_of (W.X.keeps RR.base) hcd)
    (hb _ vs' (W.X.keeps RR.base) y₀.length.symm _ _ _ _ ?_)
  refine wpAny_newFunctionEnv_cells hkd (fun p hp => ?_) fun env he s₁ I => ?_
  · have := hk p.1 (List.of_mem_zip hp).1
    rcases this with q | q
    · exact .inl q
    · exact .inr ⟨q, cellsFrom_some _ _ _ (.inl q)⟩
  · have he' : env = callEnvC (fnOf name qual params body scope dV kV doc pm an cdv ct) h.objs.size f := he
    subst he'
    obtain ⟨h₁, t₁, rfl⟩ := I.toInCall.same
    have keep : ∀ b o, h.get? b = some o → h₁.get? b = some o := I.toInCall.keep
    refine ⟨(W.T.nolimit.keeps RR.base).keeps keep, codeAny_func ?_⟩
    have R₁ : HR W φ H h₁ := RR.grow keep
    have Lg : (callEnvC (fnOf name qual params body scope dV kV doc pm an cdv ct) h.objs.size f).locals = h.objs.size := rfl
    have cge : ∀ n c, (callEnvC (fnOf name qual params body scope dV kV doc pm an cdv ct) h.objs.size f).cells.lookup n = some c → h.objs.size < c := fun n c e => by
      have := I.above n c (mem_of_lookup e); rwa [Lg] at this
    have F₁ : Fm W scope (callEnvC (fnOf name qual params body scope dV kV doc pm an cdv ct) h.objs.size f) φ h₁ (names.zip (vs ++ ds)) := by
      refine ⟨rfl, hkd, rfl, rfl, fun z u e => hk z (zip_lookup_mem e), ⟨_, I.toInCall.ns, fun z u e q => bindL_zip (kindOf := (callEnvC (fnOf name qual params body scope dV kV doc pm an cdv ct) h.objs.size f).kindOf) q hn y e⟩, fun z u e q => ?_, fun z c e => ?_, fun z z' c e e' => ?_, fun z q => ?_, ?_⟩
      · obtain ⟨c, hc⟩ := Option.isSome_iff_exists.mp (cellsFrom_some scope.names (h.objs.size + 1) [] (.inl q))
        obtain ⟨v', e1, e2⟩ := bindC_zip (m := fun _ => none) (kindOf := (callEnvC (fnOf name qual params body scope dV kV doc pm an cdv ct) h.objs.size f).kindOf) (by show scope.names.lookup z ≠ _; rw [q]; decide) hn y e
        exact ⟨c, v', hc, e1 ▸ I.cell z c hc, e2⟩
      · have g := cge z c e
        exact ⟨⟨_, I.cell z c e⟩, (RR.fresh (Nat.le_of_lt g)).1, (RR.fresh (Nat.le_of_lt g)).2, Nat.ne_of_gt g⟩
      · exact name_of_addr I.apart (mem_of_lookup e) (mem_of_lookup e')
      · exact Option.isSome_iff_exists.mp (cellsFrom_some scope.names (h.objs.size + 1) [] (.inl q))
      · exact RR.fresh (Nat.le_refl _)
    refine wpAny_mono (x _ _ h₁ t₁ σ φ (fun fl s' => R (.ok (.ret (match fl with | .ret v => v | _ => .none))) s') (fun _ _ => False) (rm.deeper hd _) F₁ R₁ fun fl h' t' φ' ho F' R' kq => ?_) (fun _ _ z => z) (fun _ _ z => z.elim)
    have kp : Kp φ h φ' h' := ⟨kq.pre, fun b o dd e => kq.keep b o dd (fun fa => by
        have lb := low b o e
        rcases fa with rfl | ⟨z, e'⟩
        · exact Nat.lt_irrefl _ lb
        · exact absurd (cge z b e') (Nat.not_lt.mpr (Nat.le_of_lt lb))) (keep b o e), fun b dd => (kq.new b dd).imp id fun z => by
          cases q : h.get? b with
          | none => rfl
          | some o => rw [keep b o q] at z; cases z⟩
    rcases hv with rfl | ⟨rfl, rfl⟩
    · cases ho with
      | ret yv => exact k _ h' t' φ' yv R' kp
    · cases ho
      exact k _ h' t' φ' .none R' kp
theorem fn_def {f : Addr} {name qual : Str} {params : Arguments} {body : List Stmt} {scope : Scope} {dV kV doc pm cdv ct oc : Value} {an od : Option Addr} {osl : Array (Option Value)} {names : List Str} {vs : List V} {v : V} {o : Out} {ρ' : Loc}
    (hd : 1 ≤ d) (ho : W.K.lookup f = some ⟨oc, od, .func (fnOf name qual params body scope dV kV doc pm an cdv ct), osl⟩) (hcd : codeIn W.K cdv qual = true)
    (hb : ∀ vs' : List Value, vs'.length = vs.length → bindArgs (fnOf name qual params body scope dV kV doc pm an cdv ct) ⟨vs', []⟩ = pure (names.zip vs'))
    (hn : names.Nodup) (hk : ∀ x ∈ names, scope.names.lookup x = some .local ∨ scope.names.lookup x = some .cell)
    (x : Ex W (d - 1) scope (names.zip vs) H body o ρ' H') (hv : o = some v ∨ (o = none ∧ v = .none))
    (hco : scope.isCoroutine = false := by rfl) (hgen : scope.isGenerator = false := by rfl) (hkd : scope.kind = .function := by rfl) : Fn W d H (.ref f) vs v H' :=
  fn_gen (ds := []) (ds' := []) hd ho hcd (fun _ => .nil) (fun s vs' _ e => by rw [List.append_nil]; exact BindsTo.of_eq (hb vs' e)) hn hk (by rw [List.append_nil]; exact x) hv hco hgen hkd

theorem ev_call {x : Str} {np p : Pos} {es : List PySem.Expr} {vs : List V} {v : V} {f : Addr} (a : EvA W d sc ρ H es vs H₁) (fn : Fn W d H₁ (.ref f) vs v H') (e : nsIn W.K mainGlobals x = some (some (.ref f))) (hk : keepIn W.K (.ref f) = true)
    (hx : sc.names.lookup x = some .globalImplicit) (hs : noStars es = true := by rfl) (hd : (x == ("__debug__" : Str)) = false := by decide) : Ev W d sc ρ H (.Call (.Name x np) es [] p) v H' :=
  fun A env h t σ φ Q E rm F R k => by
    show wpAny _ _ (eval (.Name x np) env >>= fun g => callWith p g [] (backTo p (starEach es env)) (backToKw p (keywordEach [] env))) _ _ _
    refine wpAny_bind (wp_global F R hx e ?_ hd)
    exact wp_callWith (keeps_def hk) a hs rm F R fun vs' h' t' φ' y R' kp => wpAny_call (fn A h' t' σ φ' vs' _ rm R' y fun v' h₂ t₂ φ₂ yv R₂ k₂ => k v' h₂ t₂ φ₂ yv R₂ (kp.trans k₂))

noncomputable def methOk (K : Frag) (C : Addr) (name : Str) (f : Addr) : Bool := plainGet K C name && findIn K (.ref C) name == some (some (.ref f)) && isFn K (.ref f) && keepIn K (.ref f)
theorem fr_none {φ : Map} {fs : List (Str × V)} {es : List DictEntry} (x : All2 (FR W φ) fs es) {name : Str} (e : fs.lookup name = none) : getL name es = some none := by
  have : es.find? (·.key.isStr name) = none ∧ es.any (·.refKey) = false := by
    induction x with
    | nil => exact ⟨rfl, rfl⟩
    | @cons p en fs es hp _ ih =>
      obtain ⟨n, u⟩ := p
      obtain ⟨h1, ⟨t, h2⟩, h3⟩ := hp
      rw [List.lookup_cons] at e
      have hk : en.key.isStr name = (n == name) := by rw [h2]; rfl
      have hr : en.refKey = false := by unfold DictEntry.refKey; rw [h2]
      by_cases hn : name = n
      · subst hn; simp at e
      · have hf : (name == n) = false := by simpa using hn
        rw [hf] at e
        have hf' : (n == name) = false := by simpa using fun q => hn q.symm
        rw [List.find?_cons, hk, hf', List.any_cons, hr, Bool.false_or]
        exact ih e
  unfold getL
  rw [this.1, this.2]
  rfl
theorem ev_meth {o : PySem.Expr} {m : Str} {ap p : Pos} {es : List PySem.Expr} {vs : List V} {v : V} {f : Addr} {i : Nat} {C : Addr} {fs : List (Str × V)} (x : Ev W d sc ρ H o (.ref i) H₁) (hi : H₁[i]? = some (.inst C fs)) (hl : fs.lookup m = none)
    (a : EvA W d sc ρ H₁ es vs H₂) (fn : Fn W d H₂ (.ref f) (.ref i :: vs) v H') (hm : methOk W.K C m f = true)
    (hs : noStars es = true := by rfl) (hc : isCall o = false := by rfl) (hn : decide (es.length < 29) = true := by rfl) (hp : (ap.endLine == p.line) = true := by rfl) : Ev W d sc ρ H (.Call (.Attribute o m ap) es [] p) v H' :=
  fun A env h t σ φ Q E rm F R k => by
    unfold methOk at hm
    simp only [Bool.and_eq_true] at hm
    obtain ⟨⟨⟨m1, m2⟩, m3⟩, m4⟩ := hm
    show wpAny _ _ (attributeBase o m env (eval o env) >>= fun ov => standAt ap.atName >>= fun _ => methodCall o m ap p env ov (es.length + 0) (backTo p (starEach es env)) (backToKw p (keywordEach [] env))) _ _ _
    rw [attributeBase_plain hc]
    refine wpAny_bind (x A env h t σ φ _ E rm F R fun ov h₁ t₁ φ₁ yo R₁ k₁ => wpAny_bind (wpAny_standAt ?_))
    have few : methodCallForm (es.length + 0) (backTo p (starEach es env)) (backToKw p (keywordEach [] env)) = true := by
      have b := backTo_plain (env := env) (p := p) hs
      have c : (backTo p (starEach es env)).all (!·.1) = true := by rw [List.all_eq_not_any_not]; simpa using b
      show ((backTo p (starEach es env)).all (!·.1) && true && decide (es.length + 0 + 0 < 30)) = true
      rw [c]
      have := of_decide_eq_true hn
      simp; (first | lia | omega)
    unfold methodCall
    rw [few]
    cases yo with
    | @ref _ oa dx ea =>
      obtain ⟨q, eq', o1, en, n, o2, fr⟩ := R₁.at hi
      rw [ea] at eq'; cases eq'
      have X₁ := W.X.keeps R₁.base
      refine wpAny_bind (wpAny_holding ?_)
      show wpAny _ _ (getMethod (.ref oa) m _) _ _ _
      refine method_fn (s := St σ h₁ t₁) (od := some (dictOf en n)) X₁ ⟨o1, rfl, rfl, o2⟩ (plainGet_of m1).1 (plainGet_of m1).2 (beq_iff_eq.mp m2) (beq_iff_eq.mp m3) ?_ ?_
      · show (lookIn m (dictOf en n)).map _ = _
        rw [lookIn_dict, fr_none fr hl]; rfl
      · dsimp only
        unfold methodCallPos
        simp only [Bool.not_true, Bool.false_or, hp, if_true]
        refine wpAny_bind (wpAny_pure ?_)
        have F₁ := F.kp k₁
        refine wp_callWith (keeps_def m4) a hs rm F₁ R₁ fun vs' h' t' φ' y R' kp => wpAny_call (fn A h' t' σ φ' _ _ rm R' (.cons ((VR.ref ea).mono kp.pre) y) fun v' h₂ t₂ φ₂ yv R₂ k₂ => k v' h₂ t₂ φ₂ yv R₂ ((k₁.trans kp).trans k₂))
noncomputable def makeOk (K : Frag) (C : Addr) (fI : Addr) : Bool := makesIn K C && findIn K (.ref C) "__init__" == some (some (.ref fI)) && typeIn K (.ref fI) == some (.type "function") && keepIn K (.ref C)
theorem ev_new {x : Str} {np p : Pos} {es : List PySem.Expr} {vs : List V} {C fI : Addr} (a : EvA W d sc ρ H es vs H₁) (hd1 : 1 ≤ d) (fn : Fn W (d - 1) (H₁ ++ [.inst C []]) (.ref fI) (.ref H₁.length :: vs) .none H') (e : nsIn W.K mainGlobals x = some (some (.ref C))) (hm : makeOk W.K C fI = true)
    (hx : sc.names.lookup x = some .globalImplicit) (hs : noStars es = true := by rfl) (hd : (x == ("__debug__" : Str)) = false := by decide) : Ev W d sc ρ H (.Call (.Name x np) es [] p) (.ref H₁.length) H' :=
  fun A env h t σ φ Q E rm F R k => by
    unfold makeOk at hm
    simp only [Bool.and_eq_true, beq_iff_eq] at hm
    obtain ⟨⟨⟨m1, m2⟩, m3⟩, m4⟩ := hm
    show wpAny _ _ (eval (.Name x np) env >>= fun g => callWith p g [] (backTo p (starEach es env)) (backToKw p (keywordEach [] env))) _ _ _
    refine wpAny_bind (wp_global F R hx e ?_ hd)
    refine wp_callWith (keeps_def m4) a hs rm F R fun vs' h₁ t₁ φ₁ y R₁ kp => wpAny_call ?_
    have X₁ := W.X.keeps R₁.base
    refine make_core (makes_of X₁ m1) (looks_findIn X₁ m2) (fun self => bind_fn X₁ self m3) (.inl rfl) ?_
    have n1 : h₁.get? (h₁.objs.size + 1) = none := get_none_of_ge (Nat.le_succ _)
    have n2 : h₁.get? h₁.objs.size = none := get_none_of_ge (Nat.le_refl _)
    have kk : ∀ b o, h₁.get? b = some o → ((h₁.push emptyDict).push (instObj C h₁.objs.size)).get? b = some o := fun b o e => Heap.get?_push_of_some _ (Heap.get?_push_of_some _ e)
    have g1 : ((h₁.push emptyDict).push (instObj C h₁.objs.size)).get? (h₁.objs.size + 1) = some (instObj C h₁.objs.size) := by
      have := Heap.get?_push_size (h₁.push emptyDict) (o := instObj C h₁.objs.size) rfl
      rwa [Heap.size_push] at this
    have g2 : ((h₁.push emptyDict).push (instObj C h₁.objs.size)).get? h₁.objs.size = some (dictOf [] 0) := Heap.get?_push_of_some _ (Heap.get?_push_size _ rfl)
    have R₂ : HR W (φ₁ ++ [(h₁.objs.size + 1, h₁.objs.size)]) (H₁ ++ [.inst C []]) ((h₁.push emptyDict).push (instObj C h₁.objs.size)) := R₁.push ⟨g1, [], 0, g2, .nil⟩ kk n1 n2
    have k₂ : Kp φ₁ h₁ (φ₁ ++ [(h₁.objs.size + 1, h₁.objs.size)]) ((h₁.push emptyDict).push (instObj C h₁.objs.size)) := Kp.push kk n1 n2
    have rm' : Rm (A.under (.builtin "type.__call__" ⟨.ref C :: ([] ++ vs'), []⟩)) (d - 1) := ⟨rm.hh, by have := rm.dp; show A.depth + 1 + (d - 1) < _; (first | lia | omega), by have := rm.un; show A.units + 1 + 10 * (d - 1) + 100 < _; (first | lia | omega)⟩
    have self : VR (φ₁ ++ [(h₁.objs.size + 1, h₁.objs.size)]) (.ref H₁.length) (.ref (h₁.objs.size + 1)) := .ref (d := h₁.objs.size) (by rw [← R₁.len]; simp)
    refine fn _ _ t₁ σ _ (.ref (h₁.objs.size + 1) :: vs') _ rm' R₂ (.cons self (VsR.mono k₂.pre y)) fun v' h₃ t₃ φ₃ yv R₃ k₃ => ?_
    cases yv
    exact ⟨rfl, k _ h₃ t₃ φ₃ (self.mono k₃.pre) R₃ ((kp.trans k₂).trans k₃)⟩
end
section
variable {W : Wd} {d : Nat} {sc : Scope} {ρ : Loc} {H H₁ H₂ H' : List O}

theorem osa_same {A : Around} {s : Shared} {R : Result → Shared → Prop} {x C dx : Addr} {name : Str} {tk : Tok} {v : Value} {es : List DictEntry} {n : Nat} {prog : Program} {w : World} {K : Frag} (X : K.In s.heap) (hx : s.heap.get? x = some (instObj C dx)) (D : s.heap.get? dx = some (dictOf es n))
    (hp : plainOver K C = true) (ht : takerIn K C name = some none) (hh : hasDictIn K C = true) (hl : (getL name es).isSome = true) (hz : (putL name (PyData.keyHash w.params name) (.str name s.toks) v es).length ≤ 1000)
    (h : ∀ h', h'.get? dx = some (dictOf (putL name (PyData.keyHash w.params name) (.str name s.toks) v es) (putN name es n)) → Heap.SameBut dx s.heap h' → R (.ok (.ret .none)) { s with heap := h', toks := s.toks + 1 }) :
    codeAny (model prog w) A (.call (.builtin "object.__setattr__") ⟨[.ref x, .str name tk, v], []⟩) R s := by
  have I : PySem.W.InstAt s.heap x (instObj C dx) C (some (dictOf es n)) := ⟨hx, rfl, rfl, D⟩
  obtain ⟨cd, hc, hd'⟩ := any_some hh
  refine osa_open X I hp ht fun b => ?_
  have put := putName_dict name (PyData.keyHash w.params name) (.str name s.toks) v es n
  have same : Heap.SameBut dx s.heap (s.heap.update dx (Obj.putName name (PyData.keyHash w.params name) (.str name s.toks) v)) := Heap.SameBut.update ..
  have got : (s.heap.update dx (Obj.putName name (PyData.keyHash w.params name) (.str name s.toks) v)).get? dx = some (dictOf (putL name (PyData.keyHash w.params name) (.str name s.toks) v es) (putN name es n)) := by
    rw [Heap.get?_update_self _ D (by rw [put]; rfl), put]
  refine wpAny_bind (wpAny_pure (wpAny_bind (wpAny_bind (wpAny_loadPart hx (wpAny_bind ((looks_clsIn X hc).here ?_))))))
  rw [hd']
  refine wpAny_pure (a := some dx) (wpAny_bind (wpAny_pure (wpAny_bind ?_)))
  unfold nsSet
  refine wpAny_bind (wpAny_bind (wpAny_askSetting (wpAny_pure (wpAny_bind (wpAny_mkText (wpAny_bind (wpAny_loadPart D ?_)))))))
  have c : aRefKeyMayBeTheName name es.toArray = false := by
    rw [aRefKeyMayBeTheName_at, ← Array.any_toList, ← Array.any_toList]
    unfold getL at hl
    split at hl
    · rename_i en he
      rw [List.any_eq_true.mpr ⟨en, List.mem_of_find?_eq_some he, List.find?_some he⟩]; rfl
    · split at hl
      · cases hl
      · rename_i z
        have z' : es.any (·.refKey) = false := by simpa using z
        show (!es.any _ && es.any (·.refKey)) = false
        rw [z', Bool.and_false]
  dsimp only
  rw [c]
  refine wpAny_updatePart D ?_
  refine wpAny_bind (wpAny_lookBehind got (pastItsLine_dict (by rw [List.size_toArray, sizeLine_eq]; (first | lia | omega))) ?_)
  exact wpAny_pure (h _ got same)

noncomputable def putF (name : Str) (v : V) : List (Str × V) → List (Str × V)
  | [] => [(name, v)]
  | (n, u) :: r => if n = name then (n, v) :: r else (n, u) :: putF name v r
theorem fr_put {φ : Map} {fs : List (Str × V)} {es : List DictEntry} (x : All2 (FR W φ) fs es) {name : Str} {v : V} {v' : Value} (y : VR φ v v') (t : Tok) :
    All2 (FR W φ) (putF name v fs) (putL name (PyData.keyHash W.w.params name) (.str name t) v' es) := by
  induction x with
  | nil => exact .cons ⟨rfl, ⟨t, rfl⟩, y⟩ .nil
  | @cons p en fs es hp hr ih =>
    obtain ⟨n, u⟩ := p
    obtain ⟨h1, ⟨t', h2⟩, h3⟩ := hp
    have hk : en.key.isStr name = (n == name) := by rw [h2]; rfl
    unfold putF putL
    rw [hk]
    by_cases hn : n = name
    · subst hn
      simp only [beq_self_eq_true, if_true]
      exact .cons ⟨h1, ⟨t', h2⟩, y⟩ hr
    · have hf : (n == name) = false := by simpa using hn
      simp only [hf, hn, Bool.false_eq_true, if_false]
      exact .cons ⟨h1, ⟨t', h2⟩, h3⟩ ih
theorem fr_some {φ : Map} {fs : List (Str × V)} {es : List DictEntry} (x : All2 (FR W φ) fs es) (name : Str) : (getL name es).isSome = true := by
  cases e : fs.lookup name with
  | none => rw [fr_none x e]; rfl
  | some v => obtain ⟨v', g, _⟩ := fr_get x e; rw [g]; rfl
theorem putL_len (name : Str) (hs : Int) (key v : Value) (es : List DictEntry) : (putL name hs key v es).length ≤ es.length + 1 := by
  induction es with
  | nil => simp [putL]
  | cons e r ih => unfold putL; split <;> simp only [List.length_cons] <;> (first | lia | omega)
noncomputable def setOk (K : Frag) (C : Addr) (name : Str) : Bool := findIn K (.ref C) "__setattr__" == some (some (.builtin "object.__setattr__")) && plainOver K C && takerIn K C name == some none && hasDictIn K C
theorem wp_setattr {A : Around} {h : Heap} {t : Nat} {σ : Shared} {φ : Map} {i : Nat} {C : Addr} {fs : List (Str × V)} {name : Str} {v : V} {v₀ v' : Value} {Q : Unit → Shared → Prop} {E : Value → Shared → Prop}
    (R : HR W φ H h) (ho : H[i]? = some (.inst C fs)) (hc : setOk W.K C name = true) (hz : fs.length ≤ 900) (y : VR φ (.ref i) v₀) (yv : VR φ v v') (k : ∀ h' t', HR W φ (H.set i (.inst C (putF name v fs))) h' → Kp φ h φ h' → Q () (St σ h' t')) :
    wpAny (mdl W) A (setAttr v₀ name v') Q E (St σ h t) := by
  cases y with
  | @ref _ a dx ea =>
    obtain ⟨p, ep, o1, es, n, o2, fr⟩ := R.at ho
    rw [ea] at ep; cases ep
    unfold setOk at hc
    simp only [Bool.and_eq_true, beq_iff_eq] at hc
    obtain ⟨⟨⟨c1, c2⟩, c3⟩, c4⟩ := hc
    have ne : dx ≠ a := fun q => by
      subst q
      have := Option.some.inj (o1.symm.trans o2)
      cases this
    refine set_plain (s := St σ h t) (od := some (dictOf es n)) (W.X.keeps R.base) ⟨o1, rfl, rfl, o2⟩ c1 ?_
    refine osa_same (s := { St σ h t with toks := t + 1 }) (W.X.keeps R.base) o1 o2 c2 c3 c4 (fr_some fr name) (by show (putL name (PyData.keyHash W.w.params name) (.str name (t + 1)) v' es).length ≤ 1000; have := putL_len name (PyData.keyHash W.w.params name) (.str name (t + 1)) v' es; have := fr.length; (first | lia | omega)) fun h' g sb => ?_
    refine k h' (t + 1 + 1) (R.upd ea ⟨?_, _, _, g, fr_put fr yv (t + 1)⟩ fun b o n1 n2 e => (sb.2 b n2).trans e) (Kp.upd ea fun b o n1 n2 e => (sb.2 b n2).trans e)
    exact (sb.2 a (Ne.symm ne)).trans o1

theorem lookup_cons_eq {x : Str} {v : V} : List.lookup x ((x, v) :: ρ) = some v := by simp
theorem lookup_cons_ne {x y : Str} {v : V} (h : y ≠ x) : List.lookup y ((x, v) :: ρ) = ρ.lookup y := by
  have : (y == x) = false := by simpa using h
  rw [List.lookup_cons, this]
theorem wp_store {A : Around} {env : Env} {h : Heap} {t : Nat} {σ : Shared} {φ : Map} {x : Str} {v : V} {v' : Value} {Q : Unit → Shared → Prop} {E : Value → Shared → Prop} (F : Fm W sc env φ h ρ) (R : HR W φ H h) (y : VR φ v v')
    (hx : sc.names.lookup x = some .local ∨ sc.names.lookup x = some .cell) (k : ∀ h' t', Fm W sc env φ h' ((x, v) :: ρ) → HR W φ H h' → Kq env φ h φ h' → Q () (St σ h' t')) : wpAny (mdl W) A (storeName env x v') Q E (St σ h t) := by
  have hkd : env.scope.kind = .function := by rw [F.scq]; exact F.kind
  rcases hx with q | q
  · obtain ⟨m, n, f⟩ := F.ns
    refine wpAny_storeName_local (s := St σ h t) (by show env.scope.names.lookup x = _; rw [F.scq]; exact q) n (fun h' n' sb => k h' (t + 1) ⟨F.scq, F.kind, F.glob, F.bui, fun z u e => ?_, ⟨_, n', fun z u e qz => ?_⟩, fun z u e qz => ?_, fun z c e => ?_, F.inj, F.have_, F.off⟩
      (R.keep (fun b o dd e => (sb.2 b fun z => F.off.1 (z ▸ dd)).trans e) fun b o e => (sb.2 b fun z => by rw [z, F.off.2] at e; cases e).trans (R.base b o e)) ⟨.refl φ, fun b o _ fa e => (sb.2 b fun z => fa (.inl z)).trans e, fun b dd => .inl dd⟩) (by rw [hkd]; rfl)
    · by_cases hz : z = x
      · subst hz; exact .inl q
      · rw [lookup_cons_ne hz] at e; exact F.fun_ z u e
    · by_cases hz : z = x
      · subst hz; rw [lookup_cons_eq] at e; cases e; exact ⟨v', by simp, y⟩
      · rw [lookup_cons_ne hz] at e
        obtain ⟨u', e1, e2⟩ := f z u e qz
        exact ⟨u', by simp [hz, e1], e2⟩
    · by_cases hz : z = x
      · subst hz; rw [q] at qz; cases qz
      · rw [lookup_cons_ne hz] at e
        obtain ⟨c, u', e1, e2, e3⟩ := F.cell z u e qz
        exact ⟨c, u', e1, e2.sameBut sb (F.cells z c e1).2.2.2, e3⟩
    · obtain ⟨⟨v₀, e1⟩, e2, e3, e4⟩ := F.cells z c e
      exact ⟨⟨v₀, e1.sameBut sb e4⟩, e2, e3, e4⟩
  · obtain ⟨c, hc⟩ := F.have_ x q
    obtain ⟨⟨v₀, e1⟩, e2, e3, e4⟩ := F.cells x c hc
    refine wpAny_storeName_cell (s := St σ h t) hkd (by show env.scope.names.lookup x = _; rw [F.scq]; exact q) hc e1 fun h' n' sb => k h' t ⟨F.scq, F.kind, F.glob, F.bui, fun z u e => ?_, ?_, fun z u e qz => ?_, fun z c' e => ?_, F.inj, F.have_, F.off⟩
      (R.keep (fun b o dd e => (sb.2 b fun z => e2 (z ▸ dd)).trans e) fun b o e => (sb.2 b fun z => by rw [z, e3] at e; cases e).trans (R.base b o e)) ⟨.refl φ, fun b o _ fa e => (sb.2 b fun z => fa (.inr ⟨x, z ▸ hc⟩)).trans e, fun b dd => .inl dd⟩
    · by_cases hz : z = x
      · subst hz; exact .inr q
      · rw [lookup_cons_ne hz] at e; exact F.fun_ z u e
    · obtain ⟨m, n, f⟩ := F.ns
      refine ⟨m, n.sameBut sb (Ne.symm e4), fun z u e qz => ?_⟩
      by_cases hz : z = x
      · subst hz; rw [q] at qz; cases qz
      · rw [lookup_cons_ne hz] at e; exact f z u e qz
    · by_cases hz : z = x
      · subst hz; rw [lookup_cons_eq] at e; cases e; exact ⟨c, v', hc, n', y⟩
      · rw [lookup_cons_ne hz] at e
        obtain ⟨c', u', a1, a2, a3⟩ := F.cell z u e qz
        exact ⟨c', u', a1, a2.sameBut sb (fun w => hz (F.inj z x c (w ▸ a1) hc)), a3⟩
    · obtain ⟨⟨w₀, b1⟩, b2, b3, b4⟩ := F.cells z c' e
      by_cases hcc : c' = c
      · subst hcc; exact ⟨⟨_, n'⟩, b2, b3, b4⟩
      · exact ⟨⟨w₀, b1.sameBut sb hcc⟩, b2, b3, b4⟩

noncomputable def isComp : PySem.Expr → Bool
  | .ListComp .. | .SetComp .. | .DictComp .. => true
  | _ => false
theorem swaps_no {value : PySem.Expr} {target : Option PySem.Expr} {line : Nat} {env : Env} (h : isComp value = false) : swapsWith value target line env = pure false := by
  cases value <;> first | rfl | cases h
theorem swaps_attr {value : PySem.Expr} {o : PySem.Expr} {a : Str} {q : Pos} {line : Nat} {env : Env} : swapsWith value (some (.Attribute o a q)) line env = pure false := by
  cases value <;> rfl

theorem ex1_assign {x : Str} {p q : Pos} {value : PySem.Expr} {v : V} (a : Ev W d sc ρ H value v H₁) (hx : sc.names.lookup x = some .local ∨ sc.names.lookup x = some .cell) (hc : isComp value = false := by rfl) :
    Ex1 W d sc ρ H (.Assign [.Name x p] value q) none ((x, v) :: ρ) H₁ :=
  fun A env h t σ φ Q E rm F R k => wpAny_Assign_Name (a A env h t σ φ _ E rm F R fun v' h₁ t₁ φ₁ y R₁ k₁ => wp_store (F.kp k₁) R₁ y hx fun h' t' F' R' kq =>
    k .next h' t' φ₁ .next F' R' (k₁.q.trans (fun b e => ⟨(F.there e).1, ((F.kp k₁).there e).2⟩) kq)) (swaps_no hc)
theorem ex1_setattr {o value : PySem.Expr} {attr : Str} {p q : Pos} {v : V} {i : Nat} {C : Addr} {fs : List (Str × V)} (a : Ev W d sc ρ H value v H₁) (b : Ev W d sc ρ H₁ o (.ref i) H₂) (ho : H₂[i]? = some (.inst C fs)) (hc : setOk W.K C attr = true)
    (hz : fs.length ≤ 900 := by first | decide | (simp; (first | lia | omega)) | (first | lia | omega)) : Ex1 W d sc ρ H (.Assign [.Attribute o attr p] value q) none ρ (H₂.set i (.inst C (putF attr v fs))) :=
  fun A env h t σ φ Q E rm F R k => plainObj_wpAny_Assign_Attribute (a A env h t σ φ _ E rm F R fun v' h₁ t₁ φ₁ y R₁ k₁ => b A env h₁ t₁ σ φ₁ _ E rm (F.kp k₁) R₁ fun o' h₂ t₂ φ₂ yo R₂ k₂ =>
    wp_setattr R₂ ho hc hz yo (y.mono k₂.pre) fun h' t' R' k' => k .next h' t' φ₂ .next (((F.kp k₁).kp k₂).kp k') R' ((k₁.trans k₂).trans k').q) swaps_attr
theorem ex1_expr {e : PySem.Expr} {p : Pos} {v : V} (a : Ev W d sc ρ H e v H₁) (hc : isComp e = false := by rfl) : Ex1 W d sc ρ H (.Expr e p) none ρ H₁ :=
  fun A env h t σ φ Q E rm F R k => wpAny_Expr_any (a A env h t σ φ _ E rm F R fun v' h₁ t₁ φ₁ y R₁ k₁ => k .next h₁ t₁ φ₁ .next (F.kp k₁) R₁ k₁.q)
    (by unfold interactive; rw [F.scq, F.kind]; rfl) (swaps_no hc)
theorem ex1_return {e : PySem.Expr} {p : Pos} {v : V} (a : Ev W d sc ρ H e v H₁) : Ex1 W d sc ρ H (.Return (some e) p) (some v) ρ H₁ :=
  fun A env h t σ φ Q E rm F R k => wpAny_Return_some (a A env h t σ φ _ E rm F R fun v' h₁ t₁ φ₁ y R₁ k₁ => k (.ret v') h₁ t₁ φ₁ (.ret y) (F.kp k₁) R₁ k₁.q)
theorem ex1_return0 {p : Pos} : Ex1 W d sc ρ H (.Return none p) (some .none) ρ H :=
  fun A env h t σ φ Q E rm F R k => wpAny_Return_none (k (.ret .none) h t φ (.ret .none) F R (.refl _ _ _))
theorem ex1_if {test : PySem.Expr} {body orelse : List Stmt} {p : Pos} {b : Bool} {o : Out} {ρ' : Loc} (x : Tr W d sc ρ H test b H₁) (y : b = true → Ex W d sc ρ H₁ body o ρ' H') (z : b = false → Ex W d sc ρ H₁ orelse o ρ' H') :
    Ex1 W d sc ρ H (.If test body orelse p) o ρ' H' := fun A env h t σ φ Q E rm F R k => by
  refine wpAny_If (x A env h t σ φ _ E rm F R fun h₁ t₁ φ₁ R₁ k₁ => ?_)
  have fa : ∀ b, FA env b → ¬ dom φ b ∧ ∃ o, h₁.get? b = some o := fun b e => ⟨(F.there e).1, ((F.kp k₁).there e).2⟩
  cases b with
  | true => exact y rfl A env h₁ t₁ σ φ₁ Q E rm (F.kp k₁) R₁ fun f h' t' φ' ho F' R' k' => k f h' t' φ' ho F' R' (k₁.q.trans fa k')
  | false => exact z rfl A env h₁ t₁ σ φ₁ Q E rm (F.kp k₁) R₁ fun f h' t' φ' ho F' R' k' => k f h' t' φ' ho F' R' (k₁.q.trans fa k')
theorem ex1_ifT {test : PySem.Expr} {body orelse : List Stmt} {p : Pos} {o : Out} {ρ' : Loc} (x : Tr W d sc ρ H test true H₁) (y : Ex W d sc ρ H₁ body o ρ' H') : Ex1 W d sc ρ H (.If test body orelse p) o ρ' H' := ex1_if x (fun _ => y) fun e => by cases e
theorem ex1_ifF {test : PySem.Expr} {body orelse : List Stmt} {p : Pos} {o : Out} {ρ' : Loc} (x : Tr W d sc ρ H test false H₁) (y : Ex W d sc ρ H₁ orelse o ρ' H') : Ex1 W d sc ρ H (.If test body orelse p) o ρ' H' := ex1_if x (fun e => by cases e) fun _ => y
theorem ex1_aug_attr {o value : PySem.Expr} {attr : Str} {p q : Pos} {op : Operator} {i : Nat} {C : Addr} {fs : List (Str × V)} {a b c : Int} (x : Ev W d sc ρ H o (.ref i) H₁) (ho : H₁[i]? = some (.inst C fs)) (hl : fs.lookup attr = some (.int a)) (hg : attrOk W.K C attr = true)
    (y : Ev W d sc ρ H₁ value (.int b) H₁) (hc : setOk W.K C attr = true) (hop : (op = .Add ∧ c = a + b) ∨ (op = .Sub ∧ c = a - b)) (hz : fs.length ≤ 900 := by first | decide | (simp; (first | lia | omega)) | (first | lia | omega)) :
    Ex1 W d sc ρ H (.AugAssign (.Attribute o attr p) op value q) none ρ (H₁.set i (.inst C (putF attr (.int c) fs))) :=
  fun A env h t σ φ Q E rm F R k => wpAny_AugAssign_AttributeAny (x A env h t σ φ _ E rm F R fun o' h₁ t₁ φ₁ yo R₁ k₁ => wp_getattr R₁ ho hl hg yo fun a' ta ya => y A env h₁ ta σ φ₁ _ E rm (F.kp k₁) R₁ fun b' h₂ t₂ φ₂ yb R₂ k₂ => by
    cases ya; cases yb
    have fin : ∀ tt, wpAny (mdl W) A (setAttr o' attr (.int c tt)) (fun _ => Q .next) E (St σ h₂ (t₂ + 1)) := fun tt => wp_setattr R₂ ho hc hz (yo.mono k₂.pre) (.int c tt) fun h' t' R' k' => k .next h' t' φ₂ .next (((F.kp k₁).kp k₂).kp k') R' ((k₁.trans k₂).trans k').q
    rcases hop with ⟨rfl, rfl⟩ | ⟨rfl, rfl⟩
    · exact iadd_int (fin _)
    · exact isub_int (fin _))
theorem ex1_aug_name {x : Str} {p q : Pos} {op : Operator} {value : PySem.Expr} {a b c : Int} (hv : ρ.lookup x = some (.int a)) (y : Ev W d sc ρ H value (.int b) H) (hop : (op = .Add ∧ c = a + b) ∨ (op = .Sub ∧ c = a - b) ∨ (op = .FloorDiv ∧ c = a.fdiv b ∧ b ≠ 0 ∧ b.natAbs < 1073741824))
    (hx : sc.names.lookup x = some .local ∨ sc.names.lookup x = some .cell) : Ex1 W d sc ρ H (.AugAssign (.Name x p) op value q) none ((x, .int c) :: ρ) H :=
  fun A env h t σ φ Q E rm F R k => by
    refine wpAny_AugAssign_Name ?_
    have go : ∀ a' ta, VR φ (.int a) a' → wpAny (mdl W) A (eval value env) (fun v s₂ => wpAny (mdl W) A (inplaceOp op a' v) (fun r s₃ => wpAny (mdl W) A (storeName env x r) (fun _ => Q .next) E s₃) E s₂) E (St σ h ta) := fun a' ta ya =>
      y A env h ta σ φ _ E rm F R fun b' h₂ t₂ φ₂ yb R₂ k₂ => by
        cases ya; cases yb
        have fin : ∀ tt, wpAny (mdl W) A (storeName env x (.int c tt)) (fun _ => Q .next) E (St σ h₂ (t₂ + 1)) := fun tt => wp_store (F.kp k₂) R₂ (.int c tt) hx fun h' t' F' R' kq => k .next h' t' φ₂ .next F' R' (k₂.q.trans (fun b e => ⟨(F.there e).1, ((F.kp k₂).there e).2⟩) kq)
        rcases hop with ⟨rfl, rfl⟩ | ⟨rfl, rfl⟩ | ⟨rfl, rfl, h0, h1⟩
        · exact iadd_int (fin _)
        · exact isub_int (fin _)
        · exact ifloordiv_int h0 (fin _) (.inl (PyProof.noPylong_small h1))
    rcases F.fun_ x _ hv with q | q
    · obtain ⟨m, n, f⟩ := F.ns
      obtain ⟨v', e, yy⟩ := f x _ hv q
      exact wpAny_loadName_local (by rw [F.scq]; exact F.kind) (by show env.scope.names.lookup x = _; rw [F.scq]; exact q) n e (go _ _ yy)
    · obtain ⟨c, v', e1, e2, yy⟩ := F.cell x _ hv q
      exact wpAny_loadName_cell (by rw [F.scq]; exact F.kind) (by show env.scope.names.lookup x = _; rw [F.scq]; exact q) e1 e2 (go _ _ yy)
end
section
variable {W : Wd} {d : Nat} {sc : Scope} {ρ : Loc} {H H₁ H₂ H₃ H' : List O}

noncomputable def CallR (W : Wd) (d : Nat) (H : List O) (f : Value) (vs : List V) (v : V) (H' : List O) : Prop :=
  ∀ (A : Around) (h : Heap) (t : Nat) (σ : Shared) (φ : Map) (vs' : List Value) (Q : Value → Shared → Prop) (E : Value → Shared → Prop), Rm A d → HR W φ H h → VsR φ vs vs' →
    (∀ v' h' t' φ', VR φ' v v' → HR W φ' H' h' → Kp φ h φ' h' → Q v' (St σ h' t')) → wpAny (mdl W) A (call f vs') Q E (St σ h t)
theorem ev_builtin {x : Str} {np p : Pos} {es : List PySem.Expr} {vs : List V} {v : V} {f : Value} (a : EvA W d sc ρ H es vs H₁) (z : CallR W d H₁ f vs v H')
    (e : nsIn W.K mainGlobals x = some none) (hx : sc.names.lookup x = some .globalImplicit) (hv : bootBuiltins x = some f) (hn : x ≠ "__name__") (hf : ∀ a, f ≠ .ref a)
    (hs : noStars es = true := by rfl) (hd : (x == ("__debug__" : Str)) = false := by decide) : Ev W d sc ρ H (.Call (.Name x np) es [] p) v H' :=
  fun A env h t σ φ Q E rm F R k => by
    show wpAny _ _ (eval (.Name x np) env >>= fun g => callWith p g [] (backTo p (starEach es env)) (backToKw p (keywordEach [] env))) _ _ _
    refine wpAny_bind (wp_builtin F R hx e hv hn ?_ hd)
    exact wp_callWith (keeps_machine hf) a hs rm F R fun vs' h' t' φ' y R' kp => z A h' t' σ φ' vs' Q E rm R' y fun v' h₂ t₂ φ₂ yv R₂ k₂ => k v' h₂ t₂ φ₂ yv R₂ (kp.trans k₂)

noncomputable def ty : O → String
  | .inst .. => ""
  | .list _ => "list"
  | .tup _ => "tuple"
  | .sd .. => "dict"
  | .idt .. => "dict"
  | .rng .. => "range"
theorem HR.ty {φ : Map} {h : Heap} {i : Nat} {a : Addr} {o : O} {T : String} (R : HR W φ H h) (ho : H[i]? = some o) (hT : ty o = T) (hne : T ≠ "") (y : VR φ (.ref i) (.ref a)) :
    ∃ ob, h.get? a = some ob ∧ ob.cls = .type T ∧ ob.dict = none := by
  subst hT
  cases y with
  | @ref _ _ dx ea =>
    obtain ⟨p, ep, x⟩ := R.at ho
    rw [ea] at ep; cases ep
    cases o with
    | inst C fs => exact absurd rfl hne
    | list vs => obtain ⟨_, vs', n, e, _⟩ := x; exact ⟨_, e, rfl, rfl⟩
    | tup vs => obtain ⟨_, vs', n, e, _⟩ := x; exact ⟨_, e, rfl, rfl⟩
    | sd es ep => obtain ⟨_, kvs, ⟨ob, es', e, ⟨c1, c2, _⟩, _⟩, _⟩ := x; exact ⟨_, e, c1, c2⟩
    | idt es ep => obtain ⟨_, kvs, ⟨ob, es', e, ⟨c1, c2, _⟩, _⟩, _⟩ := x; exact ⟨_, e, c1, c2⟩
    | rng _ _ _ => obtain ⟨_, t, u, v, e⟩ := x; exact ⟨_, e, rfl, rfl⟩
theorem ev_bmeth {o : PySem.Expr} {m : Str} {ap p : Pos} {es : List PySem.Expr} {vs : List V} {v : V} {i : Nat} {ob : O} {T id : String} (x : Ev W d sc ρ H o (.ref i) H₁) (hi : H₁[i]? = some ob) (hT : ty ob = T)
    (pa : PlainAttrs T) (slot : Slot T m id) (hty : typeOf (.builtin id) = pure (.type "method_descriptor")) (a : EvA W d sc ρ H₁ es vs H₂) (z : CallR W d H₂ (.builtin id) (.ref i :: vs) v H') (hne : T ≠ "" := by decide)
    (hs : noStars es = true := by rfl) (hc : isCall o = false := by rfl) (hn : decide (es.length < 29) = true := by rfl) (hp : (ap.endLine == p.line) = true := by rfl) : Ev W d sc ρ H (.Call (.Attribute o m ap) es [] p) v H' :=
  fun A env h t σ φ Q E rm F R k => by
    have few : methodCallForm (es.length + 0) (backTo p (starEach es env)) (backToKw p (keywordEach [] env)) = true := by
      have b := backTo_plain (env := env) (p := p) hs
      have c : (backTo p (starEach es env)).all (!·.1) = true := by rw [List.all_eq_not_any_not]; simpa using b
      show ((backTo p (starEach es env)).all (!·.1) && true && decide (es.length + 0 + 0 < 30)) = true
      rw [c]
      have := of_decide_eq_true hn
      simp; (first | lia | omega)
    refine wpAny_Call_method_late (trees := backTo p (starEach es env)) (attributeBase_plain hc) few hp rfl (x A env h t σ φ _ E rm F R fun ov h₁ t₁ φ₁ yo R₁ k₁ => ?_)
    have yo' := yo
    cases yo with
    | @ref _ oa dx ea =>
      obtain ⟨rb, g1, g2, g3⟩ := R₁.ty hi hT hne yo'
      refine ⟨T, id, pa, slot, hty, ⟨rb, g1, g2⟩, fun a e => by cases e; exact ⟨rb, g1, g3⟩, ?_⟩
      exact wp_callWith (keeps_machine (fun _ => by simp)) a hs rm (F.kp k₁) R₁ fun vs' h' t' φ' y R' kp => z A h' t' σ φ' (.ref oa :: vs') Q E rm R' (.cons (yo'.mono kp.pre) y) fun v' h₂ t₂ φ₂ yv R₂ k₂ => k v' h₂ t₂ φ₂ yv R₂ ((k₁.trans kp).trans k₂)

inductive LstR (φ : Map) (h : Heap) (i : Nat) (v' : Value) (vs : List V) : Prop
  | mk (a : Addr) (vs' : List Value) (n : Nat) (e : v' = .ref a) (p : φ[i]? = some (a, a)) (l : IsL h a vs'.toArray n) (v : VsR φ vs vs') : LstR φ h i v' vs
inductive TplR (φ : Map) (h : Heap) (i : Nat) (v' : Value) (vs : List V) : Prop
  | mk (a : Addr) (vs' : List Value) (n : Nat) (e : v' = .ref a) (p : φ[i]? = some (a, a)) (l : h.get? a = some (tupObj vs'.toArray n)) (v : VsR φ vs vs') : TplR φ h i v' vs
theorem HR.lst {φ : Map} {h : Heap} {i : Nat} {v' : Value} {vs : List V} (R : HR W φ H h) (ho : H[i]? = some (.list vs)) (y : VR φ (.ref i) v') :
    LstR φ h i v' vs := by
  cases y with
  | @ref _ a dx ea =>
    obtain ⟨p, ep, e0, vs', n, x, y⟩ := R.at ho
    rw [ea] at ep; cases ep
    dsimp only at e0; subst e0
    exact ⟨_, vs', n, rfl, ea, x, y⟩
theorem HR.tpl {φ : Map} {h : Heap} {i : Nat} {v' : Value} {vs : List V} (R : HR W φ H h) (ho : H[i]? = some (.tup vs)) (y : VR φ (.ref i) v') :
    TplR φ h i v' vs := by
  cases y with
  | @ref _ a dx ea =>
    obtain ⟨p, ep, e0, vs', n, x, y⟩ := R.at ho
    rw [ea] at ep; cases ep
    dsimp only at e0; subst e0
    exact ⟨_, vs', n, rfl, ea, x, y⟩
theorem HR.new1 {φ : Map} {h : Heap} {ob : Obj} {o : O} (R : HR W φ H h) (hf : ob.isFreed = false) (x : (h.push ob).get? h.objs.size = some ob → OR W φ (h.push ob) (h.objs.size, h.objs.size) o) :
    HR W (φ ++ [(h.objs.size, h.objs.size)]) (H ++ [o]) (h.push ob) ∧ Kp φ h (φ ++ [(h.objs.size, h.objs.size)]) (h.push ob) ∧ VR (φ ++ [(h.objs.size, h.objs.size)]) (.ref H.length) (.ref h.objs.size) := by
  have kk : ∀ b o, h.get? b = some o → (h.push ob).get? b = some o := fun b o e => Heap.get?_push_of_some _ e
  have n1 : h.get? h.objs.size = none := get_none_of_ge (Nat.le_refl _)
  have g := Heap.get?_push_size h (o := ob) hf
  refine ⟨R.push ((x g).mono ⟨_, rfl⟩) kk n1 n1, Kp.push kk n1 n1, .ref (d := h.objs.size) (by rw [← R.len]; simp)⟩
theorem ev_list {es : List PySem.Expr} {p : Pos} {vs : List V} (a : EvA W d sc ρ H es vs H₁) (hz : vs.length ≤ sizeLine := by exact Nat.le_of_ble_eq_true rfl) : Ev W d sc ρ H (.List es p) (.ref H₁.length) (H₁ ++ [.list vs]) :=
  fun A env h t σ φ Q E rm F R k => wpAny_List_spliced (a A env h t σ φ p _ E rm F R fun vs' h₁ t₁ φ₁ y R₁ k₁ => ⟨y.length ▸ hz, by
    obtain ⟨R', k', v'⟩ := R₁.new1 (ob := { cls := .type "list", data := .seq vs'.toArray }) (o := .list vs) rfl fun g => ⟨rfl, vs', 0, g, y⟩
    exact k _ _ t₁ _ v' R' (k₁.trans k')⟩)
theorem ev_tuple {es : List PySem.Expr} {p : Pos} {c : Nat} {vs : List V} (a : EvA W d sc ρ H es vs H₁) (hz : vs.length ≤ sizeLine := by exact Nat.le_of_ble_eq_true rfl) : Ev W d sc ρ H (.Tuple es c p) (.ref H₁.length) (H₁ ++ [.tup vs]) :=
  fun A env h t σ φ Q E rm F R k => wpAny_Tuple_spliced (a A env h t σ φ p _ E rm F R fun vs' h₁ t₁ φ₁ y R₁ k₁ => ⟨y.length ▸ hz, by
    obtain ⟨R', k', v'⟩ := R₁.new1 (ob := { cls := .type "tuple", data := .seq vs'.toArray }) (o := .tup vs) rfl fun g => ⟨rfl, vs', 0, g, y⟩
    exact k _ _ t₁ _ v' R' (k₁.trans k')⟩)
theorem ev_dict_s {p : Pos} : Ev W d sc ρ H (.Dict [] [] p) (.ref H.length) (H ++ [.sd [] 0]) :=
  fun A env h t σ φ Q E rm F R k => wpAny_Dict_empty (by
    obtain ⟨R', k', v'⟩ := R.new1 (ob := { cls := .type "dict", data := .dict #[] }) (o := .sd [] 0) rfl fun g => ⟨rfl, [], ⟨_, #[], g, ⟨rfl, rfl, rfl⟩, rfl, fun _ he => by simp at he, Pairs.nil, List.nodup_nil⟩, .nil⟩
    exact k _ _ t _ v' R' k')
theorem ev_dict_i {p : Pos} : Ev W d sc ρ H (.Dict [] [] p) (.ref H.length) (H ++ [.idt [] 0]) :=
  fun A env h t σ φ Q E rm F R k => wpAny_Dict_empty (by
    obtain ⟨R', k', v'⟩ := R.new1 (ob := { cls := .type "dict", data := .dict #[] }) (o := .idt [] 0) rfl fun g => ⟨rfl, [], ⟨_, #[], g, ⟨rfl, rfl, rfl⟩, rfl, fun _ he => by simp at he, Pairs.nil, List.nodup_nil⟩, .nil⟩
    exact k _ _ t _ v' R' k')

theorem ev_subs {value slice : PySem.Expr} {p : Pos} {a b v : V} (x : Ev W d sc ρ H value a H₁) (y : Ev W d sc ρ H₁ slice b H₂)
    (z : ∀ (A : Around) (h : Heap) (t : Nat) (σ : Shared) (φ : Map) (a' b' : Value) (Q : Value → Shared → Prop) (E : Value → Shared → Prop), Rm A d → HR W φ H₂ h → VR φ a a' → VR φ b b' →
      (∀ v' h' t' φ', VR φ' v v' → HR W φ' H' h' → Kp φ h φ' h' → Q v' (St σ h' t')) → wpAny (mdl W) A (subscriptTail value slice a' b') Q E (St σ h t)) :
    Ev W d sc ρ H (.Subscript value slice p) v H' :=
  fun A env h t σ φ Q E rm F R k => Subscript_ (x A env h t σ φ _ E rm F R fun a' h₁ t₁ φ₁ ya R₁ k₁ => y A env h₁ t₁ σ φ₁ _ E rm (F.kp k₁) R₁ fun b' h₂ t₂ φ₂ yb R₂ k₂ =>
    z A h₂ t₂ σ φ₂ a' b' Q E rm R₂ (ya.mono k₂.pre) yb fun v' h' t' φ' yv R' k' => k v' h' t' φ' yv R' ((k₁.trans k₂).trans k'))
noncomputable def isSlice : PySem.Expr → Bool
  | .Slice .. => true
  | _ => false
theorem subscripted_plain {slice : PySem.Expr} {o i : Value} (h : isSlice slice = false) : subscripted slice false o i = operate [o, i] (getItem o i) := by
  cases slice <;> first | rfl | cases h
theorem ev_item {value slice : PySem.Expr} {p : Pos} {i : Nat} {vs : List V} {k : Int} {v : V} (x : Ev W d sc ρ H value (.ref i) H₁) (y : Ev W d sc ρ H₁ slice (.int k) H₂) (ho : H₂[i]? = some (.list vs)) (h0 : 0 ≤ k) (hk : k < 2 ^ 63) (hv : vs[k.toNat]? = some v)
    (hs : isSlice slice = false := by rfl) : Ev W d sc ρ H (.Subscript value slice p) v H₂ :=
  ev_subs x y fun A h t σ φ a' b' Q E rm R ya yb kk => by
    obtain ⟨a, vs', n, rfl, _, hl, yv⟩ := R.lst ho ya
    cases yb
    obtain ⟨v', e, y'⟩ := yv.get hv
    exact tail_any (s := St σ h t) hl.isList.typeIs slot_list_getitem.lookup (wpAny_getItem_list hl.isList h0 hk (by simpa using e) (kk v' h _ φ y' R (.refl _ _))) (subscripted_plain hs)
theorem ev_titem {value slice : PySem.Expr} {p : Pos} {i : Nat} {vs : List V} {k : Int} {v : V} (x : Ev W d sc ρ H value (.ref i) H₁) (y : Ev W d sc ρ H₁ slice (.int k) H₂) (ho : H₂[i]? = some (.tup vs)) (h0 : 0 ≤ k) (hk : k < 2 ^ 63) (hv : vs[k.toNat]? = some v)
    (hs : isSlice slice = false := by rfl) : Ev W d sc ρ H (.Subscript value slice p) v H₂ :=
  ev_subs x y fun A h t σ φ a' b' Q E rm R ya yb kk => by
    obtain ⟨a, vs', n, rfl, _, hl, yv⟩ := R.tpl ho ya
    cases yb
    obtain ⟨v', e, y'⟩ := yv.get hv
    have it : IsTup h a vs'.toArray := ⟨_, hl, rfl, n, rfl⟩
    have lt := (List.getElem?_eq_some_iff.mp e).1
    exact item_tupleT (s := St σ h t) it (by (first | lia | omega)) hk (by rw [seqIndex_of h0 (by (first | lia | omega))]) e (kk v' h _ φ y' R (.refl _ _)) (subscripted_plain hs)
end
theorem slicePick_from' (items : Array Value) (a : Nat) : slicePick items (some a) none none = (items.toList.drop a).toArray := by
  by_cases h : a ≤ items.size
  · exact slicePick_from items a h
  · have e : slicePick items (some (a : Int)) none none = slicePick items (some (items.size : Int)) none none := by
      unfold slicePick
      have : sliceBounds (some (a : Int)) none none items.size = sliceBounds (some (items.size : Int)) none none items.size := by
        unfold sliceBounds
        simp only [Option.getD_none, gt_iff_lt, show (0 : Int) < 1 by decide, if_true]
        have h1 : ¬ ((a : Int) < 0) := by (first | lia | omega)
        have h2 : ¬ ((items.size : Int) < 0) := by (first | lia | omega)
        rw [if_neg h1, if_neg h2]
        have h3 : min (a : Int) items.size = items.size := by (first | lia | omega)
        have h4 : min (items.size : Int) items.size = items.size := by (first | lia | omega)
        rw [h3, h4]
      rw [this]
    rw [e, slicePick_from items items.size (Nat.le_refl _)]
    congr 1
    rw [List.drop_of_length_le (by simp), List.drop_of_length_le (by simp; (first | lia | omega))]
theorem slicePick_upto' (items : Array Value) (b : Nat) : slicePick items none (some b) none = (items.toList.take b).toArray := by
  by_cases h : b ≤ items.size
  · exact slicePick_upto items b h
  · have e : slicePick items none (some (b : Int)) none = slicePick items none (some (items.size : Int)) none := by
      unfold slicePick
      have : sliceBounds none (some (b : Int)) none items.size = sliceBounds none (some (items.size : Int)) none items.size := by
        unfold sliceBounds
        simp only [Option.getD_none, gt_iff_lt, show (0 : Int) < 1 by decide, if_true]
        have h1 : ¬ ((b : Int) < 0) := by (first | lia | omega)
        have h2 : ¬ ((items.size : Int) < 0) := by (first | lia | omega)
        rw [if_neg h1, if_neg h2]
        have h3 : min (b : Int) items.size = items.size := by (first | lia | omega)
        have h4 : min (items.size : Int) items.size = items.size := by (first | lia | omega)
        rw [h3, h4]
      rw [this]
    rw [e, slicePick_upto items items.size (Nat.le_refl _)]
    congr 1
    rw [List.take_of_length_le (by simp), List.take_of_length_le (by simp; (first | lia | omega))]

section
variable {W : Wd} {d : Nat} {sc : Scope} {ρ : Loc} {H H₁ H₂ H₃ H' : List O}

theorem VsR.one {φ : Map} {a : V} {vs' : List Value} (y : VsR φ [a] vs') : ∃ x, vs' = [x] ∧ VR φ a x := by
  cases y with
  | cons r s => cases s; exact ⟨_, rfl, r⟩
theorem VsR.two {φ : Map} {a b : V} {vs' : List Value} (y : VsR φ [a, b] vs') : ∃ x z, vs' = [x, z] ∧ VR φ a x ∧ VR φ b z := by
  cases y with
  | cons r s => obtain ⟨z, rfl, q⟩ := VsR.one s; exact ⟨_, z, rfl, r, q⟩
theorem VsR.three {φ : Map} {a b c : V} {vs' : List Value} (y : VsR φ [a, b, c] vs') : ∃ x z u, vs' = [x, z, u] ∧ VR φ a x ∧ VR φ b z ∧ VR φ c u := by
  cases y with
  | cons r s => obtain ⟨z, u, rfl, q, q'⟩ := VsR.two s; exact ⟨_, z, u, rfl, r, q, q'⟩
theorem HR.updL {φ : Map} {h : Heap} {i : Nat} {a : Addr} {ws : List V} {vs' ws' : List Value} {n : Nat} {f : Array Value → Array Value} (R : HR W φ H h) (e : φ[i]? = some (a, a)) (hl : IsL h a vs'.toArray n) (hf : f vs'.toArray = ws'.toArray) (y : VsR φ ws ws') :
    HR W φ (H.set i (.list ws)) (h.update a (Obj.mapSeq f)) ∧ Kp φ h φ (h.update a (Obj.mapSeq f)) := by
  have k : ∀ b o, b ≠ a → b ≠ a → h.get? b = some o → (h.update a (Obj.mapSeq f)).get? b = some o := fun b o n1 _ q => (Heap.get?_update_other h _ (Ne.symm n1)).trans q
  refine ⟨R.upd e ⟨rfl, ws', (if (f vs'.toArray).size == vs'.toArray.size then n else n + 1), ?_, y⟩ k, Kp.upd e k⟩
  have := IsL.update hl f
  rw [← hf]
  exact this
theorem call_append {i : Nat} {vs : List V} {v : V} (ho : H[i]? = some (.list vs)) (hz : vs.length ≤ sizeLine) : CallR W d H (.builtin "list.append") [.ref i, v] .none (H.set i (.list (vs ++ [v]))) :=
  fun A h t σ φ vs' Q E rm R y k => by
    obtain ⟨b, bs, rfl, y1, y2⟩ := VsR.two y
    obtain ⟨a, vs', n, rfl, ea, hl, yv⟩ := R.lst ho y1
    have e := yv.length
    obtain ⟨R', k'⟩ := R.updL (f := fun x => x.push bs) (ws' := vs' ++ [bs]) ea hl (by simp) (yv.append (.cons y2 .nil))
    exact call_meets (s := St σ h t) F.slot_list_append ⟨_, hl, rfl⟩ F.entry_list_append (F.args_list_append_2 _ _) (list_append a vs'.toArray n bs (by simp; (first | lia | omega))) ⟨hl, k .none _ t φ .none R' k'⟩
theorem call_extend {i j : Nat} {vs ws : List V} (ho : H[i]? = some (.list vs)) (hj : H[j]? = some (.list ws)) (hz : vs.length + ws.length ≤ sizeLine) : CallR W d H (.builtin "list.extend") [.ref i, .ref j] .none (H.set i (.list (vs ++ ws))) :=
  fun A h t σ φ vs' Q E rm R y k => by
    obtain ⟨b, bs, rfl, y1, y2⟩ := VsR.two y
    obtain ⟨a, vs', n, rfl, ea, hl, yv⟩ := R.lst ho y1
    obtain ⟨a', ws', n', rfl, ea', hl', yw⟩ := R.lst hj y2
    have e := yv.length
    have e' := yw.length
    obtain ⟨R', k'⟩ := R.updL (f := fun x => x ++ ws'.toArray) (ws' := vs' ++ ws') ea hl (by simp) (yv.append yw)
    refine call_meets (s := St σ h t) F.slot_list_extend ⟨_, hl, rfl⟩ F.entry_list_extend (F.args_list_extend_2 _ _) (AutoSeq1.list_extend_list_list_0 a vs'.toArray n a' ws'.toArray n' ?_ (by simp; (first | lia | omega)) (by simp; (first | lia | omega))) ⟨hl, hl', k .none _ t φ .none R' k'⟩
    have sl := sizeLine_eq
    simp [Builtin.List.listTooLong]
    intro _
    (first | lia | omega)
theorem call_len {i : Nat} {vs : List V} (ho : H[i]? = some (.list vs)) (hz : vs.length < 2 ^ 62) : CallR W d H (.builtin "len") [.ref i] (.int vs.length) H :=
  fun A h t σ φ vs' Q E rm R y k => by
    obtain ⟨b, rfl, y1⟩ := VsR.one y
    obtain ⟨a, vs', n, rfl, ea, hl, yv⟩ := R.lst ho y1
    have e := yv.length
    refine call_len_list (s := St σ h t) hl.isList (by simp; (first | lia | omega)) (k _ h _ φ ?_ R (.refl _ _))
    have : ((vs'.toArray.size : Nat) : Int) = vs.length := by simp [e]
    rw [this]
    exact .int _ _
theorem call_len_sd {i : Nat} {es : List (Str × V)} {ep : Nat} (ho : H[i]? = some (.sd es ep)) (hz : es.length < 2 ^ 62) : CallR W d H (.builtin "len") [.ref i] (.int es.length) H :=
  fun A h t σ φ vs' Q E rm R y k => by
    obtain ⟨b, rfl, y1⟩ := VsR.one y
    cases y1 with
    | @ref _ a dx ea =>
      obtain ⟨p, ep', e0, kvs, hd, yk⟩ := R.at ho
      rw [ea] at ep'; cases ep'
      have e := yk.length
      have := W.sm a (R.new a ⟨_, List.mem_of_getElem? ea, .inl rfl⟩)
      refine call_len_dict (s := St σ h t) this hd.dictOf (by (first | lia | omega)) (k _ h _ φ ?_ R (.refl _ _))
      rw [← e]
      exact .int _ _

theorem ev_addl {l r : PySem.Expr} {p : Pos} {i j : Nat} {vs ws : List V} (x : Ev W d sc ρ H l (.ref i) H₁) (y : Ev W d sc ρ H₁ r (.ref j) H₂) (hi : H₂[i]? = some (.list vs)) (hj : H₂[j]? = some (.list ws)) (hz : vs.length + ws.length ≤ sizeLine) :
    Ev W d sc ρ H (.BinOp l .Add r p) (.ref H₂.length) (H₂ ++ [.list (vs ++ ws)]) :=
  ev_bin x y fun A env h t σ φ a' b' Q E rm F R ya yb k => by
    obtain ⟨a, vs', n, rfl, ea, hl, yv⟩ := R.lst hi ya
    obtain ⟨b, ws', m, rfl, eb, hm, yw⟩ := R.lst hj yb
    have e := yv.length
    have e' := yw.length
    obtain ⟨R', k', v'⟩ := R.new1 (ob := { cls := .type "list", data := .seq (vs'.toArray ++ ws'.toArray) }) (o := .list (vs ++ ws)) rfl fun g => ⟨rfl, vs' ++ ws', 0, by rw [← List.append_toArray]; exact g, yv.append yw⟩
    exact P.add_list (s := St σ h t) hl hm (k _ _ t _ v' R' k') (by simp; (first | lia | omega))

noncomputable def oi : Option Nat → Option Int
  | none => none
  | some n => some (n : Int)
noncomputable def cutL {α : Type} (vs : List α) : Option Nat → Option Nat → List α
  | some a, none => vs.drop a
  | none, some b => vs.take b
  | some a, some b => (vs.drop a).take (b - a)
  | _, _ => []
noncomputable def cut (vs : List V) : Option Nat → Option Nat → Option (List V)
  | some a, none => some (vs.drop a)
  | none, some b => some (vs.take b)
  | some a, some b => if a ≤ b ∧ b ≤ vs.length then some ((vs.drop a).take (b - a)) else none
  | _, _ => none
noncomputable def PartR (W : Wd) (d : Nat) (sc : Scope) (ρ : Loc) (H : List O) (e : Option PySem.Expr) (k : Option Nat) : Prop :=
  match e, k with
  | none, none => True
  | some e, some k => Ev W d sc ρ H e (.int k) H
  | _, _ => False
theorem wp_part {e : Option PySem.Expr} {k : Option Nat} {A : Around} {env : Env} {h : Heap} {t : Nat} {σ : Shared} {φ : Map} {Q : Value → Shared → Prop} {E : Value → Shared → Prop} (x : PartR W d sc ρ H e k) (rm : Rm A d) (F : Fm W sc env φ h ρ) (R : HR W φ H h)
    (q : ∀ v' h' t' φ', IsPart v' (oi k) → HR W φ' H h' → Kp φ h φ' h' → Q v' (St σ h' t')) : wpAny (mdl W) A (evalPart e env) Q E (St σ h t) := by
  cases e with
  | none =>
    cases k with
    | none => rw [evalPart_none]; exact wpAny_pure (q .none h t φ .none R (.refl _ _))
    | some k => cases x
  | some e =>
    cases k with
    | none => cases x
    | some k =>
      rw [evalPart_some]
      exact x A env h t σ φ _ E rm F R fun v' h' t' φ' y R' k' => by cases y; exact q _ h' t' φ' (.int _ _) R' k'
theorem pick_cut {vs ws : List V} {vs' : List Value} (l : vs.length = vs'.length) : ∀ lo hi : Option Nat, cut vs lo hi = some ws → slicePick vs'.toArray (oi lo) (oi hi) none = (cutL vs' lo hi).toArray
  | none, none, h => by cases h
  | some a, none, _ => slicePick_from' vs'.toArray a
  | none, some b, _ => slicePick_upto' vs'.toArray b
  | some a, some b, h => by
    have c : a ≤ b ∧ b ≤ vs.length := by
      by_cases c : a ≤ b ∧ b ≤ vs.length
      · exact c
      · rw [show cut vs (some a) (some b) = none from if_neg c] at h; cases h
    exact slicePick_run vs'.toArray a b (by simp; (first | lia | omega)) c.1
theorem ev_slice {value : PySem.Expr} {lower upper : Option PySem.Expr} {p q : Pos} {i : Nat} {vs ws : List V} {lo hi : Option Nat} (x : Ev W d sc ρ H value (.ref i) H₁) (y : PartR W d sc ρ H₁ lower lo) (z : PartR W d sc ρ H₁ upper hi)
    (ho : H₁[i]? = some (.list vs)) (hc : cut vs lo hi = some ws) (hz : vs.length ≤ sizeLine) : Ev W d sc ρ H (.Subscript value (.Slice lower upper none q) p) (.ref H₁.length) (H₁ ++ [.list ws]) :=
  fun A env h t σ φ Q E rm F R k => Subscript_ (x A env h t σ φ _ E rm F R fun o' h₁ t₁ φ₁ yo R₁ k₁ => wpAny_Slice (wp_part y rm (F.kp k₁) R₁ fun vl h₂ t₂ φ₂ pl R₂ k₂ => wp_part z rm ((F.kp k₁).kp k₂) R₂ fun vu h₃ t₃ φ₃ pu R₃ k₃ => by
    rw [evalPart_none]
    refine wpAny_pure ?_
    obtain ⟨a, vs', n, rfl, ea, hl, yv⟩ := R₃.lst ho ((yo.mono k₂.pre).mono k₃.pre)
    have kk : ∀ b o, h₃.get? b = some o → (h₃.push { cls := .type "slice", data := .fields #[vl, vu, .none] }).get? b = some o := fun b o e => Heap.get?_push_of_some _ e
    have hl' := hl.push { cls := .type "slice", data := .fields #[vl, vu, .none] }
    have R₄ := R₃.grow kk
    have e := yv.length
    have pick : slicePick vs'.toArray (oi lo) (oi hi) none = (cutL vs' lo hi).toArray := by
      exact pick_cut e lo hi hc
    have yw : VsR φ₃ ws (cutL vs' lo hi) := by
      cases lo <;> cases hi
      · cases hc
      · cases hc; exact yv.take _
      · cases hc; exact yv.drop _
      · rename_i a b
        by_cases c : a ≤ b ∧ b ≤ vs.length
        · rw [show cut vs (some a) (some b) = some ((vs.drop a).take (b - a)) from if_pos c] at hc
          cases hc; exact (yv.drop _).take _
        · rw [show cut vs (some a) (some b) = none from if_neg c] at hc; cases hc
    obtain ⟨R', k', v'⟩ := R₄.new1 (ob := { cls := .type "list", data := .seq (slicePick vs'.toArray (oi lo) (oi hi) none) }) (o := .list ws) rfl fun g => ⟨rfl, cutL vs' lo hi, 0, pick ▸ g, yw⟩
    refine tail_any (s := St σ (h₃.push { cls := .type "slice", data := .fields #[vl, vu, .none] }) t₃) hl'.isList.typeIs list_getitem_lookup (wpAny_getItem_list_slice hl'.isList (Heap.IsSliceOf.new ..) pl pu .none (by simp) ?_ (by simp; (first | lia | omega))) rfl
    exact k _ _ t₃ _ v' R' (((k₁.trans k₂).trans k₃).trans ((Kp.grow kk).trans k'))))
end
noncomputable def isaOk (K : Frag) (C D : Addr) : Bool := isIn K (.ref C) D && (clsIn K C).isSome
noncomputable def naOk (K : Frag) (C D : Addr) : Bool := plainGet K C "__class__" && hasDictIn K C && findIn K (.ref C) "__class__" == some (some (.builtin "object.__class__")) && specialIn K (.builtin "object.__class__") "__get__" == some (some (.builtin "getset_descriptor.__get__")) &&
  takesIn K (.builtin "object.__class__") == some true && mroIn K C (.type "object") == some true && typeIn K (.ref D) == some (.type "type") && (clsIn K D).isSome && !(C == D) && subIn K (.ref C) (.ref D) == some false
section
variable {W : Wd} {d : Nat} {sc : Scope} {ρ : Loc} {H H₁ H₂ H₃ H' : List O}
theorem HR.instAt {φ : Map} {h : Heap} {i : Nat} {C : Addr} {fs : List (Str × V)} {v' : Value} (R : HR W φ H h) (ho : H[i]? = some (.inst C fs)) (y : VR φ (.ref i) v') :
    ∃ a dx es n, v' = .ref a ∧ PySem.W.InstAt h a (instObj C dx) C (some (dictOf es n)) := by
  cases y with
  | @ref _ a dx ea =>
    obtain ⟨p, ep, o1, es, n, o2, fr⟩ := R.at ho
    rw [ea] at ep; cases ep
    exact ⟨a, dx, es, n, rfl, o1, rfl, rfl, o2⟩
noncomputable def IsaR (W : Wd) (d : Nat) (H : List O) (v : V) (D : Addr) (b : Bool) : Prop :=
  ∀ (A : Around) (h : Heap) (t : Nat) (σ : Shared) (φ : Map) (v' : Value) (Q : Value → Shared → Prop) (E : Value → Shared → Prop), Rm A d → HR W φ H h → VR φ v v' →
    (∀ t', Q (.bool b) (St σ h t')) → wpAny (mdl W) A (call (.builtin "isinstance") [v', .ref D]) Q E (St σ h t)
theorem isa_yes {i : Nat} {C D : Addr} {fs : List (Str × V)} (ho : H[i]? = some (.inst C fs)) (hc : isaOk W.K C D = true) : IsaR W d H (.ref i) D true :=
  fun A h t σ φ v' Q E rm R y k => by
    obtain ⟨a, dx, es, n, rfl, I⟩ := R.instAt ho y
    unfold isaOk at hc
    rw [Bool.and_eq_true] at hc
    exact isi_call (s := St σ h t) (W.X.keeps R.base) (fun M => I.type) hc.1 (by intro e; cases e) (k t)
theorem isa_no {i : Nat} {C D : Addr} {fs : List (Str × V)} (ho : H[i]? = some (.inst C fs)) (hc : naOk W.K C D = true) : IsaR W d H (.ref i) D false :=
  fun A h t σ φ v' Q E rm R y k => by
    obtain ⟨a, dx, es, n, rfl, I⟩ := R.instAt ho y
    unfold naOk at hc
    simp only [Bool.and_eq_true, beq_iff_eq, Bool.not_eq_true', beq_eq_false_iff_ne, ne_eq] at hc
    obtain ⟨⟨⟨⟨⟨⟨⟨⟨⟨c1, c2⟩, c3⟩, c4⟩, c5⟩, c6⟩, c7⟩, c8⟩, c9⟩, c10⟩ := hc
    refine kin_call (s := St σ h t) c1 c2 c3 c4 c5 c6 (W.X.keeps R.base) I (fun M h' X => looks_typeIn X c7) (fun M h' X => ?_) (by simpa using c9) (fun M h' X => looks_subIn X c10) (k _)
    unfold clsIn at c8
    split at c8
    · rename_i c' d' cd' sl' ho'
      intro A' Q' E' s' k q
      unfold isType loadHead
      exact wpAny_bind (wpAny_loadPart (k _ _ (X _ _ ho')) (wpAny_pure q))
    · cases c8
theorem isa_int {i : Int} {D : Addr} (hc : isNotIn W.K "int" D = true) : IsaR W d H (.int i) D false :=
  fun A h t σ φ v' Q E rm R y k => by
    cases y
    exact isn_call (P := fun _ => True) (s := St σ h t) (W.X.keeps R.base) (fun M => Looks.of_pure rfl) hc (by intro e; cases e) trivial int_cls (k _)
theorem isa_str {x : Str} {D : Addr} (hc : isNotIn W.K "str" D = true) : IsaR W d H (.str x) D false :=
  fun A h t σ φ v' Q E rm R y k => by
    cases y
    exact isn_call (P := fun _ => True) (s := St σ h t) (W.X.keeps R.base) (fun M => Looks.of_pure rfl) hc (by intro e; cases e) trivial str_cls (k _)
theorem isa_none {D : Addr} (hc : isNotIn W.K "NoneType" D = true) : IsaR W d H .none D false :=
  fun A h t σ φ v' Q E rm R y k => by
    cases y
    exact isn_call (P := fun _ => True) (s := St σ h t) (W.X.keeps R.base) (fun M => Looks.of_pure rfl) hc (by intro e; cases e) trivial none_cls (k _)
theorem ev_isa {e : PySem.Expr} {np cp p : Pos} {c : Str} {D : Addr} {v : V} {b : Bool} (x : Ev W d sc ρ H e v H₁) (z : IsaR W d H₁ v D b) (hi : nsIn W.K mainGlobals "isinstance" = some none) (hc : nsIn W.K mainGlobals c = some (some (.ref D)))
    (sx : sc.names.lookup (Str.ofString "isinstance") = some .globalImplicit) (sc' : sc.names.lookup c = some .globalImplicit) (hb : bootBuiltins "isinstance" = some (.builtin "isinstance")) (hs : isStar e = false := by rfl) (hd : (c == ("__debug__" : Str)) = false := by decide) :
    Ev W d sc ρ H (.Call (.Name "isinstance" np) [e, .Name c cp] [] p) (.bool b) H₁ :=
  fun A env h t σ φ Q E rm F R k => by
    show wpAny _ _ (eval (.Name "isinstance" np) env >>= fun g => callWith p g [] (backTo p (starEach [e, .Name c cp] env)) (backToKw p (keywordEach [] env))) _ _ _
    refine wpAny_bind (wp_builtin F R sx hi hb (by decide) ?_)
    refine Calls.callWith_builtin (by rw [starEach_cons hs]; rfl) ?_
    rw [starEach_cons hs]
    refine Calls.evalArgs_plain (Calls.spliced_cons (x A env h t σ φ _ E rm F R fun v' h₁ t₁ φ₁ y R₁ k₁ => Calls.spliced_cons (wp_global (F.kp k₁) R₁ sc' hc (Calls.spliced_nil ?_) hd)))
    exact z A h₁ t₁ σ φ₁ v' Q E rm R₁ y fun t' => k _ h₁ t' φ₁ (.bool b) R₁ k₁
theorem ev_isint {e : PySem.Expr} {np cp p : Pos} {v : V} {b : Bool} (x : Ev W d sc ρ H e v H₁) (z : (∃ i, v = .int i ∧ b = true) ∨ (∃ s, v = .str s ∧ b = false)) (hi : nsIn W.K mainGlobals "isinstance" = some none) (hc : nsIn W.K mainGlobals "int" = some none)
    (sx : sc.names.lookup (Str.ofString "isinstance") = some .globalImplicit) (sc' : sc.names.lookup (Str.ofString "int") = some .globalImplicit) (hb : bootBuiltins "isinstance" = some (.builtin "isinstance")) (hb' : bootBuiltins "int" = some (.type "int")) (hs : isStar e = false := by rfl) :
    Ev W d sc ρ H (.Call (.Name "isinstance" np) [e, .Name "int" cp] [] p) (.bool b) H₁ :=
  fun A env h t σ φ Q E rm F R k => by
    show wpAny _ _ (eval (.Name "isinstance" np) env >>= fun g => callWith p g [] (backTo p (starEach [e, .Name "int" cp] env)) (backToKw p (keywordEach [] env))) _ _ _
    refine wpAny_bind (wp_builtin F R sx hi hb (by decide) ?_)
    refine Calls.callWith_builtin (by rw [starEach_cons hs]; rfl) ?_
    rw [starEach_cons hs]
    refine Calls.evalArgs_plain (Calls.spliced_cons (x A env h t σ φ _ E rm F R fun v' h₁ t₁ φ₁ y R₁ k₁ => Calls.spliced_cons (wp_builtin (F.kp k₁) R₁ sc' hc hb' (by decide) (Calls.spliced_nil ?_))))
    rcases z with ⟨i, rfl, rfl⟩ | ⟨s, rfl, rfl⟩
    · cases y
      exact IsiPair.int_int (k _ h₁ _ φ₁ (.bool true) R₁ k₁)
    · cases y
      exact IsiPair.str_int (k _ h₁ _ φ₁ (.bool false) R₁ k₁)
end
/- what an abstract value tells as data -/
mutual
inductive Rd (H : List O) : V → PyData → Prop
  | none : Rd H .none .none
  | bool (b : Bool) : Rd H (.bool b) (.bool b)
  | int (i : Int) : Rd H (.int i) (.int i)
  | str (x : Str) : Rd H (.str x) (.str x)
  | list {i vs ds} : H[i]? = some (.list vs) → RdA H vs ds → Rd H (.ref i) (.list ds)
  | tup {i vs ds} : H[i]? = some (.tup vs) → RdA H vs ds → Rd H (.ref i) (.tuple ds)
inductive RdA (H : List O) : List V → List PyData → Prop
  | nil : RdA H [] []
  | cons {v vs d ds} : Rd H v d → RdA H vs ds → RdA H (v :: vs) (d :: ds)
end
section
variable {W : Wd} {H : List O} {φ : Map} {h : Heap}
theorem Rd.reads_both (R : HR W φ H h) : (∀ v d, Rd H v d → ∀ v', VR φ v v' → ∃ as, Reads h v' d as) ∧ ∀ vs ds, RdA H vs ds → ∀ vs', VsR φ vs vs' → ∃ as, ReadsAll h vs' ds as := by
  have main : ∀ {M : (v : V) → (d : PyData) → Rd H v d → Prop} {N : (vs : List V) → (ds : List PyData) → RdA H vs ds → Prop}, (M = fun v d _ => ∀ v', VR φ v v' → ∃ as, Reads h v' d as) → (N = fun vs ds _ => ∀ vs', VsR φ vs vs' → ∃ as, ReadsAll h vs' ds as) → (∀ v d x, M v d x) ∧ ∀ vs ds x, N vs ds x := by
    rintro M N rfl rfl
    have c1 : ∀ {i : Nat} {vs : List V} {ds : List PyData} (e : H[i]? = some (.list vs)) (r : RdA H vs ds), (∀ vs', VsR φ vs vs' → ∃ as, ReadsAll h vs' ds as) → ∀ v', VR φ (.ref i) v' → ∃ as, Reads h v' (.list ds) as := fun e _ ih v' y => by
      obtain ⟨a, vs', n, rfl, _, hl, yv⟩ := R.lst e y
      obtain ⟨as, q⟩ := ih _ yv
      exact ⟨_, .list hl rfl rfl q⟩
    have c2 : ∀ {i : Nat} {vs : List V} {ds : List PyData} (e : H[i]? = some (.tup vs)) (r : RdA H vs ds), (∀ vs', VsR φ vs vs' → ∃ as, ReadsAll h vs' ds as) → ∀ v', VR φ (.ref i) v' → ∃ as, Reads h v' (.tuple ds) as := fun e _ ih v' y => by
      obtain ⟨a, vs', n, rfl, _, hl, yv⟩ := R.tpl e y
      obtain ⟨as, q⟩ := ih _ yv
      exact ⟨_, .tuple hl rfl rfl q⟩
    have c3 : ∀ {v : V} {vs : List V} {d : PyData} {ds : List PyData} (r : Rd H v d) (rs : RdA H vs ds), (∀ v', VR φ v v' → ∃ as, Reads h v' d as) → (∀ vs', VsR φ vs vs' → ∃ as, ReadsAll h vs' ds as) → ∀ vs', VsR φ (v :: vs) vs' → ∃ as, ReadsAll h vs' (d :: ds) as := fun _ _ i1 i2 vs' y => by
      cases y with
      | cons y1 ys =>
        obtain ⟨as, q⟩ := i1 _ y1
        obtain ⟨bs, q'⟩ := i2 _ ys
        exact ⟨_, .cons q q'⟩
    have n1 : ∀ v', VR φ .none v' → ∃ as, Reads h v' .none as := fun v' y => by cases y; exact ⟨_, .none⟩
    have n2 : ∀ (b : Bool) v', VR φ (.bool b) v' → ∃ as, Reads h v' (.bool b) as := fun b v' y => by cases y; exact ⟨_, .bool _⟩
    have n3 : ∀ (i : Int) v', VR φ (.int i) v' → ∃ as, Reads h v' (.int i) as := fun b v' y => by cases y; exact ⟨_, .int _ _⟩
    have n4 : ∀ (x : Str) v', VR φ (.str x) v' → ∃ as, Reads h v' (.str x) as := fun b v' y => by cases y; exact ⟨_, .str _ _⟩
    have n5 : ∀ vs', VsR φ [] vs' → ∃ as, ReadsAll h vs' [] as := fun v' y => by cases y; exact ⟨_, .nil⟩
    exact ⟨fun v d x => Rd.rec n1 n2 n3 n4 c1 c2 n5 c3 x, fun vs ds x => RdA.rec n1 n2 n3 n4 c1 c2 n5 c3 x⟩
  exact main rfl rfl
theorem Rd.reads (R : HR W φ H h) {v : V} {d : PyData} (x : Rd H v d) (v' : Value) (y : VR φ v v') : ∃ as, Reads h v' d as := (Rd.reads_both R).1 v d x v' y
end

section
variable {W : Wd} {d : Nat} {sc : Scope} {ρ : Loc} {H H₁ H₂ H₃ H' : List O}
theorem Rm.eq {A : Around} {k : Nat} (rm : Rm A d) (h : k ≤ 90) : A.units + 1 + k < cLine := by have := rm.un; (first | lia | omega)
theorem cmp_eq {a b : V} {da db : PyData} (x : Rd H a da) (y : Rd H b db) (ha : da.canLay0 = true) (hb : db.canLay0 = true) (hu : da.depth ≤ 90) : CmpR W d H .Eq a b (PyData.eqv da db) :=
  cmp_pure fun A h t σ φ a' b' Q E rm R ya yb k => by
    obtain ⟨as, ra⟩ := Rd.reads R x _ ya
    obtain ⟨bs, rb⟩ := Rd.reads R y _ yb
    exact compareEq_reads (s := St σ h t) ra rb ha hb (by have := rm.eq hu; (first | lia | omega)) (k t)
theorem cmp_ne {a b : V} {da db : PyData} (x : Rd H a da) (y : Rd H b db) (ha : da.canLay0 = true) (hb : db.canLay0 = true) (hu : da.depth ≤ 90) : CmpR W d H .NotEq a b (!PyData.eqv da db) :=
  cmp_pure fun A h t σ φ a' b' Q E rm R ya yb k => by
    obtain ⟨as, ra⟩ := Rd.reads R x _ ya
    obtain ⟨bs, rb⟩ := Rd.reads R y _ yb
    exact compareNe_reads (s := St σ h t) ra rb ha hb (by have := rm.eq hu; (first | lia | omega)) (k t)
theorem cmp_in {a b : V} {da : PyData} {ds : List PyData} (x : Rd H a da) (y : Rd H b (.list ds)) (ha : da.canLay0 = true) (hb : PyData.canLayAll0 ds = true) (hu : da.depth ≤ 90) : CmpR W d H .In a b (ds.any fun z => PyData.eqv z da) :=
  cmp_pure fun A h t σ φ a' b' Q E rm R ya yb k => by
    obtain ⟨as, ra⟩ := Rd.reads R x _ ya
    obtain ⟨bs, rb⟩ := Rd.reads R y _ yb
    exact in_list_reads (s := St σ h t) rb ra hb ha (by have := rm.eq hu; (first | lia | omega)) (k t)
theorem cmp_int {a b : V} {da : PyData} {ds : List PyData} (x : Rd H a da) (y : Rd H b (.tuple ds)) (ha : da.canLay0 = true) (hb : PyData.canLayAll0 ds = true) (hu : da.depth ≤ 90) : CmpR W d H .In a b (ds.any fun z => PyData.eqv z da) :=
  cmp_pure fun A h t σ φ a' b' Q E rm R ya yb k => by
    obtain ⟨as, ra⟩ := Rd.reads R x _ ya
    obtain ⟨bs, rb⟩ := Rd.reads R y _ yb
    exact in_tuple_reads (s := St σ h t) rb ra hb ha (by have := rm.eq hu; (first | lia | omega)) (k t)
theorem call_count {i : Nat} {b : V} {db : PyData} {vs : List V} {ds : List PyData} (ho : H[i]? = some (.list vs)) (x : RdA H vs ds) (y : Rd H b db) (hb : db.canLay0 = true) (ha : PyData.canLayAll0 ds = true) (hu : db.depth ≤ 90) :
    CallR W d H (.builtin "list.count") [.ref i, b] (.int (ds.countP fun z => PyData.eqv z db : Nat)) H :=
  fun A h t σ φ vs' Q E rm R y' k => by
    obtain ⟨l, b', rfl, y1, y2⟩ := VsR.two y'
    obtain ⟨a, vs', n, rfl, ea, hl, yv⟩ := R.lst ho y1
    obtain ⟨as, ra⟩ := (Rd.reads_both R).2 _ _ x _ yv
    obtain ⟨bs, rb⟩ := Rd.reads R y _ y2
    have he := items_eqAt (A := A) (s := St σ h t) (vs := vs'.toArray) (xs := ds) (by simpa using ra) rb ha hb (by have := rm.eq hu; (first | lia | omega))
    refine call_meets (s := St σ h t) F.slot_list_count ⟨_, hl, rfl⟩ F.entry_list_count (F.args_list_count_2 _ _) (list_countAt a vs'.toArray n none #[] b' (fun y => PyData.eqv (readOf h y) db)) ⟨hl, ?_, ?_⟩
    · exact he
    · have e : (vs'.toArray.toList.countP fun y => PyData.eqv (readOf h y) db) = ds.countP fun z => PyData.eqv z db := by
        rw [← readsAll_map ds vs' as ha ra, List.countP_map]; rfl
      rw [e]
      exact k _ h _ φ (.int _ _) R (.refl _ _)

theorem ev_sign {value slice : PySem.Expr} {p : Pos} {x : Str} {k : Int} {c : Nat} (a : Ev W d sc ρ H value (.str x) H₁) (b : Ev W d sc ρ H₁ slice (.int k) H₂) (h0 : 0 ≤ k) (hk : k < 2 ^ 62) (hc : (seqIndex? k x.length).bind (x.cps[·]?) = some c)
    (hs : isSlice slice = false := by rfl) : Ev W d sc ρ H (.Subscript value slice p) (.str ⟨#[c]⟩) H₂ :=
  ev_subs a b fun A h t σ φ a' b' Q E rm R ya yb kk => by
    cases ya; cases yb
    exact tail_any (s := St σ h t) (typeIs_str _ _ _) F.slot_str_getitem.lookup (P.getItem_str (by simp; (first | lia | omega)) hc (kk _ h _ φ (.str _ _) R (.refl _ _))) (subscripted_plain hs)
theorem call_str {i : Int} (hi : i.natAbs.log2 < 1920) : CallR W d H (.type "str") [.int i] (.str (toString i)) H :=
  fun A h t σ φ vs' Q E rm R y k => by
    obtain ⟨l, rfl, y1⟩ := VsR.one y
    cases y1
    exact P.str_of_int (s := St σ h t) hi (k _ h _ φ (.str _ _) R (.refl _ _))
theorem new_range {φ : Map} {h : Heap} {a b c : Int} {t u v : Tok} (R : HR W φ H h) : let ob : Obj := { cls := .type "range", data := .fields #[.int a t, .int b u, .int c v] }
    HR W (φ ++ [(h.objs.size, h.objs.size)]) (H ++ [.rng a b c]) (h.push ob) ∧ Kp φ h (φ ++ [(h.objs.size, h.objs.size)]) (h.push ob) ∧ VR (φ ++ [(h.objs.size, h.objs.size)]) (.ref H.length) (.ref h.objs.size) :=
  R.new1 (ob := { cls := .type "range", data := .fields #[.int a t, .int b u, .int c v] }) (o := .rng a b c) rfl fun g => ⟨rfl, t, u, v, g⟩
theorem call_range1 {b : Int} : CallR W d H (.type "range") [.int b] (.ref H.length) (H ++ [.rng 0 b 1]) :=
  fun A h t σ φ vs' Q E rm R y k => by
    obtain ⟨l, rfl, y1⟩ := VsR.one y
    cases y1
    obtain ⟨R', k', v'⟩ := new_range (a := 0) (b := b) (c := 1) (t := t) (u := _) (v := t + 1) R
    exact call_range_1 (s := St σ h t) (k _ _ _ _ v' R' k')
theorem call_range3 {a b c : Int} (hc : c ≠ 0) (hs : c.natAbs < 1073741824) : CallR W d H (.type "range") [.int a, .int b, .int c] (.ref H.length) (H ++ [.rng a b c]) :=
  fun A h t σ φ vs' Q E rm R y k => by
    obtain ⟨l, l', l'', rfl, y1, y2, y3⟩ := VsR.three y
    cases y1; cases y2; cases y3
    obtain ⟨R', k', v'⟩ := new_range (a := a) (b := b) (c := c) (t := _) (u := _) (v := _) R
    exact call_range_3 (s := St σ h t) hc (k _ _ _ _ v' R' k') (.inl (PyProof.noPylong_small hs))

theorem wp_setitem {A : Around} {h : Heap} {t : Nat} {σ : Shared} {φ : Map} {i : Nat} {vs : List V} {k : Int} {v : V} {v₀ v' : Value} {u : Tok} {Q : Unit → Shared → Prop} {E : Value → Shared → Prop}
    (R : HR W φ H h) (ho : H[i]? = some (.list vs)) (h0 : 0 ≤ k) (hk : k < 2 ^ 63) (hn : k < vs.length) (y : VR φ (.ref i) v₀) (yv : VR φ v v') (kk : ∀ h' t', HR W φ (H.set i (.list (vs.set k.toNat v))) h' → Kp φ h φ h' → Q () (St σ h' t')) :
    wpAny (mdl W) A (setItem v₀ (.int k u) v') Q E (St σ h t) := by
  obtain ⟨a, vs', n, rfl, ea, hl, yvs⟩ := R.lst ho y
  have e := yvs.length
  unfold setItem
  try with_reducible refine wpAny_holding ?_
  first | refine wpAny_bind (wpAny_pure ?_) | skip
  refine wpAny_bind (wpAny_sequenceKey (s := St σ h t) hl.isList.typeIs (by decide) ?_)
  refine wpAny_bind (wpAny_callSpecial?_slot (name := Str.ofString "__setitem__") hl.isList.typeIs slot_list_setitem
    (wpAny_call_entry slot_list_setitem hl.isList.typeIs entry_list_setitem ?_ (args_list_setitem _ _ _)))
  show wpAny _ _ (Builtin.List.listSubscript? (.int k u) >>= _) _ _ (St σ h t)
  refine wpAny_bind (wpAny_listSubscript_int (fitsIndex_of h0 hk) ?_)
  obtain ⟨R', k'⟩ := R.updL (f := fun x => x.setIfInBounds k.toNat v') (ws := vs.set k.toNat v) (ws' := vs'.set k.toNat v') ea hl (by simp) (yvs.set _ yv)
  have fin := kk _ t R' k'
  clear hk
  obtain ⟨j, rfl⟩ := Int.eq_ofNat_of_zero_le h0
  have hj : j < vs'.toArray.size := by simp; (first | lia | omega)
  show wpAny _ _ ((seqItemAt a j >>= fun r => pure (r.map (j, ·))) >>= _) _ _ _
  refine wpAny_bind (wpAny_bind (wpAny_seqItemAt hl rfl (wpAny_pure ?_)))
  rw [Array.getElem?_eq_getElem hj]
  show wpAny _ _ (setSeqItemAt a j v' >>= _) _ _ _
  refine wpAny_bind (wpAny_setSeqItemAt hl rfl ?_)
  first
    | exact wpAny_bind (wpAny_pure (wpAny_pure ⟨.none, rfl, wpAny_pure fin⟩))
    | exact wpAny_pure ⟨.none, rfl, wpAny_pure fin⟩
theorem ex1_setitem {o ix value : PySem.Expr} {p q : Pos} {i : Nat} {vs : List V} {k : Int} {v : V} (a : Ev W d sc ρ H value v H₁) (b : Ev W d sc ρ H₁ o (.ref i) H₂) (c : Ev W d sc ρ H₂ ix (.int k) H₃) (ho : H₃[i]? = some (.list vs)) (h0 : 0 ≤ k) (hk : k < 2 ^ 63) (hn : k < vs.length)
    (hc : isComp value = false := by rfl) : Ex1 W d sc ρ H (.Assign [.Subscript o ix p] value q) none ρ (H₃.set i (.list (vs.set k.toNat v))) :=
  fun A env h t σ φ Q E rm F R kk => wpAny_Assign_Subscript (a A env h t σ φ _ E rm F R fun v' h₁ t₁ φ₁ y R₁ k₁ => b A env h₁ t₁ σ φ₁ _ E rm (F.kp k₁) R₁ fun o' h₂ t₂ φ₂ yo R₂ k₂ =>
    c A env h₂ t₂ σ φ₂ _ E rm ((F.kp k₁).kp k₂) R₂ fun i' h₃ t₃ φ₃ yi R₃ k₃ => by
      cases yi
      exact wp_setitem R₃ ho h0 hk hn (yo.mono k₃.pre) ((y.mono k₂.pre).mono k₃.pre) fun h' t' R' k' => kk .next h' t' φ₃ .next ((((F.kp k₁).kp k₂).kp k₃).kp k') R' (((k₁.trans k₂).trans k₃).trans k').q)
    (swaps_no hc)
end
section
variable {K : Type} [DecidableEq K]
noncomputable def vAt {β : Type} (es : List (K × β)) (k : K) : Option β := (es.find? fun kv => kv.1 = k).map (·.2)
noncomputable def putD {β : Type} (es : List (K × β)) (k : K) (v : β) : List (K × β) := if es.any (fun kv => kv.1 = k) then es.map (fun kv => if kv.1 = k then (kv.1, v) else kv) else es ++ [(k, v)]
noncomputable def putE {β : Type} (es : List (K × β)) (k : K) (ep : Nat) : Nat := if es.any (fun kv => kv.1 = k) then ep else ep + 1
theorem kr_any {φ : Map} {es : List (K × V)} {kvs : List (K × Value)} (x : All2 (KR φ) es kvs) (k : K) : es.any (fun kv => kv.1 = k) = kvs.any (fun kv => kv.1 = k) := by
  induction x with
  | nil => rfl
  | cons h _ ih => simp only [List.any_cons, ih, h.1]
theorem kr_at {φ : Map} {es : List (K × V)} {kvs : List (K × Value)} (x : All2 (KR φ) es kvs) {k : K} {v : V} (e : vAt es k = some v) : ∃ v', valueAt kvs k = some v' ∧ VR φ v v' := by
  induction x with
  | nil => cases e
  | @cons a b _ _ h _ ih =>
    unfold vAt at e
    unfold valueAt
    by_cases q : a.1 = k
    · have q' : b.1 = k := h.1 ▸ q
      simp only [List.find?_cons, q, decide_true, Option.map_some, Option.some.injEq] at e
      subst e
      exact ⟨b.2, by simp [q'], h.2⟩
    · have q' : ¬ b.1 = k := h.1 ▸ q
      simp only [List.find?_cons, q, decide_false] at e
      obtain ⟨v', e', y⟩ := ih e
      unfold valueAt at e'
      exact ⟨v', by simpa [q'] using e', y⟩
theorem kr_none {φ : Map} {es : List (K × V)} {kvs : List (K × Value)} (x : All2 (KR φ) es kvs) {k : K} (e : vAt es k = none) : valueAt kvs k = none := by
  induction x with
  | nil => rfl
  | @cons a b _ _ h _ ih =>
    unfold vAt at e
    unfold valueAt
    by_cases q : a.1 = k
    · simp [q] at e
    · have q' : ¬ b.1 = k := h.1 ▸ q
      simp only [List.find?_cons, q, decide_false] at e
      have := ih e
      unfold valueAt at this
      simpa [q'] using this
theorem kr_map {φ : Map} {es : List (K × V)} {kvs : List (K × Value)} (x : All2 (KR φ) es kvs) (k : K) {v : V} {v' : Value} (y : VR φ v v') :
    All2 (KR φ) (es.map fun kv => if kv.1 = k then (kv.1, v) else kv) (kvs.map fun kv => if kv.1 = k then (kv.1, v') else kv) := by
  induction x with
  | nil => exact .nil
  | @cons a b _ _ h _ ih =>
    simp only [List.map_cons]
    refine .cons ?_ ih
    by_cases q : a.1 = k
    · have q' : b.1 = k := h.1 ▸ q
      rw [if_pos q, if_pos q']
      exact ⟨h.1, y⟩
    · have q' : ¬ b.1 = k := h.1 ▸ q
      rw [if_neg q, if_neg q']
      exact h
theorem kr_put {φ : Map} {es : List (K × V)} {kvs : List (K × Value)} (x : All2 (KR φ) es kvs) (k : K) {v : V} {v' : Value} (y : VR φ v v') : All2 (KR φ) (putD es k v) (stored kvs k v') := by
  unfold putD stored
  rw [kr_any x k]
  split
  · exact kr_map x k y
  · exact x.append (.cons ⟨rfl, y⟩ .nil)

theorem dict_put {prog : Program} {w : World} {knd : KeyKind prog w K} {A : Around} {E : Value → Shared → Prop} {s : Shared} {d : Addr} {kvs : List (K × Value)} {ep : Nat} {k : K} {key v : Value} {Q : Unit → Shared → Prop} (hkey : knd.is k key = true)
    (hm : s.heap.DictAt knd d kvs ep) (hsz : kvs.length ≤ sizeLine) (hQ : ∀ h', h'.DictAt knd d (stored kvs k v) (putE kvs k ep) → Heap.SameBut d s.heap h' → Q () { s with heap := h', toks := s.toks + 1 }) :
    wpAny (model prog w) A (dictSet d key v) Q E s := by
  obtain ⟨o, es, ho, hc, hd, hk, hp, hn⟩ := hm
  have hes : es.size ≤ sizeLine := by
    have e1 := hp.length
    have e2 : es.toList.length = es.size := by simp
    (first | lia | omega)
  unfold dictSet
  try with_reducible refine wpAny_holding ?_
  refine wpAny_bind (knd.pyHash hkey ?_)
  unfold dictSetHashed
  try with_reducible refine wpAny_holding ?_
  refine wpAny_bind (wpAny_dictFind_of (s := { s with toks := s.toks + 1 }) hkey ho hd hk ?_)
  have hidx : (es.findIdx? fun e => knd.is k e.key) = kvs.findIdx? fun kv => decide (kv.1 = k) := by
    rw [← hp.findIdx k]; obtain ⟨l⟩ := es; simp
  cases hi : es.findIdx? fun e => knd.is k e.key with
  | some i =>
    have hany := any_of_findIdx_some (hidx ▸ hi)
    have e1 : stored kvs k v = kvs.map fun kv => if kv.1 = k then (kv.1, v) else kv := by rw [stored, if_pos hany]
    have e2 : putE kvs k ep = ep := by rw [putE, if_pos hany]
    rw [e1, e2] at hQ
    refine wpAny_bind (wpAny_rule (wpAny_bind (wpAny_updateDict (s := { s with toks := s.toks + 1 }) ho hd (wpAny_point (hQ _ ⟨_, _, Heap.get?_update_self _ ho (Obj.isFreed_of_dict (Obj.data_mapDict hd _)),
      hc.mapDict _, Obj.data_mapDict hd _, hk.modify _ _, ?_, ?_⟩ (Heap.SameBut.update ..))))))
    · have hl : (es.toList.findIdx? fun e => knd.is k e.key) = some i := by rw [← hi]; obtain ⟨l⟩ := es; simp
      have := hp.modify hn hl v
      obtain ⟨l⟩ := es
      simpa using this
    · rw [keys_map_store]; exact hn
  | none =>
    have hnot : k ∉ kvs.map (·.1) := not_mem_of_findIdx_none (hidx ▸ hi)
    have hany : ¬ (kvs.any fun kv => decide (kv.1 = k)) = true := by
      rw [List.any_eq_true]; rintro ⟨kv, hkv, he⟩
      exact hnot (List.mem_map.mpr ⟨kv, hkv, of_decide_eq_true he⟩)
    have e1 : stored kvs k v = kvs ++ [(k, v)] := by rw [stored, if_neg hany]
    have e2 : putE kvs k ep = ep + 1 := by rw [putE, if_neg hany]
    rw [e1, e2] at hQ
    refine wpAny_bind (wpAny_rule (wpAny_updateDictKeys (hz := hes) (s := { s with toks := s.toks + 1 }) ho hd (hQ _ ⟨_, _, Heap.get?_update_self _ ho (Obj.isFreed_of_dict (Obj.data_mapDictKeys hd _)),
      hc.mapDictKeys _, Obj.data_mapDictKeys hd _, hk.push hkey _, ?_, ?_⟩ (Heap.SameBut.update ..))))
    · have := hp.append hkey (knd.hash k) v
      obtain ⟨l⟩ := es
      simpa using this
    · rw [List.map_append, List.nodup_append]
      refine ⟨hn, by simp, ?_⟩
      intro a ha b hb
      simp only [List.map_cons, List.map_nil, List.mem_singleton] at hb
      subst hb
      exact fun e => hnot (e ▸ ha)
theorem setItem_put {prog : Program} {w : World} {knd : KeyKind prog w K} {A : Around} {E : Value → Shared → Prop} {s : Shared} {d : Addr} {kvs : List (K × Value)} {ep : Nat} {k : K} {key v : Value} {Q : Unit → Shared → Prop} (hkey : knd.is k key = true)
    (hm : s.heap.DictAt knd d kvs ep) (hsz : kvs.length ≤ sizeLine) (hQ : ∀ h', h'.DictAt knd d (stored kvs k v) (putE kvs k ep) → Heap.SameBut d s.heap h' → Q () { s with heap := h', toks := s.toks + 1 }) :
    wpAny (model prog w) A (setItem (.ref d) key v) Q E s := by
  unfold setItem
  try with_reducible refine wpAny_holding ?_
  refine wpAny_bind (wpAny_sequenceKey hm.dictOf.typeIs (by decide) ?_)
  refine wpAny_bind (wpAny_callSpecial?_slot (name := Str.ofString "__setitem__") hm.dictOf.typeIs slot_dict_setitem
    (wpAny_call_entry slot_dict_setitem hm.dictOf.typeIs entry_dict_setitem ?_ (args_dict_setitem _ _ _)))
  show wpAny _ _ (Builtin.Dict.notOrdered "__setitem__" ⟨[.ref d, key, v], []⟩ >>= _) _ _ s
  refine wpAny_bind (wpAny_notOrdered_dict hm.dictOf.typeIs ?_)
  show wpAny _ _ (dictSet d key v >>= _) _ _ s
  exact wpAny_bind (dict_put hkey hm hsz fun h' hm' hs' => wpAny_pure ⟨.none, rfl, wpAny_pure (hQ h' hm' hs')⟩)
end

section
variable {W : Wd} {d : Nat} {sc : Scope} {ρ : Loc} {H H₁ H₂ H₃ H' : List O}
inductive SdR (W : Wd) (φ : Map) (h : Heap) (i : Nat) (v' : Value) (es : List (Str × V)) (ep : Nat) : Prop
  | mk (a : Addr) (kvs : List (Str × Value)) (e : v' = .ref a) (p : φ[i]? = some (a, a)) (l : h.DictAt (strKind W.prog W.w) a kvs ep) (k : All2 (KR φ) es kvs) (s : (a == sysModules) = false) : SdR W φ h i v' es ep
inductive IdtR (W : Wd) (φ : Map) (h : Heap) (i : Nat) (v' : Value) (es : List (Int × V)) (ep : Nat) : Prop
  | mk (a : Addr) (kvs : List (Int × Value)) (e : v' = .ref a) (p : φ[i]? = some (a, a)) (l : h.DictAt (intKind W.prog W.w) a kvs ep) (k : All2 (KR φ) es kvs) (s : (a == sysModules) = false) : IdtR W φ h i v' es ep
theorem HR.sd {φ : Map} {h : Heap} {i : Nat} {v' : Value} {es : List (Str × V)} {ep : Nat} (R : HR W φ H h) (ho : H[i]? = some (.sd es ep)) (y : VR φ (.ref i) v') :
    SdR W φ h i v' es ep := by
  cases y with
  | @ref _ a dx ea =>
    obtain ⟨p, e0, e1, kvs, x, y⟩ := R.at ho
    rw [ea] at e0; cases e0
    dsimp only at e1; subst e1
    exact ⟨_, kvs, rfl, ea, x, y, W.sm _ (R.new _ ⟨_, List.mem_of_getElem? ea, .inl rfl⟩)⟩
theorem HR.idt {φ : Map} {h : Heap} {i : Nat} {v' : Value} {es : List (Int × V)} {ep : Nat} (R : HR W φ H h) (ho : H[i]? = some (.idt es ep)) (y : VR φ (.ref i) v') :
    IdtR W φ h i v' es ep := by
  cases y with
  | @ref _ a dx ea =>
    obtain ⟨p, e0, e1, kvs, x, y⟩ := R.at ho
    rw [ea] at e0; cases e0
    dsimp only at e1; subst e1
    exact ⟨_, kvs, rfl, ea, x, y, W.sm _ (R.new _ ⟨_, List.mem_of_getElem? ea, .inl rfl⟩)⟩
theorem HR.upd1 {φ : Map} {h h' : Heap} {i : Nat} {a : Addr} {o' : O} (R : HR W φ H h) (e : φ[i]? = some (a, a)) (x : OR W φ h' (a, a) o') (s : Heap.SameBut a h h') : HR W φ (H.set i o') h' ∧ Kp φ h φ h' :=
  have k : ∀ b o, b ≠ a → b ≠ a → h.get? b = some o → h'.get? b = some o := fun b o n1 _ q => (s.2 b n1).trans q
  ⟨R.upd e x k, Kp.upd e k⟩
theorem ev_key {value slice : PySem.Expr} {p : Pos} {i : Nat} {es : List (Str × V)} {ep : Nat} {k : Str} {v : V} (x : Ev W d sc ρ H value (.ref i) H₁) (y : Ev W d sc ρ H₁ slice (.str k) H₂) (ho : H₂[i]? = some (.sd es ep)) (hv : vAt es k = some v)
    (hs : isSlice slice = false := by rfl) : Ev W d sc ρ H (.Subscript value slice p) v H₂ :=
  ev_subs x y fun A h t σ φ a' b' Q E rm R ya yb kk => by
    obtain ⟨a, kvs, rfl, _, hd, yk, _⟩ := R.sd ho ya
    cases yb
    obtain ⟨v', e, y'⟩ := kr_at yk hv
    exact tail_any (s := St σ h t) hd.dictOf.typeIs slot_dict_getitem.lookup (wpAny_getItem_of (strKind_is _ _ _ _) hd.dictOf.mapOf e (kk v' h _ φ y' R (.refl _ _))) (subscripted_plain hs)
theorem ev_ikey {value slice : PySem.Expr} {p : Pos} {i : Nat} {es : List (Int × V)} {ep : Nat} {k : Int} {v : V} (x : Ev W d sc ρ H value (.ref i) H₁) (y : Ev W d sc ρ H₁ slice (.int k) H₂) (ho : H₂[i]? = some (.idt es ep)) (hv : vAt es k = some v)
    (hs : isSlice slice = false := by rfl) : Ev W d sc ρ H (.Subscript value slice p) v H₂ :=
  ev_subs x y fun A h t σ φ a' b' Q E rm R ya yb kk => by
    obtain ⟨a, kvs, rfl, _, hd, yk, _⟩ := R.idt ho ya
    cases yb
    obtain ⟨v', e, y'⟩ := kr_at yk hv
    exact tail_any (s := St σ h t) hd.dictOf.typeIs slot_dict_getitem.lookup (wpAny_getItem_of (intKind_is _ _ _ _) hd.dictOf.mapOf e (kk v' h _ φ y' R (.refl _ _))) (subscripted_plain hs)
theorem cmp_in_sd {i : Nat} {es : List (Str × V)} {ep : Nat} {k : Str} (ho : H[i]? = some (.sd es ep)) : CmpR W d H .In (.str k) (.ref i) (vAt es k).isSome :=
  cmp_pure fun A h t σ φ a' b' Q E rm R ya yb kk => by
    obtain ⟨a, kvs, rfl, _, hd, yk, lo⟩ := R.sd ho yb
    cases ya
    refine wpAny_in_of (s := St σ h t) (strKind_is _ _ _ _) lo hd.dictOf.mapOf ?_
    have e : (valueAt kvs k).isSome = (vAt es k).isSome := by
      cases q : vAt es k with
      | none => rw [kr_none yk q]; rfl
      | some v => obtain ⟨v', e, _⟩ := kr_at yk q; rw [e]; rfl
    rw [e]
    exact kk _
theorem ex1_setkey {o ix value : PySem.Expr} {p q : Pos} {i : Nat} {es : List (Str × V)} {ep : Nat} {k : Str} {v : V} (a : Ev W d sc ρ H value v H₁) (b : Ev W d sc ρ H₁ o (.ref i) H₂) (c : Ev W d sc ρ H₂ ix (.str k) H₃) (ho : H₃[i]? = some (.sd es ep)) (hz : es.length ≤ sizeLine)
    (hc : isComp value = false := by rfl) : Ex1 W d sc ρ H (.Assign [.Subscript o ix p] value q) none ρ (H₃.set i (.sd (putD es k v) (putE es k ep))) :=
  fun A env h t σ φ Q E rm F R kk => wpAny_Assign_Subscript (a A env h t σ φ _ E rm F R fun v' h₁ t₁ φ₁ y R₁ k₁ => b A env h₁ t₁ σ φ₁ _ E rm (F.kp k₁) R₁ fun o' h₂ t₂ φ₂ yo R₂ k₂ =>
    c A env h₂ t₂ σ φ₂ _ E rm ((F.kp k₁).kp k₂) R₂ fun i' h₃ t₃ φ₃ yi R₃ k₃ => by
      cases yi
      obtain ⟨a, kvs, rfl, ea, hd, yk, lo⟩ := R₃.sd ho (yo.mono k₃.pre)
      refine setItem_put (s := St σ h₃ t₃) (strKind_is _ _ _ _) hd (by have := yk.length; (first | lia | omega)) fun h' hm' hs' => ?_
      obtain ⟨R', k'⟩ := R₃.upd1 (o' := .sd (putD es k v) (putE es k ep)) ea ⟨rfl, _, (by unfold putE at hm' ⊢; rw [kr_any yk k]; exact hm'), kr_put yk k ((y.mono k₂.pre).mono k₃.pre)⟩ hs'
      exact kk .next h' _ φ₃ .next ((((F.kp k₁).kp k₂).kp k₃).kp k') R' (((k₁.trans k₂).trans k₃).trans k').q)
    (swaps_no hc)
theorem ex1_setikey {o ix value : PySem.Expr} {p q : Pos} {i : Nat} {es : List (Int × V)} {ep : Nat} {k : Int} {v : V} (a : Ev W d sc ρ H value v H₁) (b : Ev W d sc ρ H₁ o (.ref i) H₂) (c : Ev W d sc ρ H₂ ix (.int k) H₃) (ho : H₃[i]? = some (.idt es ep)) (hz : es.length ≤ sizeLine)
    (hc : isComp value = false := by rfl) : Ex1 W d sc ρ H (.Assign [.Subscript o ix p] value q) none ρ (H₃.set i (.idt (putD es k v) (putE es k ep))) :=
  fun A env h t σ φ Q E rm F R kk => wpAny_Assign_Subscript (a A env h t σ φ _ E rm F R fun v' h₁ t₁ φ₁ y R₁ k₁ => b A env h₁ t₁ σ φ₁ _ E rm (F.kp k₁) R₁ fun o' h₂ t₂ φ₂ yo R₂ k₂ =>
    c A env h₂ t₂ σ φ₂ _ E rm ((F.kp k₁).kp k₂) R₂ fun i' h₃ t₃ φ₃ yi R₃ k₃ => by
      cases yi
      obtain ⟨a, kvs, rfl, ea, hd, yk, lo⟩ := R₃.idt ho (yo.mono k₃.pre)
      refine setItem_put (s := St σ h₃ t₃) (intKind_is _ _ _ _) hd (by have := yk.length; (first | lia | omega)) fun h' hm' hs' => ?_
      obtain ⟨R', k'⟩ := R₃.upd1 (o' := .idt (putD es k v) (putE es k ep)) ea ⟨rfl, _, (by unfold putE at hm' ⊢; rw [kr_any yk k]; exact hm'), kr_put yk k ((y.mono k₂.pre).mono k₃.pre)⟩ hs'
      exact kk .next h' _ φ₃ .next ((((F.kp k₁).kp k₂).kp k₃).kp k') R' (((k₁.trans k₂).trans k₃).trans k').q)
    (swaps_no hc)
theorem call_pop {i : Nat} {es : List (Int × V)} {ep : Nat} {k : Int} {v : V} (ho : H[i]? = some (.idt es ep)) (hv : vAt es k = none) : CallR W d H (.builtin "dict.pop") [.ref i, .int k, v] v H :=
  fun A h t σ φ vs' Q E rm R y kk => by
    obtain ⟨l, l', l'', rfl, y1, y2, y3⟩ := VsR.three y
    obtain ⟨a, kvs, rfl, ea, hd, yk, lo⟩ := R.idt ho y1
    cases y2
    refine call_meetsIn (s := St σ h t) F.slot_dict_pop hd.dictOf.typeIs F.entry_dict_pop (F.args_dict_pop_3 _ _ _) (meets_dict_pop_default _ a (intKind_is _ _ k _) lo rfl l'') ⟨kvs, hd.dictOf, kr_none yk hv, ?_⟩
    exact kk _ h _ φ y3 R (.refl _ _)
end
structure IterK (W : Wd) (S₀ S : List O → Prop) (src : V) (all : List V) where
  It : Map → Heap → Addr → Nat → Prop
  keep : ∀ {φ φ' : Map} {h h' : Heap} {it : Addr} {i : Nat}, It φ h it i → Pre φ φ' → (∀ o, h.get? it = some o → h'.get? it = some o) → It φ' h' it i
  there : ∀ {φ : Map} {h : Heap} {it : Addr} {i : Nat}, It φ h it i → ∃ o, h.get? it = some o
  start : ∀ {A : Around} {h : Heap} {t : Nat} {σ : Shared} {φ : Map} {H : List O} {v' : Value} {Q : Value → Shared → Prop} {E : Value → Shared → Prop}, HR W φ H h → S₀ H → VR φ src v' →
    (∀ it h', h.get? it = none → It φ h' it 0 → (∀ b o, h.get? b = some o → h'.get? b = some o) → Q (.ref it) (St σ h' t)) → wpAny (mdl W) A (pyIter v') Q E (St σ h t)
  self : ∀ {A : Around} {φ : Map} {it : Addr} {i : Nat} {s : Shared} {Q : Value → Shared → Prop} {E : Value → Shared → Prop}, It φ s.heap it i → Q (.ref it) s → wpAny (mdl W) A (pyIter (.ref it)) Q E s
  next : ∀ {A : Around} {h : Heap} {t : Nat} {σ : Shared} {φ : Map} {H : List O} {it : Addr} {i : Nat} {v : V} {Q : Option Value → Shared → Prop} {E : Value → Shared → Prop}, HR W φ H h → S H → It φ h it i → all[i]? = some v →
    (∀ v' h' t', VR φ v v' → It φ h' it (i + 1) → Heap.SameBut it h h' → Q (some v') (St σ h' t')) → wpAny (mdl W) A (pyNext (.ref it)) Q E (St σ h t)
  fin : ∀ {A : Around} {h : Heap} {t : Nat} {σ : Shared} {φ : Map} {H : List O} {it : Addr} {i : Nat} {Q : Option Value → Shared → Prop} {E : Value → Shared → Prop}, A.handled = none → HR W φ H h → S H → It φ h it i → all[i]? = none →
    (∀ h', Heap.ExtBut it h h' → Q none (St σ h' t)) → wpAny (mdl W) A (pyNext (.ref it)) Q E (St σ h t)

section
variable {W : Wd} {d : Nat} {sc : Scope} {ρ : Loc} {H H₁ H₂ H₃ H' : List O}
noncomputable def iterL (W : Wd) (i : Nat) (all : List V) : IterK W (fun H => H[i]? = some (.list all)) (fun H => H[i]? = some (.list all)) (.ref i) all where
  It φ h it k := ∃ a, φ[i]? = some (a, a) ∧ h.IsListIter it a k
  keep := fun ⟨a, e, o, ho, r⟩ p k => ⟨a, p.get e, o, k o ho, r⟩
  there := fun ⟨a, e, o, ho, r⟩ => ⟨o, ho⟩
  start := fun {A h t σ φ H v' Q E} R ho y k => by
    obtain ⟨a, vs', n, rfl, ea, hl, yv⟩ := R.lst ho y
    exact wpAny_pyIter_list (s := St σ h t) hl.isList (k _ _ (get_none_of_ge (Nat.le_refl _)) ⟨a, ea, _, Heap.get?_push_size _ rfl, rfl, rfl⟩ fun b o e => Heap.get?_push_of_some _ e)
  self := fun ⟨a, e, x⟩ q => wpAny_pyIter_listiter x q
  next := fun {A h t σ φ H it i' v Q E} R ho x e k => by
    obtain ⟨a, ea, x⟩ := x
    obtain ⟨a', vs', n, e', ea', hl, yv⟩ := R.lst ho (.ref ea)
    cases e'
    obtain ⟨v', e1, y⟩ := yv.get e
    exact wpAny_pyNext_list_item (s := St σ h t) x hl.isList (by simpa using e1) fun h' x' sb => k v' h' t y ⟨a, ea, x'⟩ sb
  fin := fun {A h t σ φ H it i' Q E} hh R ho x e k => by
    obtain ⟨a, ea, x⟩ := x
    obtain ⟨a', vs', n, e', ea', hl, yv⟩ := R.lst ho (.ref ea)
    cases e'
    have := yv.length
    exact wpAny_pyNext_list_end (s := St σ h t) hh x hl.isList (by simp at e ⊢; (first | lia | omega)) k
noncomputable def iterD (W : Wd) (i : Nat) (es : List (Str × V)) (ep : Nat) : IterK W (fun H => H[i]? = some (.sd es ep)) (fun H => H[i]? = some (.sd es ep)) (.ref i) (es.map fun p => .str p.1) where
  It φ h it k := ∃ a, φ[i]? = some (a, a) ∧ h.IsKeyIter it a k es.length ep
  keep := fun ⟨a, e, o, ho, r⟩ p k => ⟨a, p.get e, o, k o ho, r⟩
  there := fun ⟨a, e, o, ho, r⟩ => ⟨o, ho⟩
  start := fun {A h t σ φ H v' Q E} R ho y k => by
    obtain ⟨a, kvs, rfl, ea, hd, yk, lo⟩ := R.sd ho y
    have := yk.length
    exact wpAny_pyIter_dict (s := St σ h t) lo hd (k _ _ (get_none_of_ge (Nat.le_refl _)) ⟨a, ea, _, Heap.get?_push_size _ rfl, rfl, by rw [this]; rfl⟩ fun b o e => Heap.get?_push_of_some _ e)
  self := fun ⟨a, e, x⟩ q => wpAny_pyIter_keyiter x q
  next := fun {A h t σ φ H it i' v Q E} R ho x e k => by
    obtain ⟨a, ea, x⟩ := x
    obtain ⟨a', kvs, e', ea', hd, yk, lo⟩ := R.sd ho (.ref ea)
    cases e'
    rw [List.getElem?_map] at e
    cases q : es[i']? with
    | none => rw [q] at e; cases e
    | some p =>
      rw [q] at e; cases e
      obtain ⟨kv, e1, y⟩ := yk.get q
      have l := yk.length
      rw [l] at x
      refine wpAny_pyNext_dict_item (s := St σ h t) (k := kv.1) (v := kv.2) x hd e1 fun key h' hk x' sb => ?_
      obtain ⟨tk, rfl⟩ := Value.isStrOf_shape hk
      have e2 : p.1 = kv.1 := y.1
      refine k (.str kv.1 tk) h' t ?_ ⟨a, ea, l ▸ x'⟩ sb
      show VR φ (.str p.1) _
      rw [e2]
      exact .str _ _
  fin := fun {A h t σ φ H it i' Q E} hh R ho x e k => by
    obtain ⟨a, ea, x⟩ := x
    obtain ⟨a', kvs, e', ea', hd, yk, lo⟩ := R.sd ho (.ref ea)
    cases e'
    have l := yk.length
    rw [l] at x
    exact wpAny_pyNext_dict_end (s := St σ h t) hh x hd (by simp at e ⊢; (first | lia | omega)) k
noncomputable def ran (a b c : Int) : List V := (List.range (Builtin.Range.rangeSize a b c).toNat).map fun (k : Nat) => .int (a + (k : Int) * c)
theorem ran_at {a b c : Int} {i : Nat} {v : V} (e : (ran a b c)[i]? = some v) : i < (Builtin.Range.rangeSize a b c).toNat ∧ v = .int (a + (i : Int) * c) := by
  unfold ran at e
  rw [List.getElem?_map] at e
  cases q : (List.range (Builtin.Range.rangeSize a b c).toNat)[i]? with
  | none => rw [q] at e; cases e
  | some k =>
    rw [q] at e
    have l := (List.getElem?_eq_some_iff.mp q).1
    rw [List.getElem?_range (by simpa using l)] at q
    cases q
    cases e
    exact ⟨by simpa using l, rfl⟩
noncomputable def iterR (W : Wd) (i : Nat) (a b c : Int) (hs : Builtin.Range.small a b c = true) : IterK W (fun H => H[i]? = some (.rng a b c)) (fun _ => True) (.ref i) (ran a b c) where
  It φ h it k := IsRangeIter h it (a + k * c) (Builtin.Range.rangeSize a b c - k) c
  keep := fun x p k => k _ x
  there := fun x => ⟨_, x⟩
  start := fun {A h t σ φ H v' Q E} R ho y k => by
    cases y with
    | @ref _ r dx ea =>
      obtain ⟨p, e0, e1, t1, u1, v1, x⟩ := R.at ho
      rw [ea] at e0; cases e0
      refine wpAny_pyIter_range (s := St σ h t) x hs (k _ _ (get_none_of_ge (Nat.le_refl _)) ?_ fun b o e => Heap.get?_push_of_some _ e)
      have := Heap.get?_push_size h (o := { cls := .type "range_iterator", data := .fields #[rawInt a, rawInt (Builtin.Range.rangeSize a b c), rawInt c] }) rfl
      simpa using this
  self := fun {A φ it i' s Q E} x q => by
    have hT : s.TypeIs (.ref it) "range_iterator" := ⟨_, x, rfl⟩
    exact wpAny_pyIter_slot hT F.slot_range_iterator_iter (wpAny_call_entry F.slot_range_iterator_iter hT F.entry_range_iterator_iter (show wpAny _ _ (ret (.ref it)) _ _ s from wpAny_pure ⟨_, rfl, "range_iterator", _, hT, F.slot_range_iterator_next.lookup, q⟩) (F.args_range_iterator_iter_1 _))
  next := fun {A h t σ φ H it i' v Q E} R ho x e k => by
    obtain ⟨lt, rfl⟩ := ran_at e
    refine wpAny_pyNext_range_item (s := St σ h t) x (by (first | lia | omega)) fun h' x' sb => k _ h' _ (.int _ _) ?_ sb
    have e1 : a + i' * c + c = a + ((i' + 1 : Nat) : Int) * c := by push_cast; rw [Int.add_mul]; (first | lia | omega)
    have e2 : Builtin.Range.rangeSize a b c - i' - 1 = Builtin.Range.rangeSize a b c - ((i' + 1 : Nat) : Int) := by push_cast; (first | lia | omega)
    rw [← e1, ← e2]
    exact x'
  fin := fun {A h t σ φ H it i' Q E} hh R ho x e k => by
    refine wpAny_pyNext_range_end (s := St σ h t) hh x ?_ k
    unfold ran at e
    simp at e
    (first | lia | omega)
end
inductive ForR (W : Wd) (d : Nat) (sc : Scope) (x : Str) (body : List Stmt) (S : List O → Prop) : Loc → List O → List V → Out → Loc → List O → Prop
  | done {ρ H} : S H → ForR W d sc x body S ρ H [] none ρ H
  | step {ρ H v vs ρ₁ H₁ o ρ' H'} : S H → Ex W d sc ((x, v) :: ρ) H body none ρ₁ H₁ → ForR W d sc x body S ρ₁ H₁ vs o ρ' H' → ForR W d sc x body S ρ H (v :: vs) o ρ' H'
  | ret {ρ H v vs r ρ₁ H₁} : S H → Ex W d sc ((x, v) :: ρ) H body (some r) ρ₁ H₁ → ForR W d sc x body S ρ H (v :: vs) (some r) ρ₁ H₁
inductive WhileR (W : Wd) (d : Nat) (sc : Scope) (test : PySem.Expr) (body : List Stmt) : Nat → Loc → List O → Loc → List O → Prop
  | done {ρ H H'} : Tr W d sc ρ H test false H' → WhileR W d sc test body 0 ρ H ρ H'
  | step {n ρ H H₁ ρ₁ H₂ ρ' H'} : Tr W d sc ρ H test true H₁ → Ex W d sc ρ H₁ body none ρ₁ H₂ → WhileR W d sc test body n ρ₁ H₂ ρ' H' → WhileR W d sc test body (n + 1) ρ H ρ' H'
noncomputable def noSet : PySem.Expr → Bool
  | .Set .. => false
  | _ => true
theorem folded_no {e : PySem.Expr} {env : Env} (h : noSet e = true) (x : Value) : foldedSetIterable e env x = pure x := by
  cases e <;> first | rfl | cases h

section
variable {W : Wd} {d : Nat} {sc : Scope} {ρ : Loc} {H H₁ H₂ H₃ H' : List O}
theorem fa_there {env : Env} {φ φ' : Map} {h h' : Heap} {ρ ρ' : Loc} (F : Fm W sc env φ h ρ) (F' : Fm W sc env φ' h' ρ') : ∀ b, FA env b → ¬ dom φ b ∧ ∃ o, h'.get? b = some o := fun b e => ⟨(F.there e).1, (F'.there e).2⟩
theorem Kq.off {env : Env} {φ₁ φ φ' : Map} {h₁ h h' : Heap} {it : Addr} (fa : ∀ b, FA env b → ¬ dom φ₁ b ∧ ∃ o, h.get? b = some o) (x : Kq env φ₁ h₁ φ h) (n : h₁.get? it = none) (pre : Pre φ φ')
    (k : ∀ b o, b ≠ it → ¬ dom φ b → ¬ FA env b → h.get? b = some o → h'.get? b = some o) (nw : ∀ b, dom φ' b → dom φ b ∨ h.get? b = none) : Kq env φ₁ h₁ φ' h' where
  pre := x.pre.trans pre
  keep := fun b o dd f e => k b o (fun q => by rw [q, n] at e; cases e) (fun d' => (x.new b d').elim dd fun z => by rw [z] at e; cases e) f (x.keep b o dd f e)
  new := fun b dd => by
    rcases nw b dd with dd | z
    · exact x.new b dd
    · by_cases hd : dom φ₁ b
      · exact .inl hd
      · refine .inr ?_
        cases q : h₁.get? b with
        | none => rfl
        | some o =>
          by_cases hf : FA env b
          · obtain ⟨_, o', e⟩ := fa b hf; rw [z] at e; cases e
          · have := x.keep b o hd hf q; rw [z] at this; cases this
theorem ex1_for {x : Str} {px pos : Pos} {iter : PySem.Expr} {body : List Stmt} {S₀ S : List O → Prop} {src : V} {all : List V} {o : Out} {ρ' : Loc} (a : Ev W d sc ρ H iter src H₁) (K : IterK W S₀ S src all) (h0 : S₀ H₁) (r : ForR W d sc x body S ρ H₁ all o ρ' H')
    (hx : sc.names.lookup x = some .local ∨ sc.names.lookup x = some .cell) (hn : noSet iter = true := by rfl) : Ex1 W d sc ρ H (.For (.Name x px) iter body [] pos) o ρ' H' :=
  fun A env h t σ φ Q E rm F R kk => by
    refine wpAny_For (a A env h t σ φ _ E rm F R fun x' h₁ t₁ φ₁ y R₁ k₁ => ?_) (folded_no hn)
    refine K.start R₁ h0 y fun it h₂ nit It keep => ?_
    have F₁ := F.kp k₁
    have F₂ : Fm W sc env φ₁ h₂ ρ := F₁.kp (Kp.grow keep)
    have R₂ := R₁.grow keep
    have nd : ¬ dom φ₁ it := fun dd => by obtain ⟨o, e⟩ := R₁.there dd; rw [nit] at e; cases e
    have nf : ¬ FA env it := fun fa => by obtain ⟨_, o, e⟩ := F₁.there fa; rw [nit] at e; cases e
    have nb : W.h₀.get? it = none := by
      cases q : W.h₀.get? it with
      | none => rfl
      | some o => have := R₁.base it o q; rw [nit] at this; cases this
    refine codeAny_forLoop (fun n s => ∃ i h t φ ρ₁ H₂ vs, A9 (s = St σ h t) (n = vs.length) (vs = all.drop i) (ForR W d sc x body S ρ₁ H₂ vs o ρ' H') (Fm W sc env φ h ρ₁) (HR W φ H₂ h) (K.It φ h it i) (¬ dom φ it) (Kq env φ₁ h₁ φ h))
      (fun n s I => ?_) all.length ⟨0, h₂, t₁, φ₁, ρ, H₁, all, rfl, rfl, rfl, r, F₂, R₂, It, nd, (Kp.grow keep).q⟩
    obtain ⟨i, h₃, t₃, φ₃, ρ₃, H₃, vs, rfl, rfl, e, fr, F₃, R₃, It₃, nd₃, k₃⟩ := I
    have fin : ∀ {f : Flow} {h' : Heap} {t' : Nat} {φ' : Map}, OutR φ' o f → Fm W sc env φ' h' ρ' → HR W φ' H' h' → Kq env φ₁ h₁ φ' h' → Q f (St σ h' t') := fun ho F' R' k' => kk _ _ _ _ ho F' R' (k₁.q.trans (fa_there F F₁) k')
    cases fr with
    | done hS =>
      refine K.fin rm.hh R₃ hS It₃ (by
        have := congrArg List.length e
        simp at this
        exact List.getElem?_eq_none (by (first | lia | omega))) fun h₄ eb => ?_
      refine wpAny_execs_nil ?_
      have kk₄ : ∀ b o, b ≠ it → h₃.get? b = some o → h₄.get? b = some o := fun b o n e => eb b o n e
      exact fin .next (F₃.keep (.refl _) (fun b o fa e => kk₄ b o (fun q => nf (q ▸ fa)) e) fun b fa => (F₃.there fa).1) (R₃.keep (fun b o dd e => kk₄ b o (fun q => nd₃ (q ▸ dd)) e) fun b o e => kk₄ b o (fun q => by rw [q, nb] at e; cases e) (R₃.base b o e))
        (k₃.off (fa_there F₁ F₃) nit (.refl _) (fun b o n _ _ e => kk₄ b o n e) fun b dd => .inl dd)
    | @step _ _ v vs' ρ₁ H₁' _ _ _ hS x1 rest =>
      have hv : all[i]? = some v := drop_hd e
      refine K.next R₃ hS It₃ hv fun v' h₄ t₄ yv It₄ sb => ?_
      have kk₄ : ∀ b o, b ≠ it → h₃.get? b = some o → h₄.get? b = some o := fun b o n e => (sb.2 b n).trans e
      have F₄ : Fm W sc env φ₃ h₄ ρ₃ := F₃.keep (.refl _) (fun b o fa e => kk₄ b o (fun q => nf (q ▸ fa)) e) fun b fa => (F₃.there fa).1
      have R₄ : HR W φ₃ H₃ h₄ := R₃.keep (fun b o dd e => kk₄ b o (fun q => nd₃ (q ▸ dd)) e) fun b o e => kk₄ b o (fun q => by rw [q, nb] at e; cases e) (R₃.base b o e)
      have k₄ := k₃.off (fa_there F₁ F₃) nit (.refl _) (fun b o n _ _ e => kk₄ b o n e) fun b dd => .inl dd
      refine wpAny_assign_Name (wp_store F₄ R₄ yv hx fun h₅ t₅ F₅ R₅ kq₅ => ?_)
      have It₅ := K.keep It₄ kq₅.pre fun o q => kq₅.keep it o nd₃ nf q
      refine x1 A env h₅ t₅ σ φ₃ _ _ rm F₅ R₅ fun f h₆ t₆ φ₆ ho F₆ R₆ kq₆ => ?_
      cases ho
      have nd₆ : ¬ dom φ₆ it := fun dd => by
        rcases kq₆.new it dd with dd | z
        · exact nd₃ dd
        · obtain ⟨o, q⟩ := K.there It₅; rw [z] at q; cases q
      exact ⟨vs'.length, by simp, i + 1, h₆, t₆, φ₆, ρ₁, H₁', vs', rfl, rfl, drop_tl e, rest, F₆, R₆, K.keep It₅ kq₆.pre fun o q => kq₆.keep it o nd₃ nf q, nd₆, (k₄.trans (fa_there F₁ F₄) kq₅).trans (fa_there F₁ F₅) kq₆⟩
    | @ret _ _ v vs' r ρ₁ H₁' hS x1 =>
      have hv : all[i]? = some v := drop_hd e
      refine K.next R₃ hS It₃ hv fun v' h₄ t₄ yv It₄ sb => ?_
      have kk₄ : ∀ b o, b ≠ it → h₃.get? b = some o → h₄.get? b = some o := fun b o n e => (sb.2 b n).trans e
      have F₄ : Fm W sc env φ₃ h₄ ρ₃ := F₃.keep (.refl _) (fun b o fa e => kk₄ b o (fun q => nf (q ▸ fa)) e) fun b fa => (F₃.there fa).1
      have R₄ : HR W φ₃ H₃ h₄ := R₃.keep (fun b o dd e => kk₄ b o (fun q => nd₃ (q ▸ dd)) e) fun b o e => kk₄ b o (fun q => by rw [q, nb] at e; cases e) (R₃.base b o e)
      have k₄ := k₃.off (fa_there F₁ F₃) nit (.refl _) (fun b o n _ _ e => kk₄ b o n e) fun b dd => .inl dd
      refine wpAny_assign_Name (wp_store F₄ R₄ yv hx fun h₅ t₅ F₅ R₅ kq₅ => ?_)
      refine x1 A env h₅ t₅ σ φ₃ _ _ rm F₅ R₅ fun f h₆ t₆ φ₆ ho F₆ R₆ kq₆ => ?_
      cases ho with
      | ret yr => exact fin (.ret yr) F₆ R₆ ((k₄.trans (fa_there F₁ F₄) kq₅).trans (fa_there F₁ F₅) kq₆)
theorem ex1_while {test : PySem.Expr} {body : List Stmt} {pos : Pos} {ρ' : Loc} {n : Nat} (r : WhileR W d sc test body n ρ H ρ' H') : Ex1 W d sc ρ H (.While test body [] pos) none ρ' H' :=
  fun A env h t σ φ Q E rm F R kk => by
    refine wpAny_While ?_
    refine codeAny_whileLoop (fun n s => ∃ h₁ t₁ φ₁ ρ₁ H₁, A5 (s = St σ h₁ t₁) (WhileR W d sc test body n ρ₁ H₁ ρ' H') (Fm W sc env φ₁ h₁ ρ₁) (HR W φ₁ H₁ h₁) (Kq env φ h φ₁ h₁)) (fun n s I => ?_) n ⟨h, t, φ, ρ, H, rfl, r, F, R, .refl _ _ _⟩
    obtain ⟨h₁, t₁, φ₁, ρ₁, H₁, rfl, r, F₁, R₁, k₁⟩ := I
    cases r with
    | done x =>
      refine x A env h₁ t₁ σ φ₁ _ _ rm F₁ R₁ fun h₂ t₂ φ₂ R₂ k₂ => ?_
      exact wpAny_execs_nil (kk .next h₂ t₂ φ₂ .next (F₁.kp k₂) R₂ (k₁.trans (fa_there F F₁) k₂.q))
    | @step n _ _ H₂ ρ₂ H₃ _ _ x y r =>
      refine x A env h₁ t₁ σ φ₁ _ _ rm F₁ R₁ fun h₂ t₂ φ₂ R₂ k₂ => ?_
      refine y A env h₂ t₂ σ φ₂ _ _ rm (F₁.kp k₂) R₂ fun f h₃ t₃ φ₃ ho F₃ R₃ k₃ => ?_
      cases ho
      exact ⟨n, Nat.lt_succ_self n, h₃, t₃, φ₃, ρ₂, H₃, rfl, r, F₃, R₃, (k₁.trans (fa_there F F₁) k₂.q).trans (fa_there F (F₁.kp k₂)) k₃⟩
end
noncomputable def relabelS (scope sc : Scope) : Scope :=
  { scope with names := scope.names.map fun (n, k) => if (k == .free && sc.kind == .function && sc.names.lookup n == some .cell) then (n, .cell) else (n, k) }
theorem relabel_eq (scope : Scope) (env : Env) : relabel scope env = relabelS scope env.scope := rfl

theorem closure_go {env : Env} : ∀ (names : List (Str × NameKind)) (cs : List (Str × Addr)), (∀ p ∈ names, p.2 = .free → ∃ c, env.cells.lookup p.1 = some c) → (∀ n c, cs.lookup n = some c → env.cells.lookup n = some c) →
    ∃ cl, (forIn names cs fun (p : Str × NameKind) cs => (match p with | (n, k) => if (k == NameKind.free) = true then (do let c ← cellOf env n; pure (ForInStep.yield ((n, c) :: cs))) else pure (ForInStep.yield cs) : Sem (ForInStep (List (Str × Addr))))) = pure cl ∧
      (∀ n c, cl.lookup n = some c → env.cells.lookup n = some c) ∧ (∀ p ∈ names, p.2 = .free → ∃ c, cl.lookup p.1 = some c) ∧ (∀ n, (∃ c, cs.lookup n = some c) → ∃ c, cl.lookup n = some c)
  | [], cs, _, h => ⟨cs, rfl, h, fun _ h => (nomatch h), fun _ h => h⟩
  | (n, k) :: r, cs, hf, h => by
    rw [List.forIn_cons]
    by_cases hk : k = .free
    · subst hk
      obtain ⟨c, e⟩ := hf (n, .free) (.head _) rfl
      have e1 : cellOf env n = pure c := by unfold cellOf; rw [e]
      simp only [beq_self_eq_true, if_true, e1, pure_bind]
      obtain ⟨cl, e2, h1, h2, h3⟩ := closure_go r ((n, c) :: cs) (fun p hp => hf p (.tail _ hp)) (fun m c' e' => by
        by_cases q : m = n
        · subst q; simp at e'; subst e'; exact e
        · have : (m == n) = false := by simpa using q
          rw [List.lookup_cons, this] at e'
          exact h m c' e')
      refine ⟨cl, e2, h1, fun p hp hpf => ?_, fun m hm => h3 m ?_⟩
      · cases hp with
        | head => exact h3 n ⟨c, by simp⟩
        | tail _ hp => exact h2 p hp hpf
      · obtain ⟨c', e'⟩ := hm
        by_cases q : m = n
        · subst q; exact ⟨c, by simp⟩
        · have : (m == n) = false := by simpa using q
          exact ⟨c', by rw [List.lookup_cons, this]; exact e'⟩
    · have : (k == NameKind.free) = false := by simpa using hk
      simp only [this, Bool.false_eq_true, if_false, pure_bind]
      obtain ⟨cl, e2, h1, h2, h3⟩ := closure_go r cs (fun p hp => hf p (.tail _ hp)) h
      refine ⟨cl, e2, h1, fun p hp hpf => ?_, h3⟩
      cases hp with
      | head => exact absurd hpf hk
      | tail _ hp => exact h2 p hp hpf
theorem closure_of {scope : Scope} {env : Env} (hf : ∀ p ∈ scope.names, p.2 = .free → ∃ c, env.cells.lookup p.1 = some c) :
    ∃ cl, closureFor scope env = pure cl ∧ (∀ n c, cl.lookup n = some c → env.cells.lookup n = some c) ∧ (∀ p ∈ scope.names, p.2 = .free → ∃ c, cl.lookup p.1 = some c) := by
  obtain ⟨cl, e, h1, h2, _⟩ := closure_go scope.names [] hf (fun _ _ e => by cases e)
  exact ⟨cl, by
    have : closureFor scope env = (forIn scope.names ([] : List (Str × Addr)) fun (p : Str × NameKind) cs => (match p with | (n, k) => if (k == NameKind.free) = true then (do let c ← cellOf env n; pure (ForInStep.yield ((n, c) :: cs))) else pure (ForInStep.yield cs) : Sem (ForInStep (List (Str × Addr))))) >>= fun cs => pure cs := rfl
    rw [this, e]; rfl, h1, h2⟩

section
variable {W : Wd} {d : Nat} {sc : Scope} {ρ : Loc} {H H₁ H₂ H₃ H' : List O}
theorem HR.adopt {φ : Map} {h : Heap} {a : Addr} {o : O} (R : HR W φ H h) (x : OR W φ h (a, a) o) (nd : ¬ dom φ a) (nb : W.h₀.get? a = none) : HR W (φ ++ [(a, a)]) (H ++ [o]) h where
  base := R.base
  len := by simp [R.len]
  obj := fun j o' q e e' => by
    by_cases hj : j < φ.length
    · rw [List.getElem?_append_left hj] at e'
      rw [List.getElem?_append_left (R.len ▸ hj)] at e
      exact (R.obj j o' q e e').mono ⟨_, rfl⟩
    · have : j = φ.length := by
        have h1 := (List.getElem?_eq_some_iff.mp e').1
        simp at h1
        (first | lia | omega)
      subst this
      simp at e'
      rw [R.len] at e
      simp at e
      subst e e'
      exact x.mono ⟨_, rfl⟩
  new := fun b dd => by
    obtain ⟨q, hq, e⟩ := dd
    rcases List.mem_append.mp hq with hq | hq
    · exact R.new b ⟨q, hq, e⟩
    · simp at hq
      subst hq
      rcases e with rfl | rfl <;> exact nb
  sep := by
    have old : ∀ i (q : Addr × Addr), φ[i]? = some q → q.1 ≠ a ∧ q.2 ≠ a := fun i q e => by
      have m := List.mem_of_getElem? e
      exact ⟨fun z => nd ⟨q, m, .inl z.symm⟩, fun z => nd ⟨q, m, .inr z.symm⟩⟩
    intro i j p q ea eb ne
    have la := (List.getElem?_eq_some_iff.mp ea).1
    have lb := (List.getElem?_eq_some_iff.mp eb).1
    simp at la lb
    by_cases hi : i < φ.length
    · rw [List.getElem?_append_left hi] at ea
      by_cases hj : j < φ.length
      · rw [List.getElem?_append_left hj] at eb
        exact R.sep i j p q ea eb ne
      · have : j = φ.length := by (first | lia | omega)
        subst this
        simp at eb; subst eb
        exact ⟨(old i p ea).1, (old i p ea).1, (old i p ea).2, (old i p ea).2⟩
    · have : i = φ.length := by (first | lia | omega)
      subst this
      simp at ea; subst ea
      have hj : j < φ.length := by (first | lia | omega)
      rw [List.getElem?_append_left hj] at eb
      exact ⟨Ne.symm (old j q eb).1, Ne.symm (old j q eb).2, Ne.symm (old j q eb).1, Ne.symm (old j q eb).2⟩
theorem wp_storeL {A : Around} {env : Env} {h : Heap} {t : Nat} {σ : Shared} {φ : Map} {x : Str} {v : V} {v' : Value} {Q : Unit → Shared → Prop} {E : Value → Shared → Prop} (F : Fm W sc env φ h ρ) (R : HR W φ H h) (y : VR φ v v')
    (q : sc.names.lookup x = some .local) (k : ∀ h' t', Fm W sc env φ h' ((x, v) :: ρ) → HR W φ H h' → Heap.SameBut env.locals h h' → Q () (St σ h' t')) : wpAny (mdl W) A (storeName env x v') Q E (St σ h t) := by
  have hkd : env.scope.kind = .function := by rw [F.scq]; exact F.kind
  obtain ⟨m, n, f⟩ := F.ns
  refine wpAny_storeName_local (s := St σ h t) (by show env.scope.names.lookup x = _; rw [F.scq]; exact q) n (fun h' n' sb => k h' (t + 1) ⟨F.scq, F.kind, F.glob, F.bui, fun z u e => ?_, ⟨_, n', fun z u e qz => ?_⟩, fun z u e qz => ?_, fun z c e => ?_, F.inj, F.have_, F.off⟩
    (R.keep (fun b o dd e => (sb.2 b fun z => F.off.1 (z ▸ dd)).trans e) fun b o e => (sb.2 b fun z => by rw [z, F.off.2] at e; cases e).trans (R.base b o e)) sb) (by rw [hkd]; rfl)
  · by_cases hz : z = x
    · subst hz; exact .inl q
    · rw [lookup_cons_ne hz] at e; exact F.fun_ z u e
  · by_cases hz : z = x
    · subst hz; rw [lookup_cons_eq] at e; cases e; exact ⟨v', by simp, y⟩
    · rw [lookup_cons_ne hz] at e
      obtain ⟨u', e1, e2⟩ := f z u e qz
      exact ⟨u', by simp [hz, e1], e2⟩
  · by_cases hz : z = x
    · subst hz; rw [q] at qz; cases qz
    · rw [lookup_cons_ne hz] at e
      obtain ⟨c, u', e1, e2, e3⟩ := F.cell z u e qz
      exact ⟨c, u', e1, e2.sameBut sb (F.cells z c e1).2.2.2, e3⟩
  · obtain ⟨⟨v₀, e1⟩, e2, e3, e4⟩ := F.cells z c e
    exact ⟨⟨v₀, e1.sameBut sb e4⟩, e2, e3, e4⟩
theorem Fm.sub {env : Env} {φ : Map} {h : Heap} {ρ ρ' : Loc} (F : Fm W sc env φ h ρ) (s : ∀ x v, ρ'.lookup x = some v → ρ.lookup x = some v) : Fm W sc env φ h ρ' where
  scq := F.scq
  kind := F.kind
  glob := F.glob
  bui := F.bui
  fun_ := fun x v e => F.fun_ x v (s x v e)
  ns := by
    obtain ⟨m, n, f⟩ := F.ns
    exact ⟨m, n, fun x v e q => f x v (s x v e) q⟩
  cell := fun x v e q => F.cell x v (s x v e) q
  cells := F.cells
  inj := F.inj
  have_ := F.have_
  off := F.off
theorem Kp.off {φ₁ φ φ' : Map} {h₁ h h' : Heap} (x : Kp φ₁ h₁ φ h) (pre : Pre φ φ') (k : ∀ b o o₁, h₁.get? b = some o₁ → ¬ dom φ b → h.get? b = some o → h'.get? b = some o) (nw : ∀ b, dom φ' b → dom φ b ∨ h₁.get? b = none) : Kp φ₁ h₁ φ' h' where
  pre := x.pre.trans pre
  keep := fun b o dd e => k b o o e (fun d' => (x.new b d').elim dd fun z => by rw [z] at e; cases e) (x.keep b o dd e)
  new := fun b dd => (nw b dd).elim (x.new b) .inr
end

noncomputable def TestsR (W : Wd) (d : Nat) (sc : Scope) (ρ : Loc) (H : List O) (ifs : List PySem.Expr) (b : Bool) (H' : List O) : Prop :=
  match ifs with
  | [] => b = true ∧ H' = H
  | [c] => Tr W d sc ρ H c b H'
  | _ => False
inductive CompR (W : Wd) (d : Nat) (csc : Scope) (x : Str) (ρc : Loc) (elt : PySem.Expr) (ifs : List PySem.Expr) (S : List O → Prop) : List O → List V → List V → List O → Prop
  | done {H} : S H → CompR W d csc x ρc elt ifs S H [] [] H
  | take {H v vs H₁ y H₂ ys H'} : S H → TestsR W d csc ((x, v) :: ρc) H ifs true H₁ → Ev W d csc ((x, v) :: ρc) H₁ elt y H₂ → CompR W d csc x ρc elt ifs S H₂ vs ys H' → CompR W d csc x ρc elt ifs S H (v :: vs) (y :: ys) H'
  | skip {H v vs H₁ ys H'} : S H → TestsR W d csc ((x, v) :: ρc) H ifs false H₁ → CompR W d csc x ρc elt ifs S H₁ vs ys H' → CompR W d csc x ρc elt ifs S H (v :: vs) ys H'
section
variable {W : Wd} {d : Nat} {sc : Scope} {ρ : Loc} {H H₁ H₂ H₃ H' : List O}
theorem wp_tests {A : Around} {env : Env} {h : Heap} {t : Nat} {σ : Shared} {φ : Map} {ifs : List PySem.Expr} {b : Bool} {Q : Bool → Shared → Prop} {E : Value → Shared → Prop} (x : TestsR W d sc ρ H ifs b H') (rm : Rm A d) (F : Fm W sc env φ h ρ) (R : HR W φ H h)
    (k : ∀ h' t' φ', HR W φ' H' h' → Kp φ h φ' h' → Q b (St σ h' t')) : wpAny (mdl W) A (forIn ifs true fun c r => if r = true then do let ok ← isTrue c env (eval c env); pure (ForInStep.yield ok) else pure (ForInStep.yield r)) Q E (St σ h t) := by
  match ifs, x with
  | [], x => obtain ⟨rfl, rfl⟩ := x; exact wpAny_tests_nil (k h t φ R (.refl _ _))
  | [c], x => exact wpAny_tests_one (x A env h t σ φ Q E rm F R k)
end
theorem relabel_free {sc : Scope} {n : Str} : ∀ {names : List (Str × NameKind)}, (∀ y ∈ names, y.2 ≠ .cell) →
    (names.map fun (n, k) => if (k == NameKind.free && sc.kind == .function && sc.names.lookup n == some .cell) then (n, NameKind.cell) else (n, k)).lookup n = some .cell → (n, NameKind.free) ∈ names
  | [], _, h => by simp at h
  | (m, k) :: r, hc, h => by
    have ih := @relabel_free sc n r (fun y hy => hc y (.tail _ hy))
    have h' : List.lookup n ((if (k == NameKind.free && sc.kind == .function && sc.names.lookup m == some .cell) = true then (m, NameKind.cell) else (m, k)) ::
      (r.map fun (n, k) => if (k == NameKind.free && sc.kind == .function && sc.names.lookup n == some .cell) then (n, NameKind.cell) else (n, k))) = some .cell := h
    by_cases hb : (k == NameKind.free && sc.kind == .function && sc.names.lookup m == some .cell) = true
    · rw [if_pos hb] at h'
      by_cases q : n = m
      · subst q
        simp only [Bool.and_eq_true, beq_iff_eq] at hb
        rw [← hb.1.1]; exact .head _
      · have : (n == m) = false := by simpa using q
        rw [List.lookup_cons, this] at h'
        exact .tail _ (ih h')
    · rw [if_neg hb] at h'
      by_cases q : n = m
      · subst q
        simp at h'
        exact absurd h' (hc _ (.head _))
      · have : (n == m) = false := by simpa using q
        rw [List.lookup_cons, this] at h'
        exact .tail _ (ih h')
theorem relabel_local {scope sc : Scope} {x : Str} (h : scope.names.lookup x = some .local) : (relabelS scope sc).names.lookup x = some .local :=
  lookup_relabel_local (env := { scope := sc, locals := 0, globals := 0, cells := [], qual := "", func := none, code := .none, frame := none, builtins := 0 }) h

section
variable {W : Wd} {d : Nat} {sc : Scope} {ρ : Loc} {H H₁ H₂ H₃ H' : List O}
theorem Kp.nd {φ φ' : Map} {h h' : Heap} {b : Addr} (k : Kp φ h φ' h') (n : ¬ dom φ b) (e : ∃ o, h.get? b = some o) : ¬ dom φ' b := fun dd => by
  rcases k.new b dd with dd | z
  · exact n dd
  · obtain ⟨o, q⟩ := e; rw [z] at q; cases q
theorem comp_core {elt iter : PySem.Expr} {x : Str} {px pos : Pos} {ifs : List PySem.Expr} {scope : Scope} {S₀ S : List O → Prop} {src : V} {all ys : List V} {ρc : Loc} (K : IterK W S₀ S src all) (r : CompR W d (relabelS scope sc) x ρc elt ifs S H₁ all ys H') (h0 : S₀ H₁)
    (hcell : ∀ y ∈ scope.names, y.2 ≠ .cell) (hkind : scope.kind = .function) (hx : scope.names.lookup x = some .local) (hρ : ∀ n v, ρc.lookup n = some v → ρ.lookup n = some v ∧ sc.names.lookup n = some .cell ∧ (relabelS scope sc).names.lookup n = some .cell) (hz : all.length ≤ sizeLine)
    {A : Around} {env : Env} {h₁ : Heap} {t : Nat} {σ : Shared} {φ₁ : Map} {v' : Value} {cl : List (Str × Addr)} {E : Value → Shared → Prop} (rm : Rm A d) (F₁ : Fm W sc env φ₁ h₁ ρ) (R₁ : HR W φ₁ H₁ h₁) (y : VR φ₁ src v')
    (c1 : ∀ n c, cl.lookup n = some c → env.cells.lookup n = some c) (c2 : ∀ p ∈ scope.names, p.2 = .free → ∃ c, cl.lookup p.1 = some c)
    {RR : Value → Addr → Result → Shared → Prop}
    (k : ∀ D C h' t' φ' m, VR φ' (.ref H'.length) (.ref D) → HR W φ' (H' ++ [.list ys]) h' → Kp φ₁ h₁ φ' h' → h₁.get? C = none → ¬ dom φ' C → W.h₀.get? C = none → h'.Ns C m → RR (.ref D) C (.ok .next) (St σ h' t')) :
    wpAny (mdl W) A (pyIter v') (fun it s₂ => wpAny (mdl W) A (newList []) (fun acc s₃ => wpAny (mdl W) A (newFunctionEnv scope env.globals cl [] env.qual none .none (some env)) (fun cenv s₄ =>
      codeAny (mdl W) A (.compStart (.ListComp elt [⟨.Name x px, iter, ifs, 0⟩] scope pos) 0 it acc { cenv with scope := relabel scope env }) (RR acc cenv.locals) s₄) E s₃) E s₂) E (St σ h₁ t) := by
  refine K.start R₁ h0 y fun it h₂ nit It keep => ?_
  refine wpAny_newObj_type (s := St σ h₂ t) (wpAny_newFunctionEnv hcell (by intro y hy; simp at hy) (fun h₄ hns hsb => ?_) hkind)
  dsimp only at hns hsb ⊢
  generalize hP : h₂.push { cls := .type "list", dict := none, data := .seq ([] : List Value).toArray } = h₃ at hns hsb ⊢
  obtain ⟨D, hD⟩ : ∃ D : Nat, D = h₂.objs.size := ⟨_, rfl⟩
  obtain ⟨C, hC⟩ : ∃ C : Nat, C = h₃.objs.size := ⟨_, rfl⟩
  rw [← hC] at hns hsb ⊢
  rw [← hD]
  have eC : (C : Nat) = (D : Nat) + 1 := by rw [hC, ← hP, Heap.size_push, hD]
  have low : ∀ (b : Nat) (o : Obj), h₂.get? b = some o → b < D := fun b o e => by rw [hD]; exact Heap.lt_size e
  have k₄ : ∀ b o, h₂.get? b = some o → h₄.get? b = some o := fun b o e => by
    have l := low b o e
    refine (hsb.2 b (Nat.ne_of_lt (by (first | lia | omega)))).trans (Heap.get?_push_of_some _ ?_)
    rw [← hP]; exact Heap.get?_push_of_some _ e
  have nD : h₂.get? D = none := get_none_of_ge (by (first | lia | omega))
  have nC : h₂.get? C = none := get_none_of_ge (by (first | lia | omega))
  have up : ∀ {b}, h₂.get? b = none → h₁.get? b = none := fun {b} e => by
    cases q : h₁.get? b with
    | none => rfl
    | some o => have := keep b o q; rw [e] at this; cases this
  have gD : IsL h₄ D [].toArray 0 := by
    refine (hsb.2 D (Nat.ne_of_lt (by (first | lia | omega)))).trans (Heap.get?_push_of_some _ ?_)
    rw [← hP, hD]; exact Heap.get?_push_size _ rfl
  have R₂ := R₁.grow keep
  have R₄ := R₂.grow k₄
  have F₂ : Fm W sc env φ₁ h₂ ρ := F₁.kp (Kp.grow keep)
  have off : ∀ {b}, h₁.get? b = none → ¬ dom φ₁ b ∧ W.h₀.get? b = none := by
    intro b e
    refine ⟨fun dd => ?_, ?_⟩
    · obtain ⟨o, q⟩ := R₁.there dd
      rw [e] at q; cases q
    · cases q : W.h₀.get? b with
      | none => rfl
      | some o => have := R₁.base b o q; rw [e] at this; cases this
  have xl : (relabelS scope sc).names.lookup x = some .local := relabel_local hx
  have Fc : Fm W (relabelS scope sc) (compEnvC scope cl C env) φ₁ h₄ ρc := {
    scq := by show relabel scope env = _; rw [relabel_eq, F₁.scq]
    kind := hkind
    glob := F₁.glob
    bui := F₁.bui
    fun_ := fun n v e => Or.inr (hρ n v e).2.2
    ns := ⟨_, hns, fun n v e q => by rw [(hρ n v e).2.2] at q; cases q⟩
    cell := fun n v e q => by
      obtain ⟨e1, e2, e3⟩ := hρ n v e
      obtain ⟨c, hc⟩ := c2 _ (relabel_free hcell e3) rfl
      obtain ⟨c', v', a1, a2, a3⟩ := F₂.cell n v e1 e2
      have : c' = c := by have := c1 n c hc; rw [a1] at this; cases this; rfl
      subst this
      obtain ⟨o, a4, a5⟩ := a2
      exact ⟨c', v', hc, ⟨o, k₄ _ _ a4, a5⟩, a3⟩
    cells := fun n c e => by
      obtain ⟨⟨v₀, o, b1, b2⟩, b3, b4, b5⟩ := F₂.cells n c (c1 n c e)
      exact ⟨⟨v₀, o, k₄ _ _ b1, b2⟩, b3, b4, fun q => by
        have q' : c = C := q
        rw [q', nC] at b1; cases b1⟩
    inj := fun a b c e e' => F₁.inj a b c (c1 a c e) (c1 b c e')
    «have_» := fun n e => c2 _ (relabel_free hcell e) rfl
    off := off (up nC) }
  have It₄ := K.keep It (.refl φ₁) (fun o e => k₄ it o e)
  obtain ⟨oi, goi⟩ := K.there It
  have itD : it ≠ D := Nat.ne_of_lt (low it oi goi)
  have itC : it ≠ C := Nat.ne_of_lt (by have := low it oi goi; (first | lia | omega))
  have DC : D ≠ C := Nat.ne_of_lt (by (first | lia | omega))
  have kp₄ : Kp φ₁ h₁ φ₁ h₄ := Kp.grow fun b o e => k₄ b o (keep b o e)
  have loop : codeAny (mdl W) A (.compLoop (.ListComp elt [⟨.Name x px, iter, ifs, 0⟩] scope pos) 0 (.ref it) (.ref D) (compEnvC scope cl C env)) (RR (.ref D) C) (St σ h₄ (t + 0)) := by
    refine codeAny_compLoop_tests (fun n s => ∃ i h t φ H vs ysd ysr acc e, A15 (s = St σ h t) (n = vs.length) (vs = all.drop i) (CompR W d (relabelS scope sc) x ρc elt ifs S H vs ysr H') (ys = ysd ++ ysr) (ysd.length ≤ i) (Fm W (relabelS scope sc) (compEnvC scope cl C env) φ h ρc) (HR W φ H h) (K.It φ h it i) (IsL h D acc e) (VsR φ ysd acc.toList) (¬ dom φ it) (¬ dom φ D) (¬ dom φ C) (Kp φ₁ h₁ φ h))
      (fun n s I => ?_) all.length ⟨0, h₄, _, φ₁, H₁, all, [], ys, #[], 0, rfl, rfl, rfl, r, rfl, Nat.le_refl _, Fc, R₄, It₄, gD, .nil, (off nit).1, (off (up nD)).1, (off (up nC)).1, kp₄⟩
    obtain ⟨i, h, t', φ, H, vs, ysd, ysr, acc, e, rfl, rfl, ev, cr, ey, hi, F, R, It', gA, yA, n1, n2, n3, kp⟩ := I
    have b1 := (off nit).2
    have b2 := (off (up nD)).2
    have b3 := (off (up nC)).2
    have nfi : ¬ FA (compEnvC scope cl C env) it := fun fa => by
      rcases fa with q | ⟨n, q⟩
      · exact itC q
      · obtain ⟨⟨v₀, o, q1, _⟩, _⟩ := F₁.cells n it (c1 n it q)
        rw [nit] at q1; cases q1
    have nfD : ¬ FA (compEnvC scope cl C env) D := fun fa => by
      rcases fa with q | ⟨n, q⟩
      · exact DC q
      · obtain ⟨⟨v₀, o, q1, _⟩, _⟩ := F₁.cells n D (c1 n D q)
        rw [up nD] at q1; cases q1
    cases cr with
    | done hS =>
      refine K.fin rm.hh R hS It' (by
        have := congrArg List.length ev
        simp at this
        exact List.getElem?_eq_none (by (first | lia | omega))) fun h' eb => ?_
      have kk : ∀ b o, b ≠ it → h.get? b = some o → h'.get? b = some o := fun b o n e => eb b o n e
      have R' : HR W φ H' h' := R.keep (fun b o dd e => kk b o (fun q => n1 (q ▸ dd)) e) fun b o e => kk b o (fun q => by rw [q, b1] at e; cases e) (R.base b o e)
      have gA' : IsL h' D acc e := kk _ _ (Ne.symm itD) gA
      obtain ⟨m, n, _⟩ := F.ns
      rw [List.append_nil] at ey
      subst ey
      have Ra : HR W (φ ++ [(D, D)]) (H' ++ [.list ys]) h' := R'.adopt ⟨rfl, acc.toList, e, by simpa using gA', yA⟩ n2 b2
      refine k D C h' _ (φ ++ [(D, D)]) m (.ref (d := D) (by rw [← R'.len]; simp)) Ra (kp.off ⟨_, rfl⟩ (fun b o o₁ e1 dd e => kk b o (fun q => by rw [q, nit] at e1; cases e1) e) fun b dd => ?_) (up nC) ?_ b3 (n.at' fun o e => kk _ _ (Ne.symm itC) e)
      · obtain ⟨p, hp, e⟩ := dd
        rcases List.mem_append.mp hp with hp | hp
        · exact .inl ⟨p, hp, e⟩
        · simp at hp; subst hp
          have : b = D := by rcases e with rfl | rfl <;> rfl
          subst this
          exact .inr (up nD)
      · intro dd
        obtain ⟨p, hp, e⟩ := dd
        rcases List.mem_append.mp hp with hp | hp
        · exact n3 ⟨p, hp, e⟩
        · simp at hp; subst hp
          rcases e with q | q <;> exact DC q.symm
    | @take _ v vs' H₅ yv₀ H₆ ysr' _ hS ts ee rest =>
      have hv : all[i]? = some v := drop_hd ev
      have ev' : vs' = all.drop (i + 1) := drop_tl ev
      refine K.next R hS It' hv fun v' h₅ t₅ yv It₅ sb => ?_
      have kk₅ : ∀ b o, b ≠ it → h.get? b = some o → h₅.get? b = some o := fun b o n e => (sb.2 b n).trans e
      have F₅ : Fm W (relabelS scope sc) (compEnvC scope cl C env) φ h₅ ρc := F.keep (.refl _) (fun b o fa e => kk₅ b o (fun q => nfi (q ▸ fa)) e) fun b fa => (F.there fa).1
      have R₅ : HR W φ H h₅ := R.keep (fun b o dd e => kk₅ b o (fun q => n1 (q ▸ dd)) e) fun b o e => kk₅ b o (fun q => by rw [q, b1] at e; cases e) (R.base b o e)
      have kp₅ : Kp φ₁ h₁ φ h₅ := kp.off (.refl _) (fun b o o₁ e1 dd e => kk₅ b o (fun q => by rw [q, nit] at e1; cases e1) e) fun b dd => .inl dd
      refine wpAny_assign_Name (wp_storeL F₅ R₅ yv xl fun h₆ t₆ F₆ R₆ sb₆ => ?_)
      have kp₆ : Kp φ₁ h₁ φ h₆ := kp₅.off (.refl _) (fun b o o₁ e1 dd e => (sb₆.2 b (fun q => by rw [show b = C from q, up nC] at e1; cases e1)).trans e) fun b dd => .inl dd
      have gA₆ : IsL h₆ D acc e := (sb₆.2 D DC).trans (kk₅ _ _ (Ne.symm itD) gA)
      have It₆ := K.keep It₅ (.refl φ) fun o q => (sb₆.2 it itC).trans q
      obtain ⟨oc, gC₆⟩ := F₆.lt
      have lessen : ∀ {φ : Map} {h : Heap} {v : V}, Fm W (relabelS scope sc) (compEnvC scope cl C env) φ h ((x, v) :: ρc) → Fm W (relabelS scope sc) (compEnvC scope cl C env) φ h ρc := fun F => F.sub fun n u e => by
        have : n ≠ x := fun q => by have := (hρ n u e).2.2; rw [q, xl] at this; cases this
        rw [lookup_cons_ne this]; exact e
      refine wp_tests ts rm F₆ R₆ fun h₇ t₇ φ₇ R₇ k₇ => ?_
      have d7 : ¬ dom φ₇ it ∧ ¬ dom φ₇ D ∧ ¬ dom φ₇ C := ⟨k₇.nd n1 (K.there It₆), k₇.nd n2 ⟨_, gA₆⟩, k₇.nd n3 ⟨_, gC₆⟩⟩
      have gA₇ : IsL h₇ D acc e := k₇.keep _ _ n2 gA₆
      have It₇ := K.keep It₆ k₇.pre fun o q => k₇.keep it o n1 q
      simp only [if_true]
      refine ee A _ h₇ t₇ σ φ₇ _ _ rm (F₆.kp k₇) R₇ fun y' h₈ t₈ φ₈ yy R₈ k₈ => ?_
      have gC₇ := k₇.keep _ _ n3 gC₆
      have d8 : ¬ dom φ₈ it ∧ ¬ dom φ₈ D ∧ ¬ dom φ₈ C := ⟨k₈.nd d7.1 (K.there It₇), k₈.nd d7.2.1 ⟨_, gA₇⟩, k₈.nd d7.2.2 ⟨_, gC₇⟩⟩
      have gA₈ : IsL h₈ D acc e := k₈.keep _ _ d7.2.1 gA₇
      have It₈ := K.keep It₇ k₈.pre fun o q => k₈.keep it o d7.1 q
      have F₈ := lessen ((F₆.kp k₇).kp k₈)
      have kp₈ := (kp₆.trans k₇).trans k₈
      have la : acc.size = ysd.length := by have := yA.length; simp at this; (first | lia | omega)
      have li : i < all.length := (List.getElem?_eq_some_iff.mp hv).1
      refine call_meets (s := St σ h₈ t₈) PySem.F.slot_list_append ⟨_, gA₈, rfl⟩ PySem.F.entry_list_append (PySem.F.args_list_append_2 _ _) (list_append D acc e y' (by (first | lia | omega))) ⟨gA₈, ?_⟩
      have kk₉ : ∀ b o, b ≠ D → h₈.get? b = some o → (h₈.update D (Obj.mapSeq fun x => x.push y')).get? b = some o := fun b o n q => (Heap.get?_update_other h₈ _ (Ne.symm n)).trans q
      have gA₉ := IsL.update gA₈ (fun x => x.push y')
      refine ⟨vs'.length, by simp, i + 1, _, t₈, φ₈, H₆, vs', ysd ++ [yv₀], ysr', acc.push y', _, rfl, rfl, ev', rest, by rw [ey]; simp, by simp; (first | lia | omega), ?_, ?_, ?_, gA₉, ?_, d8.1, d8.2.1, d8.2.2, ?_⟩
      · exact F₈.keep (.refl _) (fun b o fa q => kk₉ b o (fun z => nfD (z ▸ fa)) q) fun b fa => (F₈.there fa).1
      · exact R₈.keep (fun b o dd q => kk₉ b o (fun z => d8.2.1 (z ▸ dd)) q) fun b o q => kk₉ b o (fun z => by rw [z, b2] at q; cases q) (R₈.base b o q)
      · exact K.keep It₈ (.refl _) fun o q => kk₉ it o itD q
      · rw [Array.toList_push]
        exact ((VsR.mono k₇.pre yA).imp fun _ _ => VR.mono k₈.pre).append (.cons yy .nil)
      · exact kp₈.off (.refl _) (fun b o o₁ e1 dd q => kk₉ b o (fun z => by rw [z, up nD] at e1; cases e1) q) fun b dd => .inl dd
    | @skip _ v vs' H₅ _ _ hS ts rest =>
      have hv : all[i]? = some v := drop_hd ev
      have ev' : vs' = all.drop (i + 1) := drop_tl ev
      refine K.next R hS It' hv fun v' h₅ t₅ yv It₅ sb => ?_
      have kk₅ : ∀ b o, b ≠ it → h.get? b = some o → h₅.get? b = some o := fun b o n e => (sb.2 b n).trans e
      have F₅ : Fm W (relabelS scope sc) (compEnvC scope cl C env) φ h₅ ρc := F.keep (.refl _) (fun b o fa e => kk₅ b o (fun q => nfi (q ▸ fa)) e) fun b fa => (F.there fa).1
      have R₅ : HR W φ H h₅ := R.keep (fun b o dd e => kk₅ b o (fun q => n1 (q ▸ dd)) e) fun b o e => kk₅ b o (fun q => by rw [q, b1] at e; cases e) (R.base b o e)
      have kp₅ : Kp φ₁ h₁ φ h₅ := kp.off (.refl _) (fun b o o₁ e1 dd e => kk₅ b o (fun q => by rw [q, nit] at e1; cases e1) e) fun b dd => .inl dd
      refine wpAny_assign_Name (wp_storeL F₅ R₅ yv xl fun h₆ t₆ F₆ R₆ sb₆ => ?_)
      have kp₆ : Kp φ₁ h₁ φ h₆ := kp₅.off (.refl _) (fun b o o₁ e1 dd e => (sb₆.2 b (fun q => by rw [show b = C from q, up nC] at e1; cases e1)).trans e) fun b dd => .inl dd
      have gA₆ : IsL h₆ D acc e := (sb₆.2 D DC).trans (kk₅ _ _ (Ne.symm itD) gA)
      have It₆ := K.keep It₅ (.refl φ) fun o q => (sb₆.2 it itC).trans q
      obtain ⟨oc, gC₆⟩ := F₆.lt
      have lessen : ∀ {φ : Map} {h : Heap} {v : V}, Fm W (relabelS scope sc) (compEnvC scope cl C env) φ h ((x, v) :: ρc) → Fm W (relabelS scope sc) (compEnvC scope cl C env) φ h ρc := fun F => F.sub fun n u e => by
        have : n ≠ x := fun q => by have := (hρ n u e).2.2; rw [q, xl] at this; cases this
        rw [lookup_cons_ne this]; exact e
      refine wp_tests ts rm F₆ R₆ fun h₇ t₇ φ₇ R₇ k₇ => ?_
      have d7 : ¬ dom φ₇ it ∧ ¬ dom φ₇ D ∧ ¬ dom φ₇ C := ⟨k₇.nd n1 (K.there It₆), k₇.nd n2 ⟨_, gA₆⟩, k₇.nd n3 ⟨_, gC₆⟩⟩
      have gA₇ : IsL h₇ D acc e := k₇.keep _ _ n2 gA₆
      have It₇ := K.keep It₆ k₇.pre fun o q => k₇.keep it o n1 q
      simp only [Bool.false_eq_true, if_false]
      exact ⟨vs'.length, by simp, i + 1, h₇, t₇, φ₇, H₅, vs', ysd, ysr, acc, e, rfl, rfl, ev', rest, ey, by (first | lia | omega), lessen (F₆.kp k₇), R₇, It₇, gA₇, VsR.mono k₇.pre yA, d7.1, d7.2.1, d7.2.2, kp₆.trans k₇⟩
  exact codeAny_compStart_list loop (K.self (s := St σ h₄ (t + 0)) It₄ loop)
end
noncomputable def cap (scope : Scope) (ρ : Loc) : Loc := scope.names.filterMap fun p => if p.2 == .free then (ρ.lookup p.1).map fun v => (p.1, v) else none
noncomputable def compOk (scope sc : Scope) (x : Str) : Bool := scope.names.all (fun p => p.2 != .cell) && scope.kind == .function && scope.names.lookup x == some .local && scope.names.all (fun y => y.2 != .local || scope.names.lookup y.1 == some .local) &&
  scope.names.all (fun p => p.2 != .free || (sc.names.lookup p.1 == some .cell && (relabelS scope sc).names.lookup p.1 == some .cell))
theorem cap_mem {scope : Scope} {ρ : Loc} {n : Str} {v : V} : ∀ {names : List (Str × NameKind)}, (names.filterMap fun p => if p.2 == NameKind.free then (ρ.lookup p.1).map fun v => (p.1, v) else none).lookup n = some v → ρ.lookup n = some v ∧ (n, NameKind.free) ∈ names
  | [], h => by simp at h
  | (m, k) :: r, h => by
    have ih := @cap_mem scope ρ n v r
    rw [List.filterMap_cons] at h
    by_cases hk : k = .free
    · subst hk
      simp only [beq_self_eq_true, if_true] at h
      cases q : ρ.lookup m with
      | none =>
        rw [q] at h
        obtain ⟨a, b⟩ := ih h
        exact ⟨a, .tail _ b⟩
      | some u =>
        rw [q] at h
        simp only [Option.map_some] at h
        by_cases e : n = m
        · subst e
          simp at h
          subst h
          exact ⟨q, .head _⟩
        · have : (n == m) = false := by simpa using e
          rw [List.lookup_cons, this] at h
          obtain ⟨a, b⟩ := ih h
          exact ⟨a, .tail _ b⟩
    · have : (k == NameKind.free) = false := by simpa using hk
      simp only [this, Bool.false_eq_true, if_false] at h
      obtain ⟨a, b⟩ := ih h
      exact ⟨a, .tail _ b⟩

section
variable {W : Wd} {d : Nat} {sc : Scope} {ρ : Loc} {H H₁ H₂ H₃ H' : List O}
theorem comp_facts {scope : Scope} {x : Str} (h : compOk scope sc x = true) : (∀ y ∈ scope.names, y.2 ≠ .cell) ∧ scope.kind = .function ∧ scope.names.lookup x = some .local ∧ (∀ y ∈ scope.names, y.2 = .local → scope.names.lookup y.1 = some .local) ∧
    (∀ p ∈ scope.names, p.2 = .free → sc.names.lookup p.1 = some .cell) ∧ (∀ n v, (cap scope ρ).lookup n = some v → ρ.lookup n = some v ∧ sc.names.lookup n = some .cell ∧ (relabelS scope sc).names.lookup n = some .cell) := by
  unfold compOk at h
  simp only [Bool.and_eq_true, List.all_eq_true, bne_iff_ne, beq_iff_eq, Bool.or_eq_true] at h
  obtain ⟨⟨⟨⟨h1, h2⟩, h3⟩, h4⟩, h5⟩ := h
  refine ⟨h1, h2, h3, fun y hy q => (h4 y hy).resolve_left fun z => z q, fun p hp q => ((h5 p hp).resolve_left fun z => z q).1, fun n v e => ?_⟩
  obtain ⟨a, b⟩ := cap_mem (scope := scope) e
  have := (h5 _ b).resolve_left fun z => z rfl
  exact ⟨a, this.1, this.2⟩
theorem ev_comp {elt iter : PySem.Expr} {x : Str} {px pos : Pos} {ifs : List PySem.Expr} {scope : Scope} {S₀ S : List O → Prop} {src : V} {all ys : List V} (a : Ev W d sc ρ H iter src H₁) (K : IterK W S₀ S src all) (h0 : S₀ H₁)
    (r : CompR W d (relabelS scope sc) x (cap scope ρ) elt ifs S H₁ all ys H') (hc : compOk scope sc x = true) (hz : all.length ≤ sizeLine) (hn : noSet iter = true := by rfl) :
    Ev W d sc ρ H (.ListComp elt [⟨.Name x px, iter, ifs, 0⟩] scope pos) (.ref H'.length) (H' ++ [.list ys]) :=
  fun A env h t σ φ Q E rm F R kk => by
    obtain ⟨f1, f2, f3, f4, f5, f6⟩ := comp_facts (ρ := ρ) hc
    obtain ⟨cl, e1, e2, e3⟩ := closure_of (scope := scope) (env := env) fun p hp q => F.have_ _ (f5 p hp q)
    rw [eval_ListComp]
    refine wpAny_comprehension_free (use := none) (g := ⟨.Name x px, iter, ifs, 0⟩) (gs := []) rfl (folded_no hn) e1 f2 f4 (a A env h t σ φ _ E rm F R fun v' h₁ t₁ φ₁ y R₁ k₁ => ?_)
    refine comp_core (RR := fun acc C => compPost (mdl W) A E none Q acc C) K r h0 f1 f2 f3 f6 hz rm (F.kp k₁) R₁ y e2 e3 fun D C h' t' φ' m yD R' kp nC ndC bC ns => ⟨m, ns, fun h'' sb => ?_⟩
    refine kk _ h'' t' φ' yD (R'.keep (fun b o dd e => (sb.2 b fun q => ndC (q ▸ dd)).trans e) fun b o e => (sb.2 b fun q => by rw [q, bC] at e; cases e).trans (R'.base b o e)) (k₁.trans (kp.off (.refl _) (fun b o o₁ e1 dd e => (sb.2 b fun q => by rw [q, nC] at e1; cases e1).trans e) fun b dd => .inl dd))
noncomputable def swapOk (scope sc : Scope) (y : Str) (py pos : Pos) : Bool := (sc.names.lookup y == some .local) && py.line == pos.line && !(scope.names.any fun (n, k) => n == y && (k == .local || k == .cell))
theorem ex1_assign_comp {elt iter : PySem.Expr} {x y : Str} {px py pos q : Pos} {ifs : List PySem.Expr} {scope : Scope} {S₀ S : List O → Prop} {src : V} {all ys : List V} (a : Ev W d sc ρ H iter src H₁) (K : IterK W S₀ S src all) (h0 : S₀ H₁)
    (r : CompR W d (relabelS scope sc) x (cap scope ρ) elt ifs S H₁ all ys H') (hc : compOk scope sc x = true) (hz : all.length ≤ sizeLine) (hy : sc.names.lookup y = some .local ∨ sc.names.lookup y = some .cell) (hn : noSet iter = true := by rfl) :
    Ex1 W d sc ρ H (.Assign [.Name y py] (.ListComp elt [⟨.Name x px, iter, ifs, 0⟩] scope pos) q) none ((y, .ref H'.length) :: ρ) (H' ++ [.list ys]) :=
  fun A env h t σ φ Q E rm F R kk => by
    have bk : env.blockKind = .function := by
      show (if env.scope.kind.isAnnotationScope then .function else env.scope.kind) = _
      rw [F.scq, F.kind]; rfl
    have sw : swapsWith (.ListComp elt [⟨.Name x px, iter, ifs, 0⟩] scope pos) (some (.Name y py)) q.line env = pure (swapOk scope sc y py pos) := by
      show (pure (env.blockKind == .function && env.scope.names.lookup y == some .local && py.line == pos.line && !(scope.names.any fun (n, k) => n == y && (k == .local || k == .cell))) : Sem Bool) = _
      rw [bk, F.scq]
      unfold swapOk
      simp
    cases hs : swapOk scope sc y py pos with
    | false =>
      rw [hs] at sw
      exact wpAny_Assign_Name ((ev_comp (pos := pos) (px := px) a K h0 r hc hz hn) A env h t σ φ _ E rm F R fun v' h₁ t₁ φ₁ yv R₁ k₁ => wp_store (F.kp k₁) R₁ yv hy fun h' t' F' R' kq =>
        kk .next h' t' φ₁ .next F' R' (k₁.q.trans (fa_there F (F.kp k₁)) kq)) sw
    | true =>
      rw [hs] at sw
      obtain ⟨f1, f2, f3, f4, f5, f6⟩ := comp_facts (ρ := ρ) hc
      obtain ⟨cl, e1, e2, e3⟩ := closure_of (scope := scope) (env := env) fun p hp q => F.have_ _ (f5 p hp q)
      rw [exec_Assign_Name_used _ _ _ _ sw]
      refine wpAny_bind (wpAny_standAt (wpAny_bind ?_))
      show wpAny _ A (do let _ ← comprehension (.ListComp elt [⟨.Name x px, iter, ifs, 0⟩] scope pos) scope env _ (newList []) false (eval iter env) (some (assign (.Name y py) env))) _ _ _
      refine wpAny_bind (wpAny_mono (wpAny_comprehension_free (use := some (assign (.Name y py) env)) (Q := fun _ s' => Q .next s') (g := ⟨.Name x px, iter, ifs, 0⟩) (gs := []) rfl (folded_no hn) e1 f2 f4 (a A env h t σ φ _ E rm F R fun v' h₁ t₁ φ₁ y' R₁ k₁ => ?_)) (fun _ s' hq => wpAny_pure (wpAny_pure hq)) fun _ _ e => e)
      refine comp_core (RR := fun acc C => compPost (mdl W) A E (some (assign (.Name y py) env)) (fun _ s' => Q .next s') acc C) K r h0 f1 f2 f3 f6 hz rm (F.kp k₁) R₁ y' e2 e3 fun D C h' t' φ' m yD R' kp nC ndC bC ns => ?_
      show wpAny _ A (assign (.Name y py) env (.ref D)) _ _ _
      have F₁ := F.kp k₁
      have F' := F₁.kp kp
      have nf : ¬ FA env C := fun fa => by obtain ⟨_, o, e⟩ := F₁.there fa; rw [nC] at e; cases e
      refine wpAny_assign_Name (wp_store F' R' yD hy fun h₂ t₂ F₂ R₂ kq => ⟨m, ns.at' fun o e => kq.keep C o ndC nf e, fun h₃ sb => ?_⟩)
      have F₃ : Fm W sc env φ' h₃ ((y, .ref H'.length) :: ρ) := F₂.keep (.refl _) (fun b o fa e => (sb.2 b fun q => nf (q ▸ fa)).trans e) fun b fa => (F₂.there fa).1
      have R₃ : HR W φ' (H' ++ [.list ys]) h₃ := R₂.keep (fun b o dd e => (sb.2 b fun q => ndC (q ▸ dd)).trans e) fun b o e => (sb.2 b fun q => by rw [q, bC] at e; cases e).trans (R₂.base b o e)
      refine kk .next h₃ t₂ φ' .next F₃ R₃ (k₁.q.trans (fa_there F F₁) ?_)
      exact ((kp.q).trans (fa_there F₁ F') kq).off (fa_there F₁ F₂) nC (.refl _) (fun b o n _ _ e => (sb.2 b n).trans e) fun b dd => .inl dd
end
noncomputable def cmethOk (K : Frag) (C : Addr) (name : Str) (f : Addr) : Bool := specialIn K (.ref C) "__getattribute__" == some (some (.builtin "type.__getattribute__")) && readsIn K C (.type "type") &&
  (match findCls K (.ref C) (.type "type") name with | some (.val v) => v == .ref f | _ => false) && keepIn K (.ref f)
section
variable {W : Wd} {d : Nat} {sc : Scope} {ρ : Loc} {H H₁ H₂ H₃ H' : List O}
theorem ev_cmeth {c : Str} {cp ap p : Pos} {m : Str} {es : List PySem.Expr} {vs : List V} {v : V} {C f : Addr} (a : EvA W d sc ρ H es vs H₁) (fn : Fn W d H₁ (.ref f) vs v H') (hc : nsIn W.K mainGlobals c = some (some (.ref C))) (sx : sc.names.lookup c = some .globalImplicit) (hm : cmethOk W.K C m f = true)
    (hs : noStars es = true := by rfl) (hn : decide (es.length < 29) = true := by rfl) (hp : (ap.endLine == p.line) = true := by rfl) (hd : (c == ("__debug__" : Str)) = false := by decide) : Ev W d sc ρ H (.Call (.Attribute (.Name c cp) m ap) es [] p) v H' :=
  fun A env h t σ φ Q E rm F R k => by
    unfold cmethOk at hm
    simp only [Bool.and_eq_true] at hm
    obtain ⟨⟨⟨m1, m2⟩, m3⟩, m4⟩ := hm
    show wpAny _ _ (attributeBase (.Name c cp) m env (eval (.Name c cp) env) >>= fun ov => standAt ap.atName >>= fun _ => methodCall (.Name c cp) m ap p env ov (es.length + 0) (backTo p (starEach es env)) (backToKw p (keywordEach [] env))) _ _ _
    rw [attributeBase_plain rfl]
    refine wpAny_bind (wp_global F R sx hc (wpAny_bind (wpAny_standAt ?_)) hd)
    have few : methodCallForm (es.length + 0) (backTo p (starEach es env)) (backToKw p (keywordEach [] env)) = true := by
      have b := backTo_plain (env := env) (p := p) hs
      have c : (backTo p (starEach es env)).all (!·.1) = true := by rw [List.all_eq_not_any_not]; simpa using b
      show ((backTo p (starEach es env)).all (!·.1) && true && decide (es.length + 0 + 0 < 30)) = true
      rw [c]
      have := of_decide_eq_true hn
      simp; (first | lia | omega)
    unfold methodCall
    rw [few]
    refine wpAny_bind (wpAny_holding ?_)
    show wpAny _ _ (getMethod (.ref C) m _) _ _ _
    refine method_cls (s := St σ h t) (W.X.keeps R.base) (beq_iff_eq.mp m1) ?_
    split at m3
    · rename_i v' q
      have q' := beq_iff_eq.mp m3
      subst q'
      refine cls_value (s := St σ h t) (W.X.keeps R.base) m2 q rfl ?_
      dsimp only
      unfold methodCallPos
      simp only [Bool.not_true, Bool.false_or, hp, if_true]
      refine wpAny_bind (wpAny_pure ?_)
      refine wp_callWith (keeps_def m4) a hs rm F R fun vs' h' t' φ' y R' kp => wpAny_call (fn A h' t' σ φ' _ _ rm R' y fun v' h₂ t₂ φ₂ yv R₂ k₂ => k v' h₂ t₂ φ₂ yv R₂ (kp.trans k₂))
    · cases m3
theorem ev_gstr {x : Str} {p : Pos} {y : Str} {tk : Tok} (hx : sc.names.lookup x = some .globalImplicit) (e : nsIn W.K mainGlobals x = some (some (.str y tk))) (hd : (x == ("__debug__" : Str)) = false := by decide) : Ev W d sc ρ H (.Name x p) (.str y) H :=
  ev_pure fun A env h t σ φ Q E rm F R k => wp_global F R hx e (k _ t (.str y tk)) hd
theorem ev_and2 {x y : PySem.Expr} {p : Pos} {a b : Bool} (u : Ev W d sc ρ H x (.bool a) H₁) (v : a = true → Ev W d sc ρ H₁ y (.bool b) H₂) (n : a = false → b = false ∧ H₂ = H₁) : Ev W d sc ρ H (.BoolOp .And [x, y] p) (.bool b) H₂ :=
  fun A env h t σ φ Q E rm F R k => BoolOp_and (u A env h t σ φ _ E rm F R fun v' h₁ t₁ φ₁ yv R₁ k₁ => by
    cases yv
    refine wpAny_truthy_bool ?_
    cases a with
    | true => exact BoolOp_one (v rfl A env h₁ t₁ σ φ₁ Q E rm (F.kp k₁) R₁ fun v' h₂ t₂ φ₂ y R₂ k₂ => k v' h₂ t₂ φ₂ y R₂ (k₁.trans k₂))
    | false =>
      obtain ⟨rfl, rfl⟩ := n rfl
      exact k _ h₁ t₁ φ₁ (.bool false) R₁ k₁)

theorem wp_unpack {A : Around} {env : Env} {h : Heap} {t : Nat} {σ : Shared} {φ : Map} {i : Nat} {vs : List V} {v' : Value} {n : Nat} {Q : List Value → Shared → Prop} {E : Value → Shared → Prop} (rm : Rm A d) (F : Fm W sc env φ h ρ) (R : HR W φ H h) (ho : H[i]? = some (.tup vs)) (y : VR φ (.ref i) v') (hn : n = vs.length)
    (k : ∀ vs' h', VsR φ vs vs' → Fm W sc env φ h' ρ → HR W φ H h' → Kp φ h φ h' → Q vs' (St σ h' t)) : wpAny (mdl W) A (unpackItems v' n none) Q E (St σ h t) := by
  obtain ⟨a, vs', m, rfl, ea, hl, yv⟩ := R.tpl ho y
  have l := yv.length
  have e : n = vs'.toArray.size := by simp; (first | lia | omega)
  subst e
  refine wpAny_unpackItems_tuple (s := St σ h t) (items := vs'.toArray) rm.hh ⟨_, hl, rfl, m, rfl⟩ fun h' eb => ?_
  have kk : ∀ b o, h.get? b = some o → h'.get? b = some o := fun b o e => eb b o (Nat.ne_of_lt (Heap.lt_size e)) e
  exact k vs' h' yv (F.kp (Kp.grow kk)) (R.grow kk) (Kp.grow kk)
theorem bind_eq (env : Env) (x : Str) (p : Pos) (v : Value) : assign (.Name x p) env v = (do standAt p; bindName env x v) := rfl
theorem ex1_unpack3 {x y z : Str} {px py pz tp q np : Pos} {c : Nat} {nm : Str} {i : Nat} {a b e : V} (hv : ρ.lookup nm = some (.ref i)) (ho : H[i]? = some (.tup [a, b, e])) (hx : sc.names.lookup x = some .local ∨ sc.names.lookup x = some .cell) (hy : sc.names.lookup y = some .local ∨ sc.names.lookup y = some .cell) (hz : sc.names.lookup z = some .local ∨ sc.names.lookup z = some .cell)
    (hd : (nm == ("__debug__" : Str)) = false := by decide) :
    Ex1 W d sc ρ H (.Assign [.Tuple [.Name x px, .Name y py, .Name z pz] c tp] (.Name nm np) q) none ((z, e) :: (y, b) :: (x, a) :: ρ) H :=
  fun A env h t σ φ Q E rm F R k => by
    refine Assign_Tuple (ev_name hv hd A env h t σ φ _ E rm F R fun v' h₁ t₁ φ₁ yv R₁ k₁ => ?_)
    show wpAny _ _ (standAt tp >>= fun _ => unpack v' (assignEach [.Name x px, .Name y py, .Name z pz] env)) _ _ _
    refine wpAny_bind (wpAny_standAt ?_)
    show wpAny _ _ (holding [v'] (unpackItems v' 3 none) >>= fun items => assignInOrder [assign (.Name x px) env, assign (.Name y py) env, assign (.Name z pz) env] items) _ _ _
    have F₁ := F.kp k₁
    refine wpAny_bind (wpAny_holding (wp_unpack rm F₁ R₁ ho yv rfl fun vs' h₂ yvs F₂ R₂ k₂ => ?_))
    obtain ⟨a', b', e', rfl, y1, y2, y3⟩ := VsR.three yvs
    refine wpAny_assignInOrder_more (wpAny_assign_Name (wp_store F₂ R₂ y1 hx fun h₃ t₃ F₃ R₃ k₃ => ?_))
    refine wpAny_assignInOrder_more (wpAny_assign_Name (wp_store F₃ R₃ y2 hy fun h₄ t₄ F₄ R₄ k₄ => ?_))
    refine wpAny_assignInOrder_more (wpAny_assign_Name (wp_store F₄ R₄ y3 hz fun h₅ t₅ F₅ R₅ k₅ => ?_))
    refine wpAny_assignInOrder_none (k .next h₅ t₅ φ₁ .next F₅ R₅ ?_)
    exact ((((k₁.trans k₂).q).trans (fa_there F F₂) k₃).trans (fa_there F F₃) k₄).trans (fa_there F F₄) k₅
theorem ex1_swap2 {x y : Str} {px py tp vp q : Pos} {c c' : Nat} {e₁ e₂ : PySem.Expr} {a b : V} (ev : EvA W d sc ρ H [e₁, e₂] [a, b] H₁) (hx : sc.names.lookup x = some .local) (hy : sc.names.lookup y = some .local)
    (hw : ∀ env : Env, env.scope = sc → swappedStores [.Tuple [.Name x px, .Name y py] c tp] (.Tuple [e₁, e₂] c' vp) env = pure (some [x, y])) :
    Ex1 W d sc ρ H (.Assign [.Tuple [.Name x px, .Name y py] c tp] (.Tuple [e₁, e₂] c' vp) q) none ((x, a) :: (y, b) :: ρ) (H₁ ++ [.tup [a, b]]) :=
  fun A env h t σ φ Q E rm F R k => by
    refine Assign_Tuple_swapped (names := [x, y]) ((ev_tuple ev) A env h t σ φ _ E rm F R fun v' h₁ t₁ φ₁ yv R₁ k₁ => ?_) rfl (hw env F.scq)
    have F₁ := F.kp k₁
    refine wp_unpack (vs := [a, b]) rm F₁ R₁ (by simp) yv rfl fun vs' h₂ yvs F₂ R₂ k₂ => ?_
    obtain ⟨a', b', rfl, y1, y2⟩ := VsR.two yvs
    show wpAny _ _ (assignInOrder [bindName env y, bindName env x] [b', a']) _ _ _
    refine wpAny_assignInOrder_more (wpAny_bindName (wp_store F₂ R₂ y2 (.inl hy) fun h₃ t₃ F₃ R₃ k₃ => ?_))
    refine wpAny_assignInOrder_more (wpAny_bindName (wp_store F₃ R₃ y1 (.inl hx) fun h₄ t₄ F₄ R₄ k₄ => ?_))
    refine wpAny_assignInOrder_none (k .next h₄ t₄ φ₁ .next F₄ R₄ ?_)
    exact (((k₁.trans k₂).q).trans (fa_there F F₂) k₃).trans (fa_there F F₃) k₄
theorem ev_slice_ext {x : Str} {np p sp : Pos} {upper : PySem.Expr} {a : Addr} {vs : List V} {vs' : List Value} {b : Nat} (hv : ρ.lookup x = some (.ext a)) (y : PartR W d sc ρ H (some upper) (some b)) (hl : W.h₀.IsList a vs'.toArray) (yv : ∀ φ, VsR φ vs vs') (hz : vs'.length ≤ sizeLine) (hd : (x == ("__debug__" : Str)) = false := by decide) :
    Ev W d sc ρ H (.Subscript (.Name x np) (.Slice none (some upper) none sp) p) (.ref H.length) (H ++ [.list (vs.take b)]) :=
  fun A env h t σ φ Q E rm F R k => Subscript_ (ev_name hv hd A env h t σ φ _ E rm F R fun o' h₁ t₁ φ₁ yo R₁ k₁ => wpAny_Slice (by
    rw [evalPart_none]
    refine wpAny_pure (wp_part y rm (F.kp k₁) R₁ fun vu h₃ t₃ φ₃ pu R₃ k₃ => ?_)
    refine wpAny_pure ?_
    cases yo
    have hl₃ : h₃.IsList a vs'.toArray := by obtain ⟨o, e, r⟩ := hl; exact ⟨o, R₃.base _ _ e, r⟩
    have kk : ∀ b o, h₃.get? b = some o → (h₃.push { cls := .type "slice", data := .fields #[.none, vu, .none] }).get? b = some o := fun b o e => Heap.get?_push_of_some _ e
    have R₄ := R₃.grow kk
    have pick : slicePick vs'.toArray none (oi (some b)) none = (vs'.take b).toArray := slicePick_upto' vs'.toArray b
    obtain ⟨R', k', v'⟩ := R₄.new1 (ob := { cls := .type "list", data := .seq (slicePick vs'.toArray none (oi (some b)) none) }) (o := .list (vs.take b)) rfl fun g => ⟨rfl, vs'.take b, 0, by rw [← pick]; exact g, (yv _).take _⟩
    refine tail_any (s := St σ (h₃.push { cls := .type "slice", data := .fields #[.none, vu, .none] }) t₃) (hl₃.push _).typeIs list_getitem_lookup (wpAny_getItem_list_slice (hl₃.push _) (Heap.IsSliceOf.new ..) .none pu .none (by simp) ?_ (by simpa using hz)) rfl
    exact k _ _ t₃ _ v' R' ((k₁.trans k₃).trans ((Kp.grow kk).trans k'))))
end
noncomputable def topSt (k : Nat) : Stmt := PySem.Challenge.pw_pc0225_01.main.body.getD k (.Pass ⟨0, 0, 0, 0⟩)
noncomputable def inCls (k j : Nat) : Stmt := match topSt k with
  | .ClassDef (body := b) .. => b.getD j (.Pass ⟨0, 0, 0, 0⟩)
  | s => s
noncomputable def stName : Stmt → Str
  | .FunctionDef (name := n) .. => n
  | _ => ""
noncomputable def stArgs : Stmt → Arguments
  | .FunctionDef (args := a) .. => a
  | _ => { posonlyargs := [], args := [], vararg := none, kwonlyargs := [], kw_defaults := [], kwarg := none, defaults := [] }
noncomputable def stBody : Stmt → List Stmt
  | .FunctionDef (body := b) .. => b
  | _ => []
noncomputable def stScope : Stmt → Scope
  | .FunctionDef (scope := s) .. => s
  | _ => { kind := .module, names := [], isGenerator := false, isCoroutine := false, more := [] }
noncomputable def FnAt (K : Frag) (a : Addr) (s : Stmt) (qual : Str) (names : List Str) (n : Nat) (ds : List Value) : Prop :=
  ∃ oc od osl dV kV doc pm an cdv ct, K.lookup a = some ⟨oc, od, .func (fnOf (stName s) qual (stArgs s) (stBody s) (stScope s) dV kV doc pm an cdv ct), osl⟩ ∧ codeIn K cdv qual = true ∧
    ∀ S (vs : List Value), vs.length = n → peek K S (bindArgs (fnOf (stName s) qual (stArgs s) (stBody s) (stScope s) dV kV doc pm an cdv ct) ⟨vs, []⟩) = some (names.zip (vs ++ ds))
theorem FnAt.at1 {K : Frag} {a : Addr} {s : Stmt} {qual : Str} {names : List Str} {ds : List Value} {oc od osl dV kV doc pm an cdv ct} (e : K.lookup a = some ⟨oc, od, .func (fnOf (stName s) qual (stArgs s) (stBody s) (stScope s) dV kV doc pm an cdv ct), osl⟩) (c : codeIn K cdv qual = true)
    (h : ∀ S x0, peek K S (bindArgs (fnOf (stName s) qual (stArgs s) (stBody s) (stScope s) dV kV doc pm an cdv ct) ⟨[x0], []⟩) = some (names.zip ([x0] ++ ds))) : FnAt K a s qual names 1 ds := ⟨oc, od, osl, dV, kV, doc, pm, an, cdv, ct, e, c, fun S vs h' => by obtain ⟨x0, rfl⟩ := len1 h'; exact h S x0⟩
theorem FnAt.at2 {K : Frag} {a : Addr} {s : Stmt} {qual : Str} {names : List Str} {ds : List Value} {oc od osl dV kV doc pm an cdv ct} (e : K.lookup a = some ⟨oc, od, .func (fnOf (stName s) qual (stArgs s) (stBody s) (stScope s) dV kV doc pm an cdv ct), osl⟩) (c : codeIn K cdv qual = true)
    (h : ∀ S x0 x1, peek K S (bindArgs (fnOf (stName s) qual (stArgs s) (stBody s) (stScope s) dV kV doc pm an cdv ct) ⟨[x0, x1], []⟩) = some (names.zip ([x0, x1] ++ ds))) : FnAt K a s qual names 2 ds := ⟨oc, od, osl, dV, kV, doc, pm, an, cdv, ct, e, c, fun S vs h' => by obtain ⟨x0, x1, rfl⟩ := len2 h'; exact h S x0 x1⟩
theorem FnAt.at3 {K : Frag} {a : Addr} {s : Stmt} {qual : Str} {names : List Str} {ds : List Value} {oc od osl dV kV doc pm an cdv ct} (e : K.lookup a = some ⟨oc, od, .func (fnOf (stName s) qual (stArgs s) (stBody s) (stScope s) dV kV doc pm an cdv ct), osl⟩) (c : codeIn K cdv qual = true)
    (h : ∀ S x0 x1 x2, peek K S (bindArgs (fnOf (stName s) qual (stArgs s) (stBody s) (stScope s) dV kV doc pm an cdv ct) ⟨[x0, x1, x2], []⟩) = some (names.zip ([x0, x1, x2] ++ ds))) : FnAt K a s qual names 3 ds := ⟨oc, od, osl, dV, kV, doc, pm, an, cdv, ct, e, c, fun S vs h' => by obtain ⟨x0, x1, x2, rfl⟩ := len3 h'; exact h S x0 x1 x2⟩
theorem fn_of {W : Wd} {d : Nat} {H H' : List O} {a : Addr} {s : Stmt} {qual : Str} {names : List Str} {n : Nat} {vs ds : List V} {ds' : List Value} {v : V} {o : Out} {ρ' : Loc} (P : FnAt W.K a s qual names n ds') (hd : 1 ≤ d) (hl : vs.length = n) (hds : ∀ φ, VsR φ ds ds')
    (hn : names.Nodup) (hk : ∀ x ∈ names, (stScope s).names.lookup x = some .local ∨ (stScope s).names.lookup x = some .cell) (x : Ex W (d - 1) (stScope s) (names.zip (vs ++ ds)) H (stBody s) o ρ' H') (hv : o = some v ∨ (o = none ∧ v = .none))
    (hco : (stScope s).isCoroutine = false) (hgen : (stScope s).isGenerator = false) (hkd : (stScope s).kind = .function) : Fn W d H (.ref a) vs v H' := by
  obtain ⟨oc, od, osl, dV, kV, doc, pm, an, cdv, ct, e1, e2, e3⟩ := P
  exact fn_gen hd e1 e2 hds (fun s vs' X e => kp_binds X fun S => e3 S vs' (e.trans hl)) hn hk x hv hco hgen hkd

noncomputable abbrev cThing : Addr := 45
noncomputable abbrev cScalar : Addr := 66
noncomputable abbrev cArray : Addr := 85
noncomputable abbrev cHash : Addr := 104
noncomputable abbrev cCode : Addr := 123
noncomputable abbrev cGlob : Addr := 142
noncomputable abbrev cRef : Addr := 162
noncomputable abbrev cHeap : Addr := 225
noncomputable abbrev cCounter : Addr := 456
noncomputable abbrev cLimits : Addr := 478
noncomputable abbrev f_number_text : Addr := 28
noncomputable abbrev f_Thing_init : Addr := 42
noncomputable abbrev f_Scalar_init : Addr := 63
noncomputable abbrev f_Array_init : Addr := 82
noncomputable abbrev f_Hash_init : Addr := 101
noncomputable abbrev f_Ref_init : Addr := 159
noncomputable abbrev f_Heap_init : Addr := 180
noncomputable abbrev f_next_number : Addr := 187
noncomputable abbrev f_new_scalar : Addr := 194
noncomputable abbrev f_new_array : Addr := 201
noncomputable abbrev f_new_hash : Addr := 208
noncomputable abbrev f_value_of : Addr := 257
noncomputable abbrev f_to_text : Addr := 264
noncomputable abbrev f_fresh_scalars : Addr := 269
noncomputable abbrev f_drop_member : Addr := 276
noncomputable abbrev f_drop_members : Addr := 281
noncomputable abbrev f_clear_array : Addr := 288
noncomputable abbrev f_fill_array : Addr := 295
noncomputable abbrev f_array_values : Addr := 300
noncomputable abbrev f_plain_values : Addr := 305
noncomputable abbrev f_clear_hash : Addr := 312
noncomputable abbrev f_flat_hash : Addr := 319
noncomputable abbrev f_fill_hash : Addr := 326
noncomputable abbrev f_fill_whole : Addr := 333
noncomputable abbrev f_assign_list : Addr := 340
noncomputable abbrev f_assigned_members : Addr := 347
noncomputable abbrev f_held_by : Addr := 352
noncomputable abbrev f_empty_out : Addr := 359
noncomputable abbrev f_in_order : Addr := 364
noncomputable abbrev f_Counter_init : Addr := 378
noncomputable abbrev f_hold : Addr := 385
noncomputable abbrev f_let_go : Addr := 392
noncomputable abbrev f_take : Addr := 406
noncomputable abbrev f_put_off : Addr := 411
noncomputable abbrev f_store : Addr := 418
noncomputable abbrev f_fresh : Addr := 425
noncomputable abbrev f_drop : Addr := 432
noncomputable abbrev f_settle : Addr := 439
noncomputable abbrev f_finish : Addr := 446
noncomputable abbrev f_free : Addr := 453
noncomputable abbrev f_Limits_init : Addr := 475
noncomputable abbrev f_law_told : Addr := 489
noncomputable abbrev f_law_all : Addr := 494
noncomputable abbrev f_law_text : Addr := 501
noncomputable abbrev f_law_paired : Addr := 506
noncomputable abbrev f_law_flat : Addr := 513
noncomputable abbrev f_law_sources : Addr := 520
noncomputable abbrev f_law_targets : Addr := 525
noncomputable abbrev f_law_assigned : Addr := 532
noncomputable abbrev f_law_members : Addr := 539
noncomputable abbrev f_law : Addr := 544
noncomputable def attrL : List (Addr × Str) := [(cScalar, Str.ofString "number"), (cScalar, Str.ofString "count"), (cScalar, Str.ofString "blessed"), (cScalar, Str.ofString "weak"), (cScalar, Str.ofString "is_destroyed"), (cScalar, Str.ofString "is_freed"), (cScalar, Str.ofString "value"), (cScalar, Str.ofString "magic"), (cArray, Str.ofString "number"), (cArray, Str.ofString "count"), (cArray, Str.ofString "blessed"), (cArray, Str.ofString "weak"), (cArray, Str.ofString "is_destroyed"), (cArray, Str.ofString "is_freed"), (cArray, Str.ofString "items"), (cArray, Str.ofString "tied"), (cHash, Str.ofString "number"), (cHash, Str.ofString "count"), (cHash, Str.ofString "blessed"), (cHash, Str.ofString "weak"), (cHash, Str.ofString "is_destroyed"), (cHash, Str.ofString "is_freed"), (cHash, Str.ofString "table"), (cHash, Str.ofString "at"), (cHash, Str.ofString "tied"), (cRef, Str.ofString "target"), (cRef, Str.ofString "is_weak"), (cHeap, Str.ofString "limits"), (cHeap, Str.ofString "last"), (cHeap, Str.ofString "zero"), (cCounter, Str.ofString "heap"), (cCounter, Str.ofString "destroy"), (cCounter, Str.ofString "places"), (cLimits, Str.ofString "width"), (cLimits, Str.ofString "depth"), (cLimits, Str.ofString "steps"), (cLimits, Str.ofString "text"), (cLimits, Str.ofString "items")]
noncomputable def methL : List (Addr × Str × Addr) := [(cHeap, Str.ofString "next_number", f_next_number), (cHeap, Str.ofString "new_scalar", f_new_scalar), (cHeap, Str.ofString "new_array", f_new_array), (cHeap, Str.ofString "new_hash", f_new_hash), (cCounter, Str.ofString "hold", f_hold), (cCounter, Str.ofString "let_go", f_let_go), (cCounter, Str.ofString "take", f_take), (cCounter, Str.ofString "put_off", f_put_off), (cCounter, Str.ofString "store", f_store), (cCounter, Str.ofString "fresh", f_fresh), (cCounter, Str.ofString "drop", f_drop), (cCounter, Str.ofString "settle", f_settle), (cCounter, Str.ofString "finish", f_finish), (cCounter, Str.ofString "free", f_free)]
noncomputable def makeL : List (Addr × Addr) := [(cScalar, f_Scalar_init), (cArray, f_Array_init), (cHash, f_Hash_init), (cRef, f_Ref_init), (cHeap, f_Heap_init), (cCounter, f_Counter_init), (cLimits, f_Limits_init)]
noncomputable def isaL : List (Addr × Addr) := [(cScalar, cScalar), (cArray, cArray), (cHash, cHash), (cRef, cRef)]
noncomputable def naL : List (Addr × Addr) := [(cScalar, cArray), (cScalar, cHash), (cScalar, cCode), (cScalar, cGlob), (cHash, cArray), (cRef, cScalar)]
noncomputable def notL : List (String × Addr) := [("int", cScalar), ("int", cRef), ("str", cScalar), ("str", cRef), ("NoneType", cScalar), ("NoneType", cRef), ("NoneType", cArray), ("NoneType", cHash)]
noncomputable def globL : List (Str × Addr) := [(Str.ofString "number_text", f_number_text), (Str.ofString "value_of", f_value_of), (Str.ofString "to_text", f_to_text), (Str.ofString "fresh_scalars", f_fresh_scalars), (Str.ofString "drop_member", f_drop_member), (Str.ofString "drop_members", f_drop_members), (Str.ofString "clear_array", f_clear_array), (Str.ofString "fill_array", f_fill_array), (Str.ofString "array_values", f_array_values), (Str.ofString "plain_values", f_plain_values), (Str.ofString "clear_hash", f_clear_hash), (Str.ofString "flat_hash", f_flat_hash), (Str.ofString "fill_hash", f_fill_hash), (Str.ofString "fill_whole", f_fill_whole), (Str.ofString "assign_list", f_assign_list), (Str.ofString "assigned_members", f_assigned_members), (Str.ofString "held_by", f_held_by), (Str.ofString "empty_out", f_empty_out), (Str.ofString "in_order", f_in_order), (Str.ofString "_law_told", f_law_told), (Str.ofString "_law_all", f_law_all), (Str.ofString "_law_text", f_law_text), (Str.ofString "_law_paired", f_law_paired), (Str.ofString "_law_flat", f_law_flat), (Str.ofString "_law_sources", f_law_sources), (Str.ofString "_law_targets", f_law_targets), (Str.ofString "_law_assigned", f_law_assigned), (Str.ofString "_law_members", f_law_members), (Str.ofString "law", f_law), (Str.ofString "Thing", cThing), (Str.ofString "Scalar", cScalar), (Str.ofString "Array", cArray), (Str.ofString "Hash", cHash), (Str.ofString "Code", cCode), (Str.ofString "Glob", cGlob), (Str.ofString "Ref", cRef), (Str.ofString "Heap", cHeap), (Str.ofString "Counter", cCounter), (Str.ofString "Limits", cLimits)]
noncomputable def builtL : List Str := [Str.ofString "isinstance", Str.ofString "int", Str.ofString "len", Str.ofString "range", Str.ofString "str", Str.ofString "sorted", Str.ofString "list"]
noncomputable def chkK (K : Frag) : Bool := attrL.all (fun p => attrOk K p.1 p.2) && attrL.all (fun p => setOk K p.1 p.2) && methL.all (fun p => methOk K p.1 p.2.1 p.2.2) && makeL.all (fun p => makeOk K p.1 p.2) && cmethOk K cThing "__init__" f_Thing_init &&
  isaL.all (fun p => isaOk K p.1 p.2) && naL.all (fun p => naOk K p.1 p.2) && notL.all (fun p => isNotIn K p.1 p.2) && globL.all (fun p => nsIn K mainGlobals p.1 == some (some (.ref p.2)) && keepIn K (.ref p.2)) && builtL.all (fun n => nsIn K mainGlobals n == some none)
noncomputable def dflt_Ref_init : List Value := [.bool false]
structure PF (K : Frag) : Prop where
  chk : chkK K = true
  figures : ∃ tk, nsIn K mainGlobals "FIGURES" = some (some (.str "0123456789" tk))
  number_text : FnAt K f_number_text (topSt 3) "number_text" ["n"] 1 []
  Thing_init : FnAt K f_Thing_init (inCls 6 0) "Thing.__init__" ["self", "number"] 2 []
  Scalar_init : FnAt K f_Scalar_init (inCls 7 0) "Scalar.__init__" ["self", "number", "value"] 3 []
  Array_init : FnAt K f_Array_init (inCls 8 0) "Array.__init__" ["self", "number"] 2 []
  Hash_init : FnAt K f_Hash_init (inCls 9 0) "Hash.__init__" ["self", "number"] 2 []
  Ref_init : FnAt K f_Ref_init (inCls 12 0) "Ref.__init__" ["self", "target", "is_weak"] 2 (dflt_Ref_init)
  Heap_init : FnAt K f_Heap_init (inCls 13 0) "Heap.__init__" ["self", "limits"] 2 []
  next_number : FnAt K f_next_number (inCls 13 1) "Heap.next_number" ["self"] 1 []
  new_scalar : FnAt K f_new_scalar (inCls 13 2) "Heap.new_scalar" ["self", "value"] 2 []
  new_array : FnAt K f_new_array (inCls 13 3) "Heap.new_array" ["self"] 1 []
  new_hash : FnAt K f_new_hash (inCls 13 4) "Heap.new_hash" ["self"] 1 []
  value_of : FnAt K f_value_of (topSt 18) "value_of" ["x"] 1 []
  to_text : FnAt K f_to_text (topSt 19) "to_text" ["value"] 1 []
  fresh_scalars : FnAt K f_fresh_scalars (topSt 21) "fresh_scalars" ["counter", "values"] 2 []
  drop_member : FnAt K f_drop_member (topSt 22) "drop_member" ["counter", "member"] 2 []
  drop_members : FnAt K f_drop_members (topSt 23) "drop_members" ["counter", "members"] 2 []
  clear_array : FnAt K f_clear_array (topSt 24) "clear_array" ["counter", "array"] 2 []
  fill_array : FnAt K f_fill_array (topSt 25) "fill_array" ["counter", "array", "values"] 3 []
  array_values : FnAt K f_array_values (topSt 26) "array_values" ["array"] 1 []
  plain_values : FnAt K f_plain_values (topSt 27) "plain_values" ["members"] 1 []
  clear_hash : FnAt K f_clear_hash (topSt 29) "clear_hash" ["counter", "table_thing"] 2 []
  flat_hash : FnAt K f_flat_hash (topSt 30) "flat_hash" ["table_thing"] 1 []
  fill_hash : FnAt K f_fill_hash (topSt 31) "fill_hash" ["counter", "table_thing", "values"] 3 []
  fill_whole : FnAt K f_fill_whole (topSt 32) "fill_whole" ["counter", "target", "values"] 3 []
  assign_list : FnAt K f_assign_list (topSt 33) "assign_list" ["counter", "targets", "values"] 3 []
  assigned_members : FnAt K f_assigned_members (topSt 34) "assigned_members" ["targets"] 1 []
  held_by : FnAt K f_held_by (topSt 36) "held_by" ["thing"] 1 []
  empty_out : FnAt K f_empty_out (topSt 37) "empty_out" ["thing"] 1 []
  in_order : FnAt K f_in_order (topSt 38) "in_order" ["things"] 1 []
  Counter_init : FnAt K f_Counter_init (inCls 39 0) "Counter.__init__" ["self", "heap", "destroy"] 3 []
  hold : FnAt K f_hold (inCls 39 1) "Counter.hold" ["self", "thing"] 2 []
  let_go : FnAt K f_let_go (inCls 39 2) "Counter.let_go" ["self", "thing"] 2 []
  take : FnAt K f_take (inCls 39 4) "Counter.take" ["self", "value"] 2 []
  put_off : FnAt K f_put_off (inCls 39 5) "Counter.put_off" ["self", "scalar", "value"] 3 []
  store : FnAt K f_store (inCls 39 6) "Counter.store" ["self", "scalar", "value"] 3 []
  fresh : FnAt K f_fresh (inCls 39 7) "Counter.fresh" ["self", "value"] 2 []
  drop : FnAt K f_drop (inCls 39 8) "Counter.drop" ["self", "scalar"] 2 []
  settle : FnAt K f_settle (inCls 39 9) "Counter.settle" ["self", "start"] 2 []
  finish : FnAt K f_finish (inCls 39 10) "Counter.finish" ["self", "thing"] 2 []
  free : FnAt K f_free (inCls 39 11) "Counter.free" ["self", "thing"] 2 []
  Limits_init : ∃ t1 t2 t3 t4 t5, FnAt K f_Limits_init (inCls 41 0) "Limits.__init__" ["self", "width", "depth", "steps", "text", "items"] 1 [.int 64 t1, .int 50 t2, .int 1000000 t3, .int 100000 t4, .int 10000 t5]
  law_told : FnAt K f_law_told (topSt 43) "_law_told" ["value"] 1 []
  law_all : FnAt K f_law_all (topSt 44) "_law_all" ["values"] 1 []
  law_text : FnAt K f_law_text (topSt 45) "_law_text" ["value"] 1 []
  law_paired : FnAt K f_law_paired (topSt 46) "_law_paired" ["values"] 1 []
  law_flat : FnAt K f_law_flat (topSt 47) "_law_flat" ["pairs"] 1 []
  law_sources : FnAt K f_law_sources (topSt 48) "_law_sources" ["n", "things", "thing"] 3 []
  law_targets : FnAt K f_law_targets (topSt 49) "_law_targets" ["n"] 1 []
  law_assigned : FnAt K f_law_assigned (topSt 50) "_law_assigned" ["state", "goals", "values"] 3 []
  law_members : FnAt K f_law_members (topSt 51) "_law_members" ["state", "goals"] 2 []
  law : FnAt K f_law (topSt 52) "law" ["script"] 1 []
section
variable {K : Frag} (P : PF K)
include P
theorem PF.parts : (∀ p ∈ attrL, attrOk K p.1 p.2 = true) ∧ (∀ p ∈ attrL, setOk K p.1 p.2 = true) ∧ (∀ p ∈ methL, methOk K p.1 p.2.1 p.2.2 = true) ∧ (∀ p ∈ makeL, makeOk K p.1 p.2 = true) ∧ cmethOk K cThing "__init__" f_Thing_init = true ∧
    (∀ p ∈ isaL, isaOk K p.1 p.2 = true) ∧ (∀ p ∈ naL, naOk K p.1 p.2 = true) ∧ (∀ p ∈ notL, isNotIn K p.1 p.2 = true) ∧ (∀ p ∈ globL, nsIn K mainGlobals p.1 = some (some (.ref p.2)) ∧ keepIn K (.ref p.2) = true) ∧ (∀ n ∈ builtL, nsIn K mainGlobals n = some none) := by
  have h := P.chk
  unfold chkK at h
  simp only [Bool.and_eq_true, List.all_eq_true, beq_iff_eq] at h
  obtain ⟨⟨⟨⟨⟨⟨⟨⟨⟨h1, h2⟩, h3⟩, h4⟩, h5⟩, h6⟩, h7⟩, h8⟩, h9⟩, h10⟩ := h
  exact ⟨h1, h2, h3, h4, h5, h6, h7, h8, h9, h10⟩
theorem PF.attr {C : Addr} {n : Str} (h : (C, n) ∈ attrL) : attrOk K C n = true := P.parts.1 (C, n) h
theorem PF.set {C : Addr} {n : Str} (h : (C, n) ∈ attrL) : setOk K C n = true := P.parts.2.1 (C, n) h
theorem PF.meth {C f : Addr} {n : Str} (h : (C, n, f) ∈ methL) : methOk K C n f = true := P.parts.2.2.1 (C, n, f) h
theorem PF.make {C f : Addr} (h : (C, f) ∈ makeL) : makeOk K C f = true := P.parts.2.2.2.1 (C, f) h
theorem PF.cmeth : cmethOk K cThing "__init__" f_Thing_init = true := P.parts.2.2.2.2.1
theorem PF.isa {C D : Addr} (h : (C, D) ∈ isaL) : isaOk K C D = true := P.parts.2.2.2.2.2.1 (C, D) h
theorem PF.na {C D : Addr} (h : (C, D) ∈ naL) : naOk K C D = true := P.parts.2.2.2.2.2.2.1 (C, D) h
theorem PF.nin {T : String} {D : Addr} (h : (T, D) ∈ notL) : isNotIn K T D = true := P.parts.2.2.2.2.2.2.2.1 (T, D) h
theorem PF.glob {n : Str} {f : Addr} (h : (n, f) ∈ globL) : nsIn K mainGlobals n = some (some (.ref f)) := (P.parts.2.2.2.2.2.2.2.2.1 (n, f) h).1
theorem PF.keep {n : Str} {f : Addr} (h : (n, f) ∈ globL) : keepIn K (.ref f) = true := (P.parts.2.2.2.2.2.2.2.2.1 (n, f) h).2
theorem PF.keepB {f : Addr} (h : globL.any (fun p => p.2 == f) = true) : keepIn K (.ref f) = true := by
  obtain ⟨p, hp, e⟩ := List.any_eq_true.mp h
  have := (P.parts.2.2.2.2.2.2.2.2.1 p hp).2
  rwa [eq_of_beq e] at this
theorem PF.built {n : Str} (h : n ∈ builtL) : nsIn K mainGlobals n = some none := P.parts.2.2.2.2.2.2.2.2.2 n h
end
theorem b_isinstance : bootBuiltins "isinstance" = some (.builtin "isinstance") := by boot_fast
theorem b_len : bootBuiltins "len" = some (.builtin "len") := by boot_fast
theorem b_sorted : bootBuiltins "sorted" = some (.builtin "sorted") := by boot_fast
theorem b_list : bootBuiltins "list" = some (.type "list") := by boot_fast
theorem b_int : bootBuiltins "int" = some (.type "int") := by boot_fast
theorem b_str : bootBuiltins "str" = some (.type "str") := by boot_fast
theorem b_range : bootBuiltins "range" = some (.type "range") := by boot_fast

noncomputable def S_number_text : Scope := stScope (topSt 3)
noncomputable def B_number_text : List Stmt := stBody (topSt 3)
theorem fn_number_text {W : Wd} {d : Nat} {H H' : List O} {x0 v : V} {o : Out} {ρ' : Loc} (P : PF W.K) (x : Ex W (d - 1) S_number_text [(Str.ofString "n", x0)] H B_number_text o ρ' H') (hv : o = some v ∨ (o = none ∧ v = .none)) (hd : 1 ≤ d) : Fn W d H (.ref f_number_text) [x0] v H' := fn_of (names := [Str.ofString "n"]) (ds := []) P.number_text hd rfl (fun _ => .nil) (by decide +kernel) (by decide +kernel) x hv rfl rfl rfl
noncomputable def S_Thing_init : Scope := stScope (inCls 6 0)
noncomputable def B_Thing_init : List Stmt := stBody (inCls 6 0)
theorem fn_Thing_init {W : Wd} {d : Nat} {H H' : List O} {x0 x1 v : V} {o : Out} {ρ' : Loc} (P : PF W.K) (x : Ex W (d - 1) S_Thing_init [(Str.ofString "self", x0), (Str.ofString "number", x1)] H B_Thing_init o ρ' H') (hv : o = some v ∨ (o = none ∧ v = .none)) (hd : 1 ≤ d) : Fn W d H (.ref f_Thing_init) [x0, x1] v H' := fn_of (names := [Str.ofString "self", Str.ofString "number"]) (ds := []) P.Thing_init hd rfl (fun _ => .nil) (by decide +kernel) (by decide +kernel) x hv rfl rfl rfl
noncomputable def S_Scalar_init : Scope := stScope (inCls 7 0)
noncomputable def B_Scalar_init : List Stmt := stBody (inCls 7 0)
theorem fn_Scalar_init {W : Wd} {d : Nat} {H H' : List O} {x0 x1 x2 v : V} {o : Out} {ρ' : Loc} (P : PF W.K) (x : Ex W (d - 1) S_Scalar_init [(Str.ofString "self", x0), (Str.ofString "number", x1), (Str.ofString "value", x2)] H B_Scalar_init o ρ' H') (hv : o = some v ∨ (o = none ∧ v = .none)) (hd : 1 ≤ d) : Fn W d H (.ref f_Scalar_init) [x0, x1, x2] v H' := fn_of (names := [Str.ofString "self", Str.ofString "number", Str.ofString "value"]) (ds := []) P.Scalar_init hd rfl (fun _ => .nil) (by decide +kernel) (by decide +kernel) x hv rfl rfl rfl
noncomputable def S_Array_init : Scope := stScope (inCls 8 0)
noncomputable def B_Array_init : List Stmt := stBody (inCls 8 0)
theorem fn_Array_init {W : Wd} {d : Nat} {H H' : List O} {x0 x1 v : V} {o : Out} {ρ' : Loc} (P : PF W.K) (x : Ex W (d - 1) S_Array_init [(Str.ofString "self", x0), (Str.ofString "number", x1)] H B_Array_init o ρ' H') (hv : o = some v ∨ (o = none ∧ v = .none)) (hd : 1 ≤ d) : Fn W d H (.ref f_Array_init) [x0, x1] v H' := fn_of (names := [Str.ofString "self", Str.ofString "number"]) (ds := []) P.Array_init hd rfl (fun _ => .nil) (by decide +kernel) (by decide +kernel) x hv rfl rfl rfl
noncomputable def S_Hash_init : Scope := stScope (inCls 9 0)
noncomputable def B_Hash_init : List Stmt := stBody (inCls 9 0)
theorem fn_Hash_init {W : Wd} {d : Nat} {H H' : List O} {x0 x1 v : V} {o : Out} {ρ' : Loc} (P : PF W.K) (x : Ex W (d - 1) S_Hash_init [(Str.ofString "self", x0), (Str.ofString "number", x1)] H B_Hash_init o ρ' H') (hv : o = some v ∨ (o = none ∧ v = .none)) (hd : 1 ≤ d) : Fn W d H (.ref f_Hash_init) [x0, x1] v H' := fn_of (names := [Str.ofString "self", Str.ofString "number"]) (ds := []) P.Hash_init hd rfl (fun _ => .nil) (by decide +kernel) (by decide +kernel) x hv rfl rfl rfl
noncomputable def S_Ref_init : Scope := stScope (inCls 12 0)
noncomputable def B_Ref_init : List Stmt := stBody (inCls 12 0)
theorem fn_Ref_init {W : Wd} {d : Nat} {H H' : List O} {x0 x1 v : V} {o : Out} {ρ' : Loc} (P : PF W.K) (x : Ex W (d - 1) S_Ref_init [(Str.ofString "self", x0), (Str.ofString "target", x1), (Str.ofString "is_weak", (.bool false))] H B_Ref_init o ρ' H') (hv : o = some v ∨ (o = none ∧ v = .none)) (hd : 1 ≤ d) : Fn W d H (.ref f_Ref_init) [x0, x1] v H' := fn_of (names := [Str.ofString "self", Str.ofString "target", Str.ofString "is_weak"]) (ds := [.bool false]) P.Ref_init hd rfl (fun φ => .cons (.bool _) .nil) (by decide +kernel) (by decide +kernel) x hv rfl rfl rfl
noncomputable def S_Heap_init : Scope := stScope (inCls 13 0)
noncomputable def B_Heap_init : List Stmt := stBody (inCls 13 0)
theorem fn_Heap_init {W : Wd} {d : Nat} {H H' : List O} {x0 x1 v : V} {o : Out} {ρ' : Loc} (P : PF W.K) (x : Ex W (d - 1) S_Heap_init [(Str.ofString "self", x0), (Str.ofString "limits", x1)] H B_Heap_init o ρ' H') (hv : o = some v ∨ (o = none ∧ v = .none)) (hd : 1 ≤ d) : Fn W d H (.ref f_Heap_init) [x0, x1] v H' := fn_of (names := [Str.ofString "self", Str.ofString "limits"]) (ds := []) P.Heap_init hd rfl (fun _ => .nil) (by decide +kernel) (by decide +kernel) x hv rfl rfl rfl
noncomputable def S_next_number : Scope := stScope (inCls 13 1)
noncomputable def B_next_number : List Stmt := stBody (inCls 13 1)
theorem fn_next_number {W : Wd} {d : Nat} {H H' : List O} {x0 v : V} {o : Out} {ρ' : Loc} (P : PF W.K) (x : Ex W (d - 1) S_next_number [(Str.ofString "self", x0)] H B_next_number o ρ' H') (hv : o = some v ∨ (o = none ∧ v = .none)) (hd : 1 ≤ d) : Fn W d H (.ref f_next_number) [x0] v H' := fn_of (names := [Str.ofString "self"]) (ds := []) P.next_number hd rfl (fun _ => .nil) (by decide +kernel) (by decide +kernel) x hv rfl rfl rfl
noncomputable def S_new_scalar : Scope := stScope (inCls 13 2)
noncomputable def B_new_scalar : List Stmt := stBody (inCls 13 2)
theorem fn_new_scalar {W : Wd} {d : Nat} {H H' : List O} {x0 x1 v : V} {o : Out} {ρ' : Loc} (P : PF W.K) (x : Ex W (d - 1) S_new_scalar [(Str.ofString "self", x0), (Str.ofString "value", x1)] H B_new_scalar o ρ' H') (hv : o = some v ∨ (o = none ∧ v = .none)) (hd : 1 ≤ d) : Fn W d H (.ref f_new_scalar) [x0, x1] v H' := fn_of (names := [Str.ofString "self", Str.ofString "value"]) (ds := []) P.new_scalar hd rfl (fun _ => .nil) (by decide +kernel) (by decide +kernel) x hv rfl rfl rfl
noncomputable def S_new_array : Scope := stScope (inCls 13 3)
noncomputable def B_new_array : List Stmt := stBody (inCls 13 3)
theorem fn_new_array {W : Wd} {d : Nat} {H H' : List O} {x0 v : V} {o : Out} {ρ' : Loc} (P : PF W.K) (x : Ex W (d - 1) S_new_array [(Str.ofString "self", x0)] H B_new_array o ρ' H') (hv : o = some v ∨ (o = none ∧ v = .none)) (hd : 1 ≤ d) : Fn W d H (.ref f_new_array) [x0] v H' := fn_of (names := [Str.ofString "self"]) (ds := []) P.new_array hd rfl (fun _ => .nil) (by decide +kernel) (by decide +kernel) x hv rfl rfl rfl
noncomputable def S_new_hash : Scope := stScope (inCls 13 4)
noncomputable def B_new_hash : List Stmt := stBody (inCls 13 4)
theorem fn_new_hash {W : Wd} {d : Nat} {H H' : List O} {x0 v : V} {o : Out} {ρ' : Loc} (P : PF W.K) (x : Ex W (d - 1) S_new_hash [(Str.ofString "self", x0)] H B_new_hash o ρ' H') (hv : o = some v ∨ (o = none ∧ v = .none)) (hd : 1 ≤ d) : Fn W d H (.ref f_new_hash) [x0] v H' := fn_of (names := [Str.ofString "self"]) (ds := []) P.new_hash hd rfl (fun _ => .nil) (by decide +kernel) (by decide +kernel) x hv rfl rfl rfl
noncomputable def S_value_of : Scope := stScope (topSt 18)
noncomputable def B_value_of : List Stmt := stBody (topSt 18)
theorem fn_value_of {W : Wd} {d : Nat} {H H' : List O} {x0 v : V} {o : Out} {ρ' : Loc} (P : PF W.K) (x : Ex W (d - 1) S_value_of [(Str.ofString "x", x0)] H B_value_of o ρ' H') (hv : o = some v ∨ (o = none ∧ v = .none)) (hd : 1 ≤ d) : Fn W d H (.ref f_value_of) [x0] v H' := fn_of (names := [Str.ofString "x"]) (ds := []) P.value_of hd rfl (fun _ => .nil) (by decide +kernel) (by decide +kernel) x hv rfl rfl rfl
noncomputable def S_to_text : Scope := stScope (topSt 19)
noncomputable def B_to_text : List Stmt := stBody (topSt 19)
theorem fn_to_text {W : Wd} {d : Nat} {H H' : List O} {x0 v : V} {o : Out} {ρ' : Loc} (P : PF W.K) (x : Ex W (d - 1) S_to_text [(Str.ofString "value", x0)] H B_to_text o ρ' H') (hv : o = some v ∨ (o = none ∧ v = .none)) (hd : 1 ≤ d) : Fn W d H (.ref f_to_text) [x0] v H' := fn_of (names := [Str.ofString "value"]) (ds := []) P.to_text hd rfl (fun _ => .nil) (by decide +kernel) (by decide +kernel) x hv rfl rfl rfl
noncomputable def S_fresh_scalars : Scope := stScope (topSt 21)
noncomputable def B_fresh_scalars : List Stmt := stBody (topSt 21)
theorem fn_fresh_scalars {W : Wd} {d : Nat} {H H' : List O} {x0 x1 v : V} {o : Out} {ρ' : Loc} (P : PF W.K) (x : Ex W (d - 1) S_fresh_scalars [(Str.ofString "counter", x0), (Str.ofString "values", x1)] H B_fresh_scalars o ρ' H') (hv : o = some v ∨ (o = none ∧ v = .none)) (hd : 1 ≤ d) : Fn W d H (.ref f_fresh_scalars) [x0, x1] v H' := fn_of (names := [Str.ofString "counter", Str.ofString "values"]) (ds := []) P.fresh_scalars hd rfl (fun _ => .nil) (by decide +kernel) (by decide +kernel) x hv rfl rfl rfl
noncomputable def S_drop_member : Scope := stScope (topSt 22)
noncomputable def B_drop_member : List Stmt := stBody (topSt 22)
theorem fn_drop_member {W : Wd} {d : Nat} {H H' : List O} {x0 x1 v : V} {o : Out} {ρ' : Loc} (P : PF W.K) (x : Ex W (d - 1) S_drop_member [(Str.ofString "counter", x0), (Str.ofString "member", x1)] H B_drop_member o ρ' H') (hv : o = some v ∨ (o = none ∧ v = .none)) (hd : 1 ≤ d) : Fn W d H (.ref f_drop_member) [x0, x1] v H' := fn_of (names := [Str.ofString "counter", Str.ofString "member"]) (ds := []) P.drop_member hd rfl (fun _ => .nil) (by decide +kernel) (by decide +kernel) x hv rfl rfl rfl
noncomputable def S_drop_members : Scope := stScope (topSt 23)
noncomputable def B_drop_members : List Stmt := stBody (topSt 23)
theorem fn_drop_members {W : Wd} {d : Nat} {H H' : List O} {x0 x1 v : V} {o : Out} {ρ' : Loc} (P : PF W.K) (x : Ex W (d - 1) S_drop_members [(Str.ofString "counter", x0), (Str.ofString "members", x1)] H B_drop_members o ρ' H') (hv : o = some v ∨ (o = none ∧ v = .none)) (hd : 1 ≤ d) : Fn W d H (.ref f_drop_members) [x0, x1] v H' := fn_of (names := [Str.ofString "counter", Str.ofString "members"]) (ds := []) P.drop_members hd rfl (fun _ => .nil) (by decide +kernel) (by decide +kernel) x hv rfl rfl rfl
noncomputable def S_clear_array : Scope := stScope (topSt 24)
noncomputable def B_clear_array : List Stmt := stBody (topSt 24)
theorem fn_clear_array {W : Wd} {d : Nat} {H H' : List O} {x0 x1 v : V} {o : Out} {ρ' : Loc} (P : PF W.K) (x : Ex W (d - 1) S_clear_array [(Str.ofString "counter", x0), (Str.ofString "array", x1)] H B_clear_array o ρ' H') (hv : o = some v ∨ (o = none ∧ v = .none)) (hd : 1 ≤ d) : Fn W d H (.ref f_clear_array) [x0, x1] v H' := fn_of (names := [Str.ofString "counter", Str.ofString "array"]) (ds := []) P.clear_array hd rfl (fun _ => .nil) (by decide +kernel) (by decide +kernel) x hv rfl rfl rfl
noncomputable def S_fill_array : Scope := stScope (topSt 25)
noncomputable def B_fill_array : List Stmt := stBody (topSt 25)
theorem fn_fill_array {W : Wd} {d : Nat} {H H' : List O} {x0 x1 x2 v : V} {o : Out} {ρ' : Loc} (P : PF W.K) (x : Ex W (d - 1) S_fill_array [(Str.ofString "counter", x0), (Str.ofString "array", x1), (Str.ofString "values", x2)] H B_fill_array o ρ' H') (hv : o = some v ∨ (o = none ∧ v = .none)) (hd : 1 ≤ d) : Fn W d H (.ref f_fill_array) [x0, x1, x2] v H' := fn_of (names := [Str.ofString "counter", Str.ofString "array", Str.ofString "values"]) (ds := []) P.fill_array hd rfl (fun _ => .nil) (by decide +kernel) (by decide +kernel) x hv rfl rfl rfl
noncomputable def S_array_values : Scope := stScope (topSt 26)
noncomputable def B_array_values : List Stmt := stBody (topSt 26)
theorem fn_array_values {W : Wd} {d : Nat} {H H' : List O} {x0 v : V} {o : Out} {ρ' : Loc} (P : PF W.K) (x : Ex W (d - 1) S_array_values [(Str.ofString "array", x0)] H B_array_values o ρ' H') (hv : o = some v ∨ (o = none ∧ v = .none)) (hd : 1 ≤ d) : Fn W d H (.ref f_array_values) [x0] v H' := fn_of (names := [Str.ofString "array"]) (ds := []) P.array_values hd rfl (fun _ => .nil) (by decide +kernel) (by decide +kernel) x hv rfl rfl rfl
noncomputable def S_plain_values : Scope := stScope (topSt 27)
noncomputable def B_plain_values : List Stmt := stBody (topSt 27)
theorem fn_plain_values {W : Wd} {d : Nat} {H H' : List O} {x0 v : V} {o : Out} {ρ' : Loc} (P : PF W.K) (x : Ex W (d - 1) S_plain_values [(Str.ofString "members", x0)] H B_plain_values o ρ' H') (hv : o = some v ∨ (o = none ∧ v = .none)) (hd : 1 ≤ d) : Fn W d H (.ref f_plain_values) [x0] v H' := fn_of (names := [Str.ofString "members"]) (ds := []) P.plain_values hd rfl (fun _ => .nil) (by decide +kernel) (by decide +kernel) x hv rfl rfl rfl
noncomputable def S_clear_hash : Scope := stScope (topSt 29)
noncomputable def B_clear_hash : List Stmt := stBody (topSt 29)
theorem fn_clear_hash {W : Wd} {d : Nat} {H H' : List O} {x0 x1 v : V} {o : Out} {ρ' : Loc} (P : PF W.K) (x : Ex W (d - 1) S_clear_hash [(Str.ofString "counter", x0), (Str.ofString "table_thing", x1)] H B_clear_hash o ρ' H') (hv : o = some v ∨ (o = none ∧ v = .none)) (hd : 1 ≤ d) : Fn W d H (.ref f_clear_hash) [x0, x1] v H' := fn_of (names := [Str.ofString "counter", Str.ofString "table_thing"]) (ds := []) P.clear_hash hd rfl (fun _ => .nil) (by decide +kernel) (by decide +kernel) x hv rfl rfl rfl
noncomputable def S_flat_hash : Scope := stScope (topSt 30)
noncomputable def B_flat_hash : List Stmt := stBody (topSt 30)
theorem fn_flat_hash {W : Wd} {d : Nat} {H H' : List O} {x0 v : V} {o : Out} {ρ' : Loc} (P : PF W.K) (x : Ex W (d - 1) S_flat_hash [(Str.ofString "table_thing", x0)] H B_flat_hash o ρ' H') (hv : o = some v ∨ (o = none ∧ v = .none)) (hd : 1 ≤ d) : Fn W d H (.ref f_flat_hash) [x0] v H' := fn_of (names := [Str.ofString "table_thing"]) (ds := []) P.flat_hash hd rfl (fun _ => .nil) (by decide +kernel) (by decide +kernel) x hv rfl rfl rfl
noncomputable def S_fill_hash : Scope := stScope (topSt 31)
noncomputable def B_fill_hash : List Stmt := stBody (topSt 31)
theorem fn_fill_hash {W : Wd} {d : Nat} {H H' : List O} {x0 x1 x2 v : V} {o : Out} {ρ' : Loc} (P : PF W.K) (x : Ex W (d - 1) S_fill_hash [(Str.ofString "counter", x0), (Str.ofString "table_thing", x1), (Str.ofString "values", x2)] H B_fill_hash o ρ' H') (hv : o = some v ∨ (o = none ∧ v = .none)) (hd : 1 ≤ d) : Fn W d H (.ref f_fill_hash) [x0, x1, x2] v H' := fn_of (names := [Str.ofString "counter", Str.ofString "table_thing", Str.ofString "values"]) (ds := []) P.fill_hash hd rfl (fun _ => .nil) (by decide +kernel) (by decide +kernel) x hv rfl rfl rfl
noncomputable def S_fill_whole : Scope := stScope (topSt 32)
noncomputable def B_fill_whole : List Stmt := stBody (topSt 32)
theorem fn_fill_whole {W : Wd} {d : Nat} {H H' : List O} {x0 x1 x2 v : V} {o : Out} {ρ' : Loc} (P : PF W.K) (x : Ex W (d - 1) S_fill_whole [(Str.ofString "counter", x0), (Str.ofString "target", x1), (Str.ofString "values", x2)] H B_fill_whole o ρ' H') (hv : o = some v ∨ (o = none ∧ v = .none)) (hd : 1 ≤ d) : Fn W d H (.ref f_fill_whole) [x0, x1, x2] v H' := fn_of (names := [Str.ofString "counter", Str.ofString "target", Str.ofString "values"]) (ds := []) P.fill_whole hd rfl (fun _ => .nil) (by decide +kernel) (by decide +kernel) x hv rfl rfl rfl
noncomputable def S_assign_list : Scope := stScope (topSt 33)
noncomputable def B_assign_list : List Stmt := stBody (topSt 33)
theorem fn_assign_list {W : Wd} {d : Nat} {H H' : List O} {x0 x1 x2 v : V} {o : Out} {ρ' : Loc} (P : PF W.K) (x : Ex W (d - 1) S_assign_list [(Str.ofString "counter", x0), (Str.ofString "targets", x1), (Str.ofString "values", x2)] H B_assign_list o ρ' H') (hv : o = some v ∨ (o = none ∧ v = .none)) (hd : 1 ≤ d) : Fn W d H (.ref f_assign_list) [x0, x1, x2] v H' := fn_of (names := [Str.ofString "counter", Str.ofString "targets", Str.ofString "values"]) (ds := []) P.assign_list hd rfl (fun _ => .nil) (by decide +kernel) (by decide +kernel) x hv rfl rfl rfl
noncomputable def S_assigned_members : Scope := stScope (topSt 34)
noncomputable def B_assigned_members : List Stmt := stBody (topSt 34)
theorem fn_assigned_members {W : Wd} {d : Nat} {H H' : List O} {x0 v : V} {o : Out} {ρ' : Loc} (P : PF W.K) (x : Ex W (d - 1) S_assigned_members [(Str.ofString "targets", x0)] H B_assigned_members o ρ' H') (hv : o = some v ∨ (o = none ∧ v = .none)) (hd : 1 ≤ d) : Fn W d H (.ref f_assigned_members) [x0] v H' := fn_of (names := [Str.ofString "targets"]) (ds := []) P.assigned_members hd rfl (fun _ => .nil) (by decide +kernel) (by decide +kernel) x hv rfl rfl rfl
noncomputable def S_held_by : Scope := stScope (topSt 36)
noncomputable def B_held_by : List Stmt := stBody (topSt 36)
theorem fn_held_by {W : Wd} {d : Nat} {H H' : List O} {x0 v : V} {o : Out} {ρ' : Loc} (P : PF W.K) (x : Ex W (d - 1) S_held_by [(Str.ofString "thing", x0)] H B_held_by o ρ' H') (hv : o = some v ∨ (o = none ∧ v = .none)) (hd : 1 ≤ d) : Fn W d H (.ref f_held_by) [x0] v H' := fn_of (names := [Str.ofString "thing"]) (ds := []) P.held_by hd rfl (fun _ => .nil) (by decide +kernel) (by decide +kernel) x hv rfl rfl rfl
noncomputable def S_empty_out : Scope := stScope (topSt 37)
noncomputable def B_empty_out : List Stmt := stBody (topSt 37)
theorem fn_empty_out {W : Wd} {d : Nat} {H H' : List O} {x0 v : V} {o : Out} {ρ' : Loc} (P : PF W.K) (x : Ex W (d - 1) S_empty_out [(Str.ofString "thing", x0)] H B_empty_out o ρ' H') (hv : o = some v ∨ (o = none ∧ v = .none)) (hd : 1 ≤ d) : Fn W d H (.ref f_empty_out) [x0] v H' := fn_of (names := [Str.ofString "thing"]) (ds := []) P.empty_out hd rfl (fun _ => .nil) (by decide +kernel) (by decide +kernel) x hv rfl rfl rfl
noncomputable def S_in_order : Scope := stScope (topSt 38)
noncomputable def B_in_order : List Stmt := stBody (topSt 38)
theorem fn_in_order {W : Wd} {d : Nat} {H H' : List O} {x0 v : V} {o : Out} {ρ' : Loc} (P : PF W.K) (x : Ex W (d - 1) S_in_order [(Str.ofString "things", x0)] H B_in_order o ρ' H') (hv : o = some v ∨ (o = none ∧ v = .none)) (hd : 1 ≤ d) : Fn W d H (.ref f_in_order) [x0] v H' := fn_of (names := [Str.ofString "things"]) (ds := []) P.in_order hd rfl (fun _ => .nil) (by decide +kernel) (by decide +kernel) x hv rfl rfl rfl
noncomputable def S_Counter_init : Scope := stScope (inCls 39 0)
noncomputable def B_Counter_init : List Stmt := stBody (inCls 39 0)
theorem fn_Counter_init {W : Wd} {d : Nat} {H H' : List O} {x0 x1 x2 v : V} {o : Out} {ρ' : Loc} (P : PF W.K) (x : Ex W (d - 1) S_Counter_init [(Str.ofString "self", x0), (Str.ofString "heap", x1), (Str.ofString "destroy", x2)] H B_Counter_init o ρ' H') (hv : o = some v ∨ (o = none ∧ v = .none)) (hd : 1 ≤ d) : Fn W d H (.ref f_Counter_init) [x0, x1, x2] v H' := fn_of (names := [Str.ofString "self", Str.ofString "heap", Str.ofString "destroy"]) (ds := []) P.Counter_init hd rfl (fun _ => .nil) (by decide +kernel) (by decide +kernel) x hv rfl rfl rfl
noncomputable def S_hold : Scope := stScope (inCls 39 1)
noncomputable def B_hold : List Stmt := stBody (inCls 39 1)
theorem fn_hold {W : Wd} {d : Nat} {H H' : List O} {x0 x1 v : V} {o : Out} {ρ' : Loc} (P : PF W.K) (x : Ex W (d - 1) S_hold [(Str.ofString "self", x0), (Str.ofString "thing", x1)] H B_hold o ρ' H') (hv : o = some v ∨ (o = none ∧ v = .none)) (hd : 1 ≤ d) : Fn W d H (.ref f_hold) [x0, x1] v H' := fn_of (names := [Str.ofString "self", Str.ofString "thing"]) (ds := []) P.hold hd rfl (fun _ => .nil) (by decide +kernel) (by decide +kernel) x hv rfl rfl rfl
noncomputable def S_let_go : Scope := stScope (inCls 39 2)
noncomputable def B_let_go : List Stmt := stBody (inCls 39 2)
theorem fn_let_go {W : Wd} {d : Nat} {H H' : List O} {x0 x1 v : V} {o : Out} {ρ' : Loc} (P : PF W.K) (x : Ex W (d - 1) S_let_go [(Str.ofString "self", x0), (Str.ofString "thing", x1)] H B_let_go o ρ' H') (hv : o = some v ∨ (o = none ∧ v = .none)) (hd : 1 ≤ d) : Fn W d H (.ref f_let_go) [x0, x1] v H' := fn_of (names := [Str.ofString "self", Str.ofString "thing"]) (ds := []) P.let_go hd rfl (fun _ => .nil) (by decide +kernel) (by decide +kernel) x hv rfl rfl rfl
noncomputable def S_take : Scope := stScope (inCls 39 4)
noncomputable def B_take : List Stmt := stBody (inCls 39 4)
theorem fn_take {W : Wd} {d : Nat} {H H' : List O} {x0 x1 v : V} {o : Out} {ρ' : Loc} (P : PF W.K) (x : Ex W (d - 1) S_take [(Str.ofString "self", x0), (Str.ofString "value", x1)] H B_take o ρ' H') (hv : o = some v ∨ (o = none ∧ v = .none)) (hd : 1 ≤ d) : Fn W d H (.ref f_take) [x0, x1] v H' := fn_of (names := [Str.ofString "self", Str.ofString "value"]) (ds := []) P.take hd rfl (fun _ => .nil) (by decide +kernel) (by decide +kernel) x hv rfl rfl rfl
noncomputable def S_put_off : Scope := stScope (inCls 39 5)
noncomputable def B_put_off : List Stmt := stBody (inCls 39 5)
theorem fn_put_off {W : Wd} {d : Nat} {H H' : List O} {x0 x1 x2 v : V} {o : Out} {ρ' : Loc} (P : PF W.K) (x : Ex W (d - 1) S_put_off [(Str.ofString "self", x0), (Str.ofString "scalar", x1), (Str.ofString "value", x2)] H B_put_off o ρ' H') (hv : o = some v ∨ (o = none ∧ v = .none)) (hd : 1 ≤ d) : Fn W d H (.ref f_put_off) [x0, x1, x2] v H' := fn_of (names := [Str.ofString "self", Str.ofString "scalar", Str.ofString "value"]) (ds := []) P.put_off hd rfl (fun _ => .nil) (by decide +kernel) (by decide +kernel) x hv rfl rfl rfl
noncomputable def S_store : Scope := stScope (inCls 39 6)
noncomputable def B_store : List Stmt := stBody (inCls 39 6)
theorem fn_store {W : Wd} {d : Nat} {H H' : List O} {x0 x1 x2 v : V} {o : Out} {ρ' : Loc} (P : PF W.K) (x : Ex W (d - 1) S_store [(Str.ofString "self", x0), (Str.ofString "scalar", x1), (Str.ofString "value", x2)] H B_store o ρ' H') (hv : o = some v ∨ (o = none ∧ v = .none)) (hd : 1 ≤ d) : Fn W d H (.ref f_store) [x0, x1, x2] v H' := fn_of (names := [Str.ofString "self", Str.ofString "scalar", Str.ofString "value"]) (ds := []) P.store hd rfl (fun _ => .nil) (by decide +kernel) (by decide +kernel) x hv rfl rfl rfl
noncomputable def S_fresh : Scope := stScope (inCls 39 7)
noncomputable def B_fresh : List Stmt := stBody (inCls 39 7)
theorem fn_fresh {W : Wd} {d : Nat} {H H' : List O} {x0 x1 v : V} {o : Out} {ρ' : Loc} (P : PF W.K) (x : Ex W (d - 1) S_fresh [(Str.ofString "self", x0), (Str.ofString "value", x1)] H B_fresh o ρ' H') (hv : o = some v ∨ (o = none ∧ v = .none)) (hd : 1 ≤ d) : Fn W d H (.ref f_fresh) [x0, x1] v H' := fn_of (names := [Str.ofString "self", Str.ofString "value"]) (ds := []) P.fresh hd rfl (fun _ => .nil) (by decide +kernel) (by decide +kernel) x hv rfl rfl rfl
noncomputable def S_drop : Scope := stScope (inCls 39 8)
noncomputable def B_drop : List Stmt := stBody (inCls 39 8)
theorem fn_drop {W : Wd} {d : Nat} {H H' : List O} {x0 x1 v : V} {o : Out} {ρ' : Loc} (P : PF W.K) (x : Ex W (d - 1) S_drop [(Str.ofString "self", x0), (Str.ofString "scalar", x1)] H B_drop o ρ' H') (hv : o = some v ∨ (o = none ∧ v = .none)) (hd : 1 ≤ d) : Fn W d H (.ref f_drop) [x0, x1] v H' := fn_of (names := [Str.ofString "self", Str.ofString "scalar"]) (ds := []) P.drop hd rfl (fun _ => .nil) (by decide +kernel) (by decide +kernel) x hv rfl rfl rfl
noncomputable def S_settle : Scope := stScope (inCls 39 9)
noncomputable def B_settle : List Stmt := stBody (inCls 39 9)
theorem fn_settle {W : Wd} {d : Nat} {H H' : List O} {x0 x1 v : V} {o : Out} {ρ' : Loc} (P : PF W.K) (x : Ex W (d - 1) S_settle [(Str.ofString "self", x0), (Str.ofString "start", x1)] H B_settle o ρ' H') (hv : o = some v ∨ (o = none ∧ v = .none)) (hd : 1 ≤ d) : Fn W d H (.ref f_settle) [x0, x1] v H' := fn_of (names := [Str.ofString "self", Str.ofString "start"]) (ds := []) P.settle hd rfl (fun _ => .nil) (by decide +kernel) (by decide +kernel) x hv rfl rfl rfl
noncomputable def S_finish : Scope := stScope (inCls 39 10)
noncomputable def B_finish : List Stmt := stBody (inCls 39 10)
theorem fn_finish {W : Wd} {d : Nat} {H H' : List O} {x0 x1 v : V} {o : Out} {ρ' : Loc} (P : PF W.K) (x : Ex W (d - 1) S_finish [(Str.ofString "self", x0), (Str.ofString "thing", x1)] H B_finish o ρ' H') (hv : o = some v ∨ (o = none ∧ v = .none)) (hd : 1 ≤ d) : Fn W d H (.ref f_finish) [x0, x1] v H' := fn_of (names := [Str.ofString "self", Str.ofString "thing"]) (ds := []) P.finish hd rfl (fun _ => .nil) (by decide +kernel) (by decide +kernel) x hv rfl rfl rfl
noncomputable def S_free : Scope := stScope (inCls 39 11)
noncomputable def B_free : List Stmt := stBody (inCls 39 11)
theorem fn_free {W : Wd} {d : Nat} {H H' : List O} {x0 x1 v : V} {o : Out} {ρ' : Loc} (P : PF W.K) (x : Ex W (d - 1) S_free [(Str.ofString "self", x0), (Str.ofString "thing", x1)] H B_free o ρ' H') (hv : o = some v ∨ (o = none ∧ v = .none)) (hd : 1 ≤ d) : Fn W d H (.ref f_free) [x0, x1] v H' := fn_of (names := [Str.ofString "self", Str.ofString "thing"]) (ds := []) P.free hd rfl (fun _ => .nil) (by decide +kernel) (by decide +kernel) x hv rfl rfl rfl
noncomputable def S_Limits_init : Scope := stScope (inCls 41 0)
noncomputable def B_Limits_init : List Stmt := stBody (inCls 41 0)
theorem fn_Limits_init {W : Wd} {d : Nat} {H H' : List O} {x0 v : V} {o : Out} {ρ' : Loc} (P : PF W.K) (x : Ex W (d - 1) S_Limits_init [(Str.ofString "self", x0), (Str.ofString "width", (.int 64)), (Str.ofString "depth", (.int 50)), (Str.ofString "steps", (.int (10 ^ 6))), (Str.ofString "text", (.int (10 ^ 5))), (Str.ofString "items", (.int (10 ^ 4)))] H B_Limits_init o ρ' H') (hv : o = some v ∨ (o = none ∧ v = .none)) (hd : 1 ≤ d) : Fn W d H (.ref f_Limits_init) [x0] v H' := by
  obtain ⟨t1, t2, t3, t4, t5, P⟩ := P.Limits_init
  exact fn_of (names := [Str.ofString "self", Str.ofString "width", Str.ofString "depth", Str.ofString "steps", Str.ofString "text", Str.ofString "items"]) (ds := [.int 64, .int 50, .int (10 ^ 6), .int (10 ^ 5), .int (10 ^ 4)]) P hd rfl (fun φ => .cons (.int _ _) (.cons (.int _ _) (.cons (.int _ _) (.cons (.int _ _) (.cons (.int _ _) .nil))))) (by decide +kernel) (by decide +kernel) x hv rfl rfl rfl
noncomputable def S_law_told : Scope := stScope (topSt 43)
noncomputable def B_law_told : List Stmt := stBody (topSt 43)
theorem fn_law_told {W : Wd} {d : Nat} {H H' : List O} {x0 v : V} {o : Out} {ρ' : Loc} (P : PF W.K) (x : Ex W (d - 1) S_law_told [(Str.ofString "value", x0)] H B_law_told o ρ' H') (hv : o = some v ∨ (o = none ∧ v = .none)) (hd : 1 ≤ d) : Fn W d H (.ref f_law_told) [x0] v H' := fn_of (names := [Str.ofString "value"]) (ds := []) P.law_told hd rfl (fun _ => .nil) (by decide +kernel) (by decide +kernel) x hv rfl rfl rfl
noncomputable def S_law_all : Scope := stScope (topSt 44)
noncomputable def B_law_all : List Stmt := stBody (topSt 44)
theorem fn_law_all {W : Wd} {d : Nat} {H H' : List O} {x0 v : V} {o : Out} {ρ' : Loc} (P : PF W.K) (x : Ex W (d - 1) S_law_all [(Str.ofString "values", x0)] H B_law_all o ρ' H') (hv : o = some v ∨ (o = none ∧ v = .none)) (hd : 1 ≤ d) : Fn W d H (.ref f_law_all) [x0] v H' := fn_of (names := [Str.ofString "values"]) (ds := []) P.law_all hd rfl (fun _ => .nil) (by decide +kernel) (by decide +kernel) x hv rfl rfl rfl
noncomputable def S_law_text : Scope := stScope (topSt 45)
noncomputable def B_law_text : List Stmt := stBody (topSt 45)
theorem fn_law_text {W : Wd} {d : Nat} {H H' : List O} {x0 v : V} {o : Out} {ρ' : Loc} (P : PF W.K) (x : Ex W (d - 1) S_law_text [(Str.ofString "value", x0)] H B_law_text o ρ' H') (hv : o = some v ∨ (o = none ∧ v = .none)) (hd : 1 ≤ d) : Fn W d H (.ref f_law_text) [x0] v H' := fn_of (names := [Str.ofString "value"]) (ds := []) P.law_text hd rfl (fun _ => .nil) (by decide +kernel) (by decide +kernel) x hv rfl rfl rfl
noncomputable def S_law_paired : Scope := stScope (topSt 46)
noncomputable def B_law_paired : List Stmt := stBody (topSt 46)
theorem fn_law_paired {W : Wd} {d : Nat} {H H' : List O} {x0 v : V} {o : Out} {ρ' : Loc} (P : PF W.K) (x : Ex W (d - 1) S_law_paired [(Str.ofString "values", x0)] H B_law_paired o ρ' H') (hv : o = some v ∨ (o = none ∧ v = .none)) (hd : 1 ≤ d) : Fn W d H (.ref f_law_paired) [x0] v H' := fn_of (names := [Str.ofString "values"]) (ds := []) P.law_paired hd rfl (fun _ => .nil) (by decide +kernel) (by decide +kernel) x hv rfl rfl rfl
noncomputable def S_law_flat : Scope := stScope (topSt 47)
noncomputable def B_law_flat : List Stmt := stBody (topSt 47)
theorem fn_law_flat {W : Wd} {d : Nat} {H H' : List O} {x0 v : V} {o : Out} {ρ' : Loc} (P : PF W.K) (x : Ex W (d - 1) S_law_flat [(Str.ofString "pairs", x0)] H B_law_flat o ρ' H') (hv : o = some v ∨ (o = none ∧ v = .none)) (hd : 1 ≤ d) : Fn W d H (.ref f_law_flat) [x0] v H' := fn_of (names := [Str.ofString "pairs"]) (ds := []) P.law_flat hd rfl (fun _ => .nil) (by decide +kernel) (by decide +kernel) x hv rfl rfl rfl
noncomputable def S_law_sources : Scope := stScope (topSt 48)
noncomputable def B_law_sources : List Stmt := stBody (topSt 48)
theorem fn_law_sources {W : Wd} {d : Nat} {H H' : List O} {x0 x1 x2 v : V} {o : Out} {ρ' : Loc} (P : PF W.K) (x : Ex W (d - 1) S_law_sources [(Str.ofString "n", x0), (Str.ofString "things", x1), (Str.ofString "thing", x2)] H B_law_sources o ρ' H') (hv : o = some v ∨ (o = none ∧ v = .none)) (hd : 1 ≤ d) : Fn W d H (.ref f_law_sources) [x0, x1, x2] v H' := fn_of (names := [Str.ofString "n", Str.ofString "things", Str.ofString "thing"]) (ds := []) P.law_sources hd rfl (fun _ => .nil) (by decide +kernel) (by decide +kernel) x hv rfl rfl rfl
noncomputable def S_law_targets : Scope := stScope (topSt 49)
noncomputable def B_law_targets : List Stmt := stBody (topSt 49)
theorem fn_law_targets {W : Wd} {d : Nat} {H H' : List O} {x0 v : V} {o : Out} {ρ' : Loc} (P : PF W.K) (x : Ex W (d - 1) S_law_targets [(Str.ofString "n", x0)] H B_law_targets o ρ' H') (hv : o = some v ∨ (o = none ∧ v = .none)) (hd : 1 ≤ d) : Fn W d H (.ref f_law_targets) [x0] v H' := fn_of (names := [Str.ofString "n"]) (ds := []) P.law_targets hd rfl (fun _ => .nil) (by decide +kernel) (by decide +kernel) x hv rfl rfl rfl
noncomputable def S_law_assigned : Scope := stScope (topSt 50)
noncomputable def B_law_assigned : List Stmt := stBody (topSt 50)
theorem fn_law_assigned {W : Wd} {d : Nat} {H H' : List O} {x0 x1 x2 v : V} {o : Out} {ρ' : Loc} (P : PF W.K) (x : Ex W (d - 1) S_law_assigned [(Str.ofString "state", x0), (Str.ofString "goals", x1), (Str.ofString "values", x2)] H B_law_assigned o ρ' H') (hv : o = some v ∨ (o = none ∧ v = .none)) (hd : 1 ≤ d) : Fn W d H (.ref f_law_assigned) [x0, x1, x2] v H' := fn_of (names := [Str.ofString "state", Str.ofString "goals", Str.ofString "values"]) (ds := []) P.law_assigned hd rfl (fun _ => .nil) (by decide +kernel) (by decide +kernel) x hv rfl rfl rfl
noncomputable def S_law_members : Scope := stScope (topSt 51)
noncomputable def B_law_members : List Stmt := stBody (topSt 51)
theorem fn_law_members {W : Wd} {d : Nat} {H H' : List O} {x0 x1 v : V} {o : Out} {ρ' : Loc} (P : PF W.K) (x : Ex W (d - 1) S_law_members [(Str.ofString "state", x0), (Str.ofString "goals", x1)] H B_law_members o ρ' H') (hv : o = some v ∨ (o = none ∧ v = .none)) (hd : 1 ≤ d) : Fn W d H (.ref f_law_members) [x0, x1] v H' := fn_of (names := [Str.ofString "state", Str.ofString "goals"]) (ds := []) P.law_members hd rfl (fun _ => .nil) (by decide +kernel) (by decide +kernel) x hv rfl rfl rfl
noncomputable def S_law : Scope := stScope (topSt 52)
noncomputable def B_law : List Stmt := stBody (topSt 52)
theorem fn_law {W : Wd} {d : Nat} {H H' : List O} {x0 v : V} {o : Out} {ρ' : Loc} (P : PF W.K) (x : Ex W (d - 1) S_law [(Str.ofString "script", x0)] H B_law o ρ' H') (hv : o = some v ∨ (o = none ∧ v = .none)) (hd : 1 ≤ d) : Fn W d H (.ref f_law) [x0] v H' := fn_of (names := [Str.ofString "script"]) (ds := []) P.law hd rfl (fun _ => .nil) (by decide +kernel) (by decide +kernel) x hv rfl rfl rfl
section
variable {K : Frag} (P : PF K)
include P
theorem g_number_text : nsIn K mainGlobals "number_text" = some (some (.ref f_number_text)) := P.glob (by decide)
theorem kp_number_text : keepIn K (.ref f_number_text) = true := P.keep (n := "number_text") (by decide)
theorem g_value_of : nsIn K mainGlobals "value_of" = some (some (.ref f_value_of)) := P.glob (by decide)
theorem kp_value_of : keepIn K (.ref f_value_of) = true := P.keep (n := "value_of") (by decide)
theorem g_to_text : nsIn K mainGlobals "to_text" = some (some (.ref f_to_text)) := P.glob (by decide)
theorem kp_to_text : keepIn K (.ref f_to_text) = true := P.keep (n := "to_text") (by decide)
theorem g_fresh_scalars : nsIn K mainGlobals "fresh_scalars" = some (some (.ref f_fresh_scalars)) := P.glob (by decide)
theorem kp_fresh_scalars : keepIn K (.ref f_fresh_scalars) = true := P.keep (n := "fresh_scalars") (by decide)
theorem g_drop_member : nsIn K mainGlobals "drop_member" = some (some (.ref f_drop_member)) := P.glob (by decide)
theorem kp_drop_member : keepIn K (.ref f_drop_member) = true := P.keep (n := "drop_member") (by decide)
theorem g_drop_members : nsIn K mainGlobals "drop_members" = some (some (.ref f_drop_members)) := P.glob (by decide)
theorem kp_drop_members : keepIn K (.ref f_drop_members) = true := P.keep (n := "drop_members") (by decide)
theorem g_clear_array : nsIn K mainGlobals "clear_array" = some (some (.ref f_clear_array)) := P.glob (by decide)
theorem kp_clear_array : keepIn K (.ref f_clear_array) = true := P.keep (n := "clear_array") (by decide)
theorem g_fill_array : nsIn K mainGlobals "fill_array" = some (some (.ref f_fill_array)) := P.glob (by decide)
theorem kp_fill_array : keepIn K (.ref f_fill_array) = true := P.keep (n := "fill_array") (by decide)
theorem g_array_values : nsIn K mainGlobals "array_values" = some (some (.ref f_array_values)) := P.glob (by decide)
theorem kp_array_values : keepIn K (.ref f_array_values) = true := P.keep (n := "array_values") (by decide)
theorem g_plain_values : nsIn K mainGlobals "plain_values" = some (some (.ref f_plain_values)) := P.glob (by decide)
theorem kp_plain_values : keepIn K (.ref f_plain_values) = true := P.keep (n := "plain_values") (by decide)
theorem g_clear_hash : nsIn K mainGlobals "clear_hash" = some (some (.ref f_clear_hash)) := P.glob (by decide)
theorem kp_clear_hash : keepIn K (.ref f_clear_hash) = true := P.keep (n := "clear_hash") (by decide)
theorem g_flat_hash : nsIn K mainGlobals "flat_hash" = some (some (.ref f_flat_hash)) := P.glob (by decide)
theorem kp_flat_hash : keepIn K (.ref f_flat_hash) = true := P.keep (n := "flat_hash") (by decide)
theorem g_fill_hash : nsIn K mainGlobals "fill_hash" = some (some (.ref f_fill_hash)) := P.glob (by decide)
theorem kp_fill_hash : keepIn K (.ref f_fill_hash) = true := P.keep (n := "fill_hash") (by decide)
theorem g_fill_whole : nsIn K mainGlobals "fill_whole" = some (some (.ref f_fill_whole)) := P.glob (by decide)
theorem kp_fill_whole : keepIn K (.ref f_fill_whole) = true := P.keep (n := "fill_whole") (by decide)
theorem g_assign_list : nsIn K mainGlobals "assign_list" = some (some (.ref f_assign_list)) := P.glob (by decide)
theorem kp_assign_list : keepIn K (.ref f_assign_list) = true := P.keep (n := "assign_list") (by decide)
theorem g_assigned_members : nsIn K mainGlobals "assigned_members" = some (some (.ref f_assigned_members)) := P.glob (by decide)
theorem kp_assigned_members : keepIn K (.ref f_assigned_members) = true := P.keep (n := "assigned_members") (by decide)
theorem g_held_by : nsIn K mainGlobals "held_by" = some (some (.ref f_held_by)) := P.glob (by decide)
theorem kp_held_by : keepIn K (.ref f_held_by) = true := P.keep (n := "held_by") (by decide)
theorem g_empty_out : nsIn K mainGlobals "empty_out" = some (some (.ref f_empty_out)) := P.glob (by decide)
theorem kp_empty_out : keepIn K (.ref f_empty_out) = true := P.keep (n := "empty_out") (by decide)
theorem g_in_order : nsIn K mainGlobals "in_order" = some (some (.ref f_in_order)) := P.glob (by decide)
theorem kp_in_order : keepIn K (.ref f_in_order) = true := P.keep (n := "in_order") (by decide)
theorem g_law_told : nsIn K mainGlobals "_law_told" = some (some (.ref f_law_told)) := P.glob (by decide)
theorem kp_law_told : keepIn K (.ref f_law_told) = true := P.keep (n := "_law_told") (by decide)
theorem g_law_all : nsIn K mainGlobals "_law_all" = some (some (.ref f_law_all)) := P.glob (by decide)
theorem kp_law_all : keepIn K (.ref f_law_all) = true := P.keep (n := "_law_all") (by decide)
theorem g_law_text : nsIn K mainGlobals "_law_text" = some (some (.ref f_law_text)) := P.glob (by decide)
theorem kp_law_text : keepIn K (.ref f_law_text) = true := P.keep (n := "_law_text") (by decide)
theorem g_law_paired : nsIn K mainGlobals "_law_paired" = some (some (.ref f_law_paired)) := P.glob (by decide)
theorem kp_law_paired : keepIn K (.ref f_law_paired) = true := P.keep (n := "_law_paired") (by decide)
theorem g_law_flat : nsIn K mainGlobals "_law_flat" = some (some (.ref f_law_flat)) := P.glob (by decide)
theorem kp_law_flat : keepIn K (.ref f_law_flat) = true := P.keep (n := "_law_flat") (by decide)
theorem g_law_sources : nsIn K mainGlobals "_law_sources" = some (some (.ref f_law_sources)) := P.glob (by decide)
theorem kp_law_sources : keepIn K (.ref f_law_sources) = true := P.keep (n := "_law_sources") (by decide)
theorem g_law_targets : nsIn K mainGlobals "_law_targets" = some (some (.ref f_law_targets)) := P.glob (by decide)
theorem kp_law_targets : keepIn K (.ref f_law_targets) = true := P.keep (n := "_law_targets") (by decide)
theorem g_law_assigned : nsIn K mainGlobals "_law_assigned" = some (some (.ref f_law_assigned)) := P.glob (by decide)
theorem kp_law_assigned : keepIn K (.ref f_law_assigned) = true := P.keep (n := "_law_assigned") (by decide)
theorem g_law_members : nsIn K mainGlobals "_law_members" = some (some (.ref f_law_members)) := P.glob (by decide)
theorem kp_law_members : keepIn K (.ref f_law_members) = true := P.keep (n := "_law_members") (by decide)
theorem g_law : nsIn K mainGlobals "law" = some (some (.ref f_law)) := P.glob (by decide)
theorem kp_law : keepIn K (.ref f_law) = true := P.keep (n := "law") (by decide)
theorem g_Thing : nsIn K mainGlobals "Thing" = some (some (.ref cThing)) := P.glob (by decide)
theorem g_Scalar : nsIn K mainGlobals "Scalar" = some (some (.ref cScalar)) := P.glob (by decide)
theorem g_Array : nsIn K mainGlobals "Array" = some (some (.ref cArray)) := P.glob (by decide)
theorem g_Hash : nsIn K mainGlobals "Hash" = some (some (.ref cHash)) := P.glob (by decide)
theorem g_Code : nsIn K mainGlobals "Code" = some (some (.ref cCode)) := P.glob (by decide)
theorem g_Glob : nsIn K mainGlobals "Glob" = some (some (.ref cGlob)) := P.glob (by decide)
theorem g_Ref : nsIn K mainGlobals "Ref" = some (some (.ref cRef)) := P.glob (by decide)
theorem g_Heap : nsIn K mainGlobals "Heap" = some (some (.ref cHeap)) := P.glob (by decide)
theorem g_Counter : nsIn K mainGlobals "Counter" = some (some (.ref cCounter)) := P.glob (by decide)
theorem g_Limits : nsIn K mainGlobals "Limits" = some (some (.ref cLimits)) := P.glob (by decide)
theorem g_isinstance : nsIn K mainGlobals "isinstance" = some none := P.built (by decide)
theorem g_int : nsIn K mainGlobals "int" = some none := P.built (by decide)
theorem g_len : nsIn K mainGlobals "len" = some none := P.built (by decide)
theorem g_range : nsIn K mainGlobals "range" = some none := P.built (by decide)
theorem g_str : nsIn K mainGlobals "str" = some none := P.built (by decide)
theorem g_sorted : nsIn K mainGlobals "sorted" = some none := P.built (by decide)
theorem g_list : nsIn K mainGlobals "list" = some none := P.built (by decide)
end
noncomputable abbrev oScalar (n c : Int) (wk : Nat) (fr : Bool) (v : V) : O := .inst cScalar [(Str.ofString "number", .int n), (Str.ofString "count", .int c), (Str.ofString "blessed", .none), (Str.ofString "weak", .ref wk), (Str.ofString "is_destroyed", .bool false), (Str.ofString "is_freed", .bool fr), (Str.ofString "value", v), (Str.ofString "magic", .none)]
noncomputable abbrev oArray (n c : Int) (wk : Nat) (it : Nat) : O := .inst cArray [(Str.ofString "number", .int n), (Str.ofString "count", .int c), (Str.ofString "blessed", .none), (Str.ofString "weak", .ref wk), (Str.ofString "is_destroyed", .bool false), (Str.ofString "is_freed", .bool false), (Str.ofString "items", .ref it), (Str.ofString "tied", .none)]
noncomputable abbrev oHash (n c : Int) (wk : Nat) (tb : Nat) : O := .inst cHash [(Str.ofString "number", .int n), (Str.ofString "count", .int c), (Str.ofString "blessed", .none), (Str.ofString "weak", .ref wk), (Str.ofString "is_destroyed", .bool false), (Str.ofString "is_freed", .bool false), (Str.ofString "table", .ref tb), (Str.ofString "at", .int 0), (Str.ofString "tied", .none)]
noncomputable abbrev oRef (t : Nat) : O := .inst cRef [(Str.ofString "target", .ref t), (Str.ofString "is_weak", .bool false)]
noncomputable abbrev oHeap (lim : Nat) (last : Int) (zero : Nat) : O := .inst cHeap [(Str.ofString "limits", .ref lim), (Str.ofString "last", .int last), (Str.ofString "zero", .ref zero)]
noncomputable abbrev oCounter (hp pl : Nat) : O := .inst cCounter [(Str.ofString "heap", .ref hp), (Str.ofString "destroy", .none), (Str.ofString "places", .ref pl)]

theorem Fn.to {W : Wd} {d : Nat} {H H' H'' : List O} {f : Value} {vs : List V} {v : V} (x : Fn W d H f vs v H'') (e : H'' = H') : Fn W d H f vs v H' := e ▸ x
theorem at_new {H : List O} {o : O} : (H ++ [o])[H.length]? = some o := by simp
theorem at_new' {H : List O} {o : O} {n : Nat} (e : n = H.length) : (H ++ [o])[n]? = some o := by subst e; simp
theorem at_old {H : List O} {o o' : O} {i : Nat} (h : H[i]? = some o) : (H ++ [o'])[i]? = some o := by
  rw [List.getElem?_append_left (List.getElem?_eq_some_iff.mp h).1]; exact h
theorem at_same {H : List O} {o o' : O} {i : Nat} (h : H[i]? = some o') : (H.set i o)[i]? = some o := List.getElem?_set_self (List.getElem?_eq_some_iff.mp h).1
theorem at_ne {H : List O} {o o' : O} {i j : Nat} (n : j ≠ i) (h : H[i]? = some o) : (H.set j o')[i]? = some o := by rw [List.getElem?_set_ne n]; exact h
theorem at_lt {H : List O} {o : O} {i : Nat} (h : H[i]? = some o) : i < H.length := (List.getElem?_eq_some_iff.mp h).1
noncomputable def Chg (X : List Nat) (H H' : List O) : Prop := H.length ≤ H'.length ∧ ∀ i o, i ∉ X → H[i]? = some o → H'[i]? = some o
theorem Chg.refl (X : List Nat) (H : List O) : Chg X H H := ⟨Nat.le_refl _, fun _ _ _ e => e⟩
theorem Chg.trans {X Y : List Nat} {H H₁ H' : List O} (x : Chg X H H₁) (y : Chg Y H₁ H') : Chg (X ++ Y) H H' := ⟨Nat.le_trans x.1 y.1, fun i o n e => y.2 i o (fun h => n (List.mem_append_right _ h)) (x.2 i o (fun h => n (List.mem_append_left _ h)) e)⟩
theorem Chg.sub {X Y : List Nat} {H H' : List O} (x : Chg X H H') (h : ∀ i ∈ X, i ∈ Y ∨ H.length ≤ i) : Chg Y H H' := ⟨x.1, fun i o n e => x.2 i o (fun m => (h i m).elim n fun l => absurd (at_lt e) (Nat.not_lt.mpr l)) e⟩
theorem Chg.set {H : List O} {i : Nat} {o : O} : Chg [i] H (H.set i o) := ⟨by simp, fun j o' n e => at_ne (fun q => n (by simp [q])) e⟩
theorem Chg.push {H : List O} {o : O} : Chg [] H (H ++ [o]) := ⟨by simp, fun j o' n e => at_old e⟩
theorem Chg.set' {X : List Nat} {H H₁ : List O} {i : Nat} {o : O} (m : i ∈ X) (x : Chg X H H₁) : Chg X H (H₁.set i o) := (x.trans Chg.set).sub fun j h => by
  rcases List.mem_append.mp h with h | h
  · exact .inl h
  · simp at h; subst h; exact .inl m
theorem Chg.setN {X : List Nat} {H H₁ : List O} {i : Nat} {o : O} (m : H.length ≤ i) (x : Chg X H H₁) : Chg X H (H₁.set i o) := (x.trans Chg.set).sub fun j h => by
  rcases List.mem_append.mp h with h | h
  · exact .inl h
  · simp at h; subst h; exact .inr m
theorem Chg.push' {X : List Nat} {H H₁ : List O} {o : O} (x : Chg X H H₁) : Chg X H (H₁ ++ [o]) := (x.trans Chg.push).sub fun j h => by
  rcases List.mem_append.mp h with h | h
  · exact .inl h
  · cases h
theorem Chg.at {X : List Nat} {H H' : List O} {i : Nat} {o : O} (x : Chg X H H') (e : H[i]? = some o) (n : i ∉ X) : H'[i]? = some o := x.2 i o n e
local macro_rules | `(tactic| walk_at "m_hv") => `(tactic| first | exact .inl rfl | exact .inr ⟨rfl, rfl⟩)
local macro_rules | `(tactic| walk_at "m_d") => `(tactic| first | ((with_reducible refine dle ?h ?e); (case h => with_reducible assumption); (case e => rfl)) | ((with_reducible refine dle1 ?h ?e); (case h => with_reducible assumption); (case e => rfl)) | ((with_reducible refine dle2 ?h ?e); (case h => with_reducible assumption); (case e => rfl)) | lia | omega)
local macro_rules | `(tactic| walk_at "m_gl") => `(tactic| ((with_reducible first | apply g_number_text | apply g_value_of | apply g_to_text | apply g_fresh_scalars | apply g_drop_member | apply g_drop_members | apply g_clear_array | apply g_fill_array | apply g_array_values | apply g_plain_values | apply g_clear_hash | apply g_flat_hash | apply g_fill_hash | apply g_fill_whole | apply g_assign_list | apply g_assigned_members | apply g_held_by | apply g_empty_out | apply g_in_order | apply g_law_told | apply g_law_all | apply g_law_text | apply g_law_paired | apply g_law_flat | apply g_law_sources | apply g_law_targets | apply g_law_assigned | apply g_law_members | apply g_law | apply g_Thing | apply g_Scalar | apply g_Array | apply g_Hash | apply g_Code | apply g_Glob | apply g_Ref | apply g_Heap | apply g_Counter | apply g_Limits | apply g_isinstance | apply g_int | apply g_len | apply g_range | apply g_str | apply g_sorted | apply g_list); with_reducible assumption))
local macro_rules | `(tactic| walk_at "m_kp") => `(tactic| exact PF.keepB (by assumption) (by decide))
local macro_rules | `(tactic| walk_at "m_ne") => `(tactic| first | with_reducible assumption | ((with_reducible refine Ne.symm ?_); with_reducible assumption) | exact Nat.ne_of_lt (by assumption) | exact Nat.ne_of_gt (by assumption) | lia | omega)
local macro_rules | `(tactic| walk_at "m_at") => `(tactic| first
  | with_reducible assumption
  | with_reducible exact at_new
  | ((with_reducible refine at_new' ?_); (simp only [List.length_set, List.length_append]; done))
  | ((with_reducible refine' at_old ?a); (case a => walk_at "m_at"))
  | ((with_reducible refine' at_same ?a); (case a => walk_at "m_at"))
  | ((with_reducible refine' at_ne ?n ?a); (case a => walk_at "m_at"); (case n => walk_at "m_ne")))
local macro_rules | `(tactic| walk_at "m_fn") => `(tactic| first | with_reducible assumption | ((with_reducible refine' Fn.le ?f ?d); (case f => with_reducible assumption); (case d => walk_at "m_d")))
local macro_rules | `(tactic| walk_at "m_nu") => `(tactic| first | with_reducible assumption | lia | omega | decide)
local macro_rules | `(tactic| walk_at "m_isa") => `(tactic| first
  | ((with_reducible refine isa_none ?_); exact PF.nin (by assumption) (by decide)) | ((with_reducible refine isa_int ?_); exact PF.nin (by assumption) (by decide)) | ((with_reducible refine isa_str ?_); exact PF.nin (by assumption) (by decide))
  | ((with_reducible refine' isa_yes ?o ?c); (case o => walk_at "m_at"); (case c => exact PF.isa (by assumption) (by decide)))
  | ((with_reducible refine' isa_no ?o ?c); (case o => walk_at "m_at"); (case c => exact PF.na (by assumption) (by decide))))
local macro_rules | `(tactic| walk_at "m_eva") => `(tactic| first
  | with_reducible exact eva_nil
  | ((with_reducible refine' eva_cons ?x ?y ?s); (case s => rfl); (case x => walk_at "m_ev"); (case y => walk_at "m_eva")))
local macro_rules | `(tactic| walk_at "m_ev") => `(tactic| first
  | with_reducible assumption
  | ((with_reducible refine' ev_name ?h ?d); (case h | d => rfl))
  | with_reducible exact ev_int | with_reducible exact ev_str | with_reducible exact ev_none | with_reducible exact ev_bool
  | ((with_reducible refine' ev_attr ?x ?o ?l ?c ?n); (case n => rfl); (case x => walk_at "m_ev"); (case o => walk_at "m_at"); (case l => rfl); (case c => first | with_reducible assumption | exact PF.attr (by assumption) (by decide)))
  | ((with_reducible refine' ev_isint ?x ?z ?hi ?hc ?sx ?sc b_isinstance b_int ?s); (case s => rfl); (case hi | hc => walk_at "m_gl"); (case sx | sc => rfl); (case x => walk_at "m_ev"); (case z => first | exact .inl ⟨_, rfl, rfl⟩ | exact .inr ⟨_, rfl, rfl⟩))
  | ((with_reducible refine' ev_isa ?x ?z ?hi ?hc ?sx ?sc b_isinstance ?s ?d); (case s | d => rfl); (case hi | hc => walk_at "m_gl"); (case sx | sc => rfl); (case x => walk_at "m_ev"); (case z => walk_at "m_isa"))
  | ((with_reducible refine' ev_call ?a ?f ?e ?k ?h ?s ?d); (case e => walk_at "m_gl"); (case s | d => rfl); (case k => walk_at "m_kp"); (case h => rfl); (case a => walk_at "m_eva"); (case f => walk_at "m_fn"))
  | ((with_reducible refine' ev_builtin ?a ?z ?e ?h b_len ?n ?r ?s ?d); (case n => decide); (case r => intro _ q; cases q); (case s | d => rfl); (case e => walk_at "m_gl"); (case h => rfl); (case a => walk_at "m_eva"); (case z => walk_at "m_len"))
  | ((with_reducible refine' ev_builtin ?a ?z ?e ?h b_range ?n ?r ?s ?d); (case n => decide); (case r => intro _ q; cases q); (case s | d => rfl); (case e => walk_at "m_gl"); (case h => rfl); (case a => walk_at "m_eva"); (case z => first | exact call_range1 | exact call_range3 (by decide) (by decide)))
  | ((with_reducible refine' ev_builtin ?a ?z ?e ?h b_str ?n ?r ?s ?d); (case n => decide); (case r => intro _ q; cases q); (case s | d => rfl); (case e => walk_at "m_gl"); (case h => rfl); (case a => walk_at "m_eva"); (case z => refine call_str ?_; assumption))
  | ((with_reducible refine' ev_meth ?x ?o ?l ?a ?f ?m ?s ?c ?n ?p); (case s | c | n | p => rfl); (case x => walk_at "m_ev"); (case o => walk_at "m_at"); (case l => rfl); (case a => walk_at "m_eva"); (case f => walk_at "m_fn"); (case m => exact PF.meth (by assumption) (by decide)))
  | ((with_reducible refine' ev_cmeth ?a ?f ?e ?h ?m ?s ?n ?p ?d); (case s | n | p | d => rfl); (case e => walk_at "m_gl"); (case h => rfl); (case a => walk_at "m_eva"); (case f => walk_at "m_fn"); (case m => exact PF.cmeth (by assumption)))
  | ((with_reducible refine' ev_gstr ?h ?e ?d); (case e => with_reducible assumption); (case h | d => rfl))
  | ((with_reducible refine' ev_new ?a ?d ?f ?e ?m ?h ?s ?g); (case e => walk_at "m_gl"); (case s | g | h => rfl); (case a => walk_at "m_eva"); (case d => walk_at "m_d"); (case f => walk_at "m_fn"); (case m => exact PF.make (by assumption) (by decide)))
  | ((with_reducible refine' ev_list ?a ?z); (case a => walk_at "m_eva"); (case z => exact Nat.le_of_ble_eq_true rfl))
  | ((with_reducible refine' ev_tuple ?a ?z); (case a => walk_at "m_eva"); (case z => exact Nat.le_of_ble_eq_true rfl))
  | ((with_reducible refine' ev_add ?x ?y); (case x | y => walk_at "m_ev"))
  | ((with_reducible refine' ev_sub ?x ?y); (case x | y => walk_at "m_ev"))
  | ((with_reducible refine' ev_mod ?x ?y ?z); (case x | y => walk_at "m_ev"); (case z => walk_at "m_nu"))
  | ((with_reducible refine' ev_div ?x ?y ?z ?w); (case x | y => walk_at "m_ev"); (case z | w => walk_at "m_nu"))
  | ((with_reducible refine' ev_neg ?x); (case x => walk_at "m_ev"))
  | ((with_reducible refine' ev_item ?x ?y ?o ?a ?b ?c ?s); (case s => rfl); (case x | y => walk_at "m_ev"); (case o => walk_at "m_at"); (case a | b => walk_at "m_nu"); (case c => first | assumption | rfl))
  | ((with_reducible refine' ev_titem ?x ?y ?o ?a ?b ?c ?s); (case s => rfl); (case x | y => walk_at "m_ev"); (case o => walk_at "m_at"); (case a | b => walk_at "m_nu"); (case c => first | assumption | rfl))
  | ((with_reducible refine' ev_key ?x ?y ?o ?c ?s); (case s => rfl); (case x | y => walk_at "m_ev"); (case o => walk_at "m_at"); (case c => first | assumption | rfl))
  | ((with_reducible refine' ev_ikey ?x ?y ?o ?c ?s); (case s => rfl); (case x | y => walk_at "m_ev"); (case o => walk_at "m_at"); (case c => first | assumption | rfl))
  | ((with_reducible refine' ev_addl ?x ?y ?i ?j ?z); (case x | y => walk_at "m_ev"); (case i | j => walk_at "m_at"); (case z => walk_at "m_nu"))
  | ((with_reducible refine' ev_bmeth (id := "list.append") ?x ?o ?t PySem.F.plainAttrs_list PySem.F.slot_list_append PySem.F.type_list_append ?a ?z ?ne ?s ?c ?n ?p); (case ne => decide); (case s | c | n | p => rfl); (case x => walk_at "m_ev"); (case o => walk_at "m_at"); (case t => rfl); (case a => walk_at "m_eva"); (case z => (with_reducible refine' call_append ?o1 ?z1); (case o1 => walk_at "m_at"); (case z1 => walk_at "m_nu")))
  | ((with_reducible refine' ev_bmeth (id := "list.extend") ?x ?o ?t PySem.F.plainAttrs_list PySem.F.slot_list_extend PySem.F.type_list_extend ?a ?z ?ne ?s ?c ?n ?p); (case ne => decide); (case s | c | n | p => rfl); (case x => walk_at "m_ev"); (case o => walk_at "m_at"); (case t => rfl); (case a => walk_at "m_eva"); (case z => (with_reducible refine' call_extend ?o1 ?o2 ?z1); (case o1 | o2 => walk_at "m_at"); (case z1 => walk_at "m_nu")))
  | ((with_reducible refine' ev_bmeth (id := "dict.pop") ?x ?o ?t PySem.F.plainAttrs_dict PySem.F.slot_dict_pop PySem.F.type_dict_pop ?a ?z ?ne ?s ?c ?n ?p); (case ne => decide); (case s | c | n | p => rfl); (case x => walk_at "m_ev"); (case o => walk_at "m_at"); (case t => rfl); (case a => walk_at "m_eva"); (case z => (with_reducible refine' call_pop ?o1 ?z1); (case o1 => walk_at "m_at"); (case z1 => rfl)))
  | with_reducible exact ev_dict_s
  | ((with_reducible refine' ev_cmp ?x ?y ?z ?h); (case h => rfl); (case x | y => walk_at "m_ev"); (case z => walk_at "m_cmp")))
local macro_rules | `(tactic| walk_at "m_len") => `(tactic| first
  | ((with_reducible refine' call_len ?o ?z); (case o => walk_at "m_at"); (case z => walk_at "m_nu"))
  | ((with_reducible refine' call_len_sd ?o ?z); (case o => walk_at "m_at"); (case z => walk_at "m_nu")))
local macro_rules | `(tactic| walk_at "m_cmp") => `(tactic| first | with_reducible assumption | exact cmp_is_none | exact cmp_isnot_none | exact cmp_eq_int | exact cmp_ne_int | exact cmp_lt | exact cmp_gt | exact cmp_eq_str)
local macro_rules | `(tactic| walk_at "m_tr") => `(tactic| first
  | with_reducible assumption
  | ((with_reducible refine' tr_not ?x ?b); (case x => walk_at "m_tr"); (case b => rfl))
  | ((with_reducible refine' tr_cmp ?x ?y ?z ?h); (case h => rfl); (case x | y => walk_at "m_ev"); (case z => walk_at "m_cmp"))
  | ((with_reducible refine' tr_ev ?x ?p); (case p => rfl); (case x => walk_at "m_ev")))
local macro_rules | `(tactic| walk_at "m_lc") => `(tactic| first | exact .inl rfl | exact .inr rfl)
local macro_rules | `(tactic| walk_at "m_s1") => `(tactic| first
  | with_reducible assumption
  | ((with_reducible refine' ex1_assign ?x ?h ?c); (case c => rfl); (case x => walk_at "m_ev"); (case h => walk_at "m_lc"))
  | ((with_reducible refine' ex1_setattr ?a ?b ?o ?c ?z); (case a | b => walk_at "m_ev"); (case o => walk_at "m_at"); (case c => first | with_reducible assumption | exact PF.set (by assumption) (by decide)); (case z => exact Nat.le_of_ble_eq_true rfl))
  | ((with_reducible refine' ex1_aug_attr ?x ?o ?l ?g ?y ?c ?p ?z); (case x => walk_at "m_ev"); (case o => walk_at "m_at"); (case l => rfl); (case g => exact PF.attr (by assumption) (by decide)); (case y => walk_at "m_ev"); (case c => exact PF.set (by assumption) (by decide)); (case p => first | exact .inl ⟨rfl, rfl⟩ | exact .inr ⟨rfl, rfl⟩); (case z => exact Nat.le_of_ble_eq_true rfl))
  | ((with_reducible refine' ex1_aug_name ?v ?y ?p ?h); (case v => rfl); (case y => walk_at "m_ev"); (case p => first | exact .inl ⟨rfl, rfl⟩ | exact .inr (.inl ⟨rfl, rfl⟩)); (case h => walk_at "m_lc"))
  | ((with_reducible refine' ex1_expr ?a ?c); (case c => rfl); (case a => walk_at "m_ev")))
local macro_rules | `(tactic| walk_at "m_st") => `(tactic| first
  | with_reducible exact ex_nil
  | with_reducible exact ex_ret ex1_return0
  | ((with_reducible refine' ex_ret (ex1_return ?x)); (case x => walk_at "m_ev"))
  | ((with_reducible refine' ex_cons ?s ?r); (case s => walk_at "m_s1"); (case' r => skip)))
local macro_rules | `(tactic| walk_at "m_chg") => `(tactic| first
  | with_reducible assumption
  | with_reducible exact Chg.refl _ _
  | ((with_reducible refine' Chg.set' ?m ?x); (case m => simp; done); (case x => walk_at "m_chg"))
  | ((with_reducible refine' Chg.setN ?m ?x); (case m => simp only [List.length_set, List.length_append]; first | lia | omega); (case x => walk_at "m_chg"))
  | ((with_reducible refine Chg.push' ?_); walk_at "m_chg"))
local macro_rules | `(tactic| walk_at "m_ifF") => `(tactic| ((with_reducible refine' ex_cons (ex1_ifF ?x ?y) ?r); (case x => walk_at "m_tr"); (case y => with_reducible exact ex_nil); (case' r => skip)))
local macro_rules | `(tactic| walk_at "m_ifE") => `(tactic| ((with_reducible refine' ex_cons (ex1_ifF ?x ?y) ?r); (case x => walk_at "m_tr"); (case' r => skip); (case' y => skip)))
local macro_rules | `(tactic| walk_at "m_ifT") => `(tactic| ((with_reducible refine' ex_cons (ex1_ifT ?x ?y) ?r); (case x => walk_at "m_tr"); (case' r => skip); (case' y => skip)))
local macro_rules | `(tactic| walk_at "m_ifR") => `(tactic| ((with_reducible refine' ex_ret (ex1_ifT ?x ?y)); (case x => walk_at "m_tr"); (case' y => skip)))
section
variable {W : Wd} {d : Nat} {H : List O} (P : PF W.K)
include P
theorem r_value_of {v : V} (hd : 1 ≤ d) (h : v = .none ∨ (∃ i, v = .int i) ∨ (∃ x, v = .str x) ∨ ∃ i t, v = .ref i ∧ H[i]? = some (oRef t)) : Fn W d H (.ref f_value_of) [v] v H := by
  refine' fn_value_of (o := some v) (ρ' := [("x", v)]) P ?_ (by walk_at "m_hv") (by walk_at "m_d")
  conv => arg 6; whnf
  refine ex_ret (ex1_if (b := true) (tr_not (b := false) ?_) (fun _ => ex_ret (ex1_return (ev_name rfl))) (fun e => by cases e))
  rcases h with rfl | ⟨i, rfl⟩ | ⟨x, rfl⟩ | ⟨i, t, rfl, h⟩
  all_goals walk_at "m_tr"
theorem r_value_of_sc {i : Nat} {n c : Int} {wk : Nat} {fr : Bool} {v : V} (hd : 1 ≤ d) (h : H[i]? = some (oScalar n c wk fr v)) : Fn W d H (.ref f_value_of) [.ref i] v H := by
  refine' fn_value_of (o := some v) (ρ' := [("x", .ref i)]) P ?_ (by walk_at "m_hv") (by walk_at "m_d")
  conv => arg 6; whnf
  refine ex_cons (ex1_if (b := false) (H₁ := H) (by walk_at "m_tr") (fun e => by cases e) (fun _ => ex_nil)) ?_
  refine ex_cons (ex1_if (b := false) (H₁ := H) (by walk_at "m_tr") (fun e => by cases e) (fun _ => ex_nil)) ?_
  exact ex_ret (ex1_return (by walk_at "m_ev"))
end
section
variable {W : Wd} {d : Nat} {H : List O} (P : PF W.K)
include P
theorem r_Thing_init {s : Nat} {C : Addr} {k : Int} (hd : 1 ≤ d) (hC : C = cScalar ∨ C = cArray ∨ C = cHash) (h : H[s]? = some (.inst C [])) : ∃ H', Fn W d H (.ref f_Thing_init) [.ref s, .int k] .none H' ∧ Chg [s] H H' ∧ H'[H.length]? = some (.list []) ∧
    H'[s]? = some (.inst C [(Str.ofString "number", .int k), (Str.ofString "count", .int 0), (Str.ofString "blessed", .none), (Str.ofString "weak", .ref H.length), (Str.ofString "is_destroyed", .bool false), (Str.ofString "is_freed", .bool false)]) := by
  have set : ∀ n, (cScalar, n) ∈ attrL ∧ (cArray, n) ∈ attrL ∧ (cHash, n) ∈ attrL → setOk W.K C n = true := fun n e => by rcases hC with rfl | rfl | rfl <;> first | exact P.set e.1 | exact P.set e.2.1 | exact P.set e.2.2
  have s1 := set "number" (by decide)
  have s2 := set "count" (by decide)
  have s3 := set "blessed" (by decide)
  have s4 := set "weak" (by decide)
  have s5 := set "is_destroyed" (by decide)
  have s6 := set "is_freed" (by decide)
  have ne : s ≠ H.length := Nat.ne_of_lt (at_lt h)
  clear set
  refine' ⟨_, fn_Thing_init (o := none) P ?x (by walk_at "m_hv") (by walk_at "m_d"), ?c, ?l, ?s⟩
  case x =>
    conv => arg 6; whnf
    iterate 7 walk_at "m_st"
  case c => walk_at "m_chg"
  case l => refine' at_ne ne (at_ne ne (at_ne ne ?_)); walk_at "m_at"
  case s =>
    refine' (at_same ?q).trans ?p
    case p => simp only [List.length_set]; rfl
    case q => walk_at "m_at"
end
section
variable {W : Wd} {d : Nat} {H : List O} (P : PF W.K)
include P
theorem r_Scalar_init {s : Nat} {k : Int} {v : V} (hd : 2 ≤ d) (h : H[s]? = some (.inst cScalar [])) : ∃ H', Fn W d H (.ref f_Scalar_init) [.ref s, .int k, v] .none H' ∧ Chg [s] H H' ∧ H'[s]? = some (oScalar k 0 H.length false v) ∧ H'[H.length]? = some (.list []) := by
  obtain ⟨H₁, fn, c, l, e⟩ := r_Thing_init (d := d - 1) (k := k) P (by walk_at "m_d") (.inl rfl) h
  have ne : s ≠ H.length := Nat.ne_of_lt (at_lt h)
  refine' ⟨_, fn_Scalar_init (o := none) P ?x (by walk_at "m_hv") (by walk_at "m_d"), ?c, ?s, ?l⟩
  case x =>
    conv => arg 6; whnf
    iterate 4 walk_at "m_st"
  case c => exact Chg.set' (by simp) (Chg.set' (by simp) c)
  case s => exact at_same (at_same e)
  case l => exact at_ne ne (at_ne ne l)
theorem r_next_number {hp lim z : Nat} {last : Int} (hd : 1 ≤ d) (h : H[hp]? = some (oHeap lim last z)) : Fn W d H (.ref f_next_number) [.ref hp] (.int (last + 1)) (H.set hp (oHeap lim (last + 1) z)) := by
  refine' Fn.to (fn_next_number (o := some (.int (last + 1))) P ?x (by walk_at "m_hv") (by walk_at "m_d")) ?e
  case x =>
    conv => arg 6; whnf
    iterate 2 walk_at "m_st"
  case e => rfl
theorem r_new_scalar {hp lim z : Nat} {last : Int} {v : V} (hd : 4 ≤ d) (h : H[hp]? = some (oHeap lim last z)) : ∃ H', Fn W d H (.ref f_new_scalar) [.ref hp, v] (.ref H.length) H' ∧ Chg [hp] H H' ∧ H'[hp]? = some (oHeap lim (last + 1) z) ∧
    (∃ wk, H'[wk]? = some (.list []) ∧ H.length ≤ wk ∧ H'[H.length]? = some (oScalar (last + 1) 0 wk false v)) := by
  have f1 := r_next_number (d := d - 1) P (by walk_at "m_d") h
  obtain ⟨H₂, f2, c2, e2, l2⟩ := r_Scalar_init (d := d - 1 - 1) (H := H.set hp (oHeap lim (last + 1) z) ++ [.inst cScalar []]) (k := last + 1) (v := v) P (by walk_at "m_d") at_new
  have ln : (H.set hp (oHeap lim (last + 1) z)).length = H.length := by simp
  refine' ⟨H₂, fn_new_scalar (o := some (.ref H.length)) P ?x (by walk_at "m_hv") (by walk_at "m_d"), ?c, ?a, _, l2, ?w, ?b⟩
  case x =>
    conv => arg 6; whnf
    rw [← ln]
    walk_at "m_st"
  case c =>
    refine ((Chg.push' (Chg.set' (X := [hp]) (by simp) (Chg.refl _ _))).trans c2).sub fun i m => ?_
    simp at m ⊢
    (first | lia | omega)
  case a => exact c2.at (at_old (at_same h)) (by simp; exact Nat.ne_of_lt (at_lt h))
  case w => simp
  case b => rw [← ln]; exact e2
theorem r_hold {ct th wk it : Nat} {n c : Int} (hd : 1 ≤ d) (h : H[th]? = some (oArray n c wk it)) : Fn W d H (.ref f_hold) [.ref ct, .ref th] .none (H.set th (oArray n (c + 1) wk it)) := by
  refine' Fn.to (fn_hold (o := none) P ?x (by walk_at "m_hv") (by walk_at "m_d")) ?e
  case x =>
    conv => arg 6; whnf
    iterate 2 walk_at "m_st"
  case e => rfl
theorem r_hold_hash {ct th wk it : Nat} {n c : Int} (hd : 1 ≤ d) (h : H[th]? = some (oHash n c wk it)) : Fn W d H (.ref f_hold) [.ref ct, .ref th] .none (H.set th (oHash n (c + 1) wk it)) := by
  refine' Fn.to (fn_hold (o := none) P ?x (by walk_at "m_hv") (by walk_at "m_d")) ?e
  case x =>
    conv => arg 6; whnf
    iterate 2 walk_at "m_st"
  case e => rfl
theorem r_let_go_th {ct hp pl th wk it : Nat} {n c : Int} (hd : 1 ≤ d) (h : H[th]? = some (oArray n c wk it)) (hc : c ≠ 1) : Fn W d H (.ref f_let_go) [.ref ct, .ref th] .none (H.set th (oArray n (c - 1) wk it)) := by
  refine' Fn.to (fn_let_go (o := none) P ?x (by walk_at "m_hv") (by walk_at "m_d")) ?e
  case x =>
    conv => arg 6; whnf
    walk_at "m_st"
    have e : CmpR W (d - 1) (H.set th (.inst cArray (putF (Str.ofString "count") (.int (c - 1)) [(Str.ofString "number", .int n), (Str.ofString "count", .int c), (Str.ofString "blessed", .none), (Str.ofString "weak", .ref wk), (Str.ofString "is_destroyed", .bool false), (Str.ofString "is_freed", .bool false), (Str.ofString "items", .ref it), (Str.ofString "tied", .none)]))) .Eq (.int (c - 1)) (.int 0) false := cmp_eq_int.to (by simp; (first | lia | omega))
    walk_at "m_ifF"
    walk_at "m_st"
  case e => rfl
theorem r_let_go_sc {ct hp pl s wk z lim : Nat} {n last : Int} {v : V} {zs : List V} (hd : 1 ≤ d) (hs : H[s]? = some (oScalar n 1 wk false v)) (hct : H[ct]? = some (oCounter hp pl)) (hhp : H[hp]? = some (oHeap lim last z)) (hz : H[z]? = some (.list zs)) (hl : zs.length ≤ sizeLine)
    (n1 : s ≠ ct) (n2 : s ≠ hp) (n3 : s ≠ z) :
    Fn W d H (.ref f_let_go) [.ref ct, .ref s] .none ((H.set s (oScalar n 0 wk false v)).set z (.list (zs ++ [.ref s]))) := by
  refine' Fn.to (fn_let_go (o := none) P ?x (by walk_at "m_hv") (by walk_at "m_d")) ?e
  case x =>
    conv => arg 6; whnf
    walk_at "m_st"
    walk_at "m_ifT"
    iterate 3 walk_at "m_st"
  case e => rfl
theorem r_take {ct : Nat} {v : V} (hd : 1 ≤ d) (h : v = .none ∨ (∃ i, v = .int i) ∨ (∃ x, v = .str x)) : Fn W d H (.ref f_take) [.ref ct, v] v H := by
  rcases h with rfl | ⟨i, rfl⟩ | ⟨x, rfl⟩
  all_goals
    refine' fn_take (o := some _) P ?x (by walk_at "m_hv") (by walk_at "m_d")
    case x =>
      conv => arg 6; whnf
      walk_at "m_ifR"
      walk_at "m_st"
theorem r_take_ref {ct hp pl r th wk it : Nat} {n c : Int} (hd : 2 ≤ d) (hct : H[ct]? = some (oCounter hp pl)) (hr : H[r]? = some (oRef th)) (h : H[th]? = some (oArray n c wk it)) (ne : th ≠ r) : Fn W d H (.ref f_take) [.ref ct, .ref r] (.ref r) (H.set th (oArray n (c + 1) wk it)) := by
  have f1 := r_hold (d := d - 1) (ct := ct) P (by walk_at "m_d") h
  refine' fn_take (o := some (.ref r)) P ?x (by walk_at "m_hv") (by walk_at "m_d")
  case x =>
    conv => arg 6; whnf
    walk_at "m_ifF"
    walk_at "m_st"
    walk_at "m_ifF"
    walk_at "m_st"
end
inductive PV where
  | none
  | int (i : Int)
  | str (x : Str)
  | ref
  deriving DecidableEq
noncomputable def rf : PV → Nat
  | .ref => 1
  | _ => 0
noncomputable def IsV (th : Nat) (H : List O) : PV → V → Prop
  | .none, v => v = .none
  | .int i, v => v = .int i
  | .str x, v => v = .str x
  | .ref, v => ∃ r, v = .ref r ∧ H[r]? = some (oRef th)
structure Ix where
  hp : Nat
  lim : Nat
  ct : Nat
  pl : Nat
  z : Nat
  th : Nat
  wkt : Nat
  itt : Nat
structure M where
  id : Nat
  num : Int
  val : PV
noncomputable def nref (l : List M) : Nat := l.countP fun m => m.val == .ref
noncomputable def keeps (ix : Ix) (i : Nat) : O → Prop
  | .inst C _ => C ≠ cScalar ∧ C ≠ cHeap ∧ (C = cArray → i ≠ ix.th)
  | .list _ => ix.z < i
  | _ => True
noncomputable def Sub (ix : Ix) (H H' : List O) : Prop := H.length ≤ H'.length ∧ ∀ i o, H[i]? = some o → keeps ix i o → H'[i]? = some o
theorem Sub.refl (ix : Ix) (H : List O) : Sub ix H H := ⟨Nat.le_refl _, fun _ _ e _ => e⟩
theorem Sub.trans {ix : Ix} {H H₁ H' : List O} (x : Sub ix H H₁) (y : Sub ix H₁ H') : Sub ix H H' := ⟨Nat.le_trans x.1 y.1, fun i o e k => y.2 i o (x.2 i o e k) k⟩
theorem Sub.at {ix : Ix} {H H' : List O} {i : Nat} {o : O} (x : Sub ix H H') (e : H[i]? = some o) (k : keeps ix i o) : H'[i]? = some o := x.2 i o e k
theorem Sub.ref {ix : Ix} {H H' : List O} {i t : Nat} (x : Sub ix H H') (e : H[i]? = some (oRef t)) : H'[i]? = some (oRef t) := x.at e ⟨by decide, by decide, fun h => absurd h (by decide)⟩
theorem Sub.ctr {ix : Ix} {H H' : List O} {i a b : Nat} (x : Sub ix H H') (e : H[i]? = some (oCounter a b)) : H'[i]? = some (oCounter a b) := x.at e ⟨by decide, by decide, fun h => absurd h (by decide)⟩
theorem Sub.hash {ix : Ix} {H H' : List O} {i w t : Nat} {n c : Int} (x : Sub ix H H') (e : H[i]? = some (oHash n c w t)) : H'[i]? = some (oHash n c w t) := x.at e ⟨by decide, by decide, fun h => absurd h (by decide)⟩
theorem Sub.arr {ix : Ix} {H H' : List O} {i w t : Nat} {n c : Int} (x : Sub ix H H') (e : H[i]? = some (oArray n c w t)) (ne : i ≠ ix.th) : H'[i]? = some (oArray n c w t) := x.at e ⟨by decide, by decide, fun _ => ne⟩
theorem Sub.lst {ix : Ix} {H H' : List O} {i : Nat} {vs : List V} (x : Sub ix H H') (e : H[i]? = some (.list vs)) (l : ix.z < i) : H'[i]? = some (.list vs) := x.at e l
theorem Sub.tup {ix : Ix} {H H' : List O} {i : Nat} {vs : List V} (x : Sub ix H H') (e : H[i]? = some (.tup vs)) : H'[i]? = some (.tup vs) := x.at e trivial
theorem Sub.sd {ix : Ix} {H H' : List O} {i : Nat} {es : List (Str × V)} {ep : Nat} (x : Sub ix H H') (e : H[i]? = some (.sd es ep)) : H'[i]? = some (.sd es ep) := x.at e trivial
theorem Sub.idt {ix : Ix} {H H' : List O} {i : Nat} {es : List (Int × V)} {ep : Nat} (x : Sub ix H H') (e : H[i]? = some (.idt es ep)) : H'[i]? = some (.idt es ep) := x.at e trivial
theorem Sub.push {ix : Ix} {H : List O} {o : O} : Sub ix H (H ++ [o]) := ⟨by simp, fun _ _ e _ => at_old e⟩
theorem Sub.set {ix : Ix} {H : List O} {i : Nat} {o o' : O} (e : H[i]? = some o) (n : ¬ keeps ix i o) : Sub ix H (H.set i o') := ⟨by simp, fun j u e' k => at_ne (fun q => by subst q; rw [e] at e'; cases e'; exact n k) e'⟩
theorem Chg.toSub {ix : Ix} {X : List Nat} {H H' : List O} (x : Chg X H H') (n : ∀ i ∈ X, ∀ o, H[i]? = some o → ¬ keeps ix i o) : Sub ix H H' := ⟨x.1, fun i o e k => x.2 i o (fun m => n i m o e k) e⟩
theorem nk_sc {ix : Ix} {i : Nat} {fs : List (Str × V)} : ¬ keeps ix i (.inst cScalar fs) := fun h => h.1 rfl
theorem nk_hp {ix : Ix} {i : Nat} {fs : List (Str × V)} : ¬ keeps ix i (.inst cHeap fs) := fun h => h.2.1 rfl
theorem nk_th {ix : Ix} {fs : List (Str × V)} : ¬ keeps ix ix.th (.inst cArray fs) := fun h => h.2.2 rfl rfl
theorem nk_z {ix : Ix} {vs : List V} : ¬ keeps ix ix.z (.list vs) := fun h => Nat.lt_irrefl _ h
theorem IsV.mono {ix : Ix} {H H' : List O} {p : PV} {v : V} (x : IsV ix.th H p v) (s : Sub ix H H') : IsV ix.th H' p v := by
  cases p with
  | ref => obtain ⟨r, e, h⟩ := x; exact ⟨r, e, s.ref h⟩
  | _ => exact x
inductive MemAt (ix : Ix) (H : List O) (c : Int) (m : M) : Prop
  | mk (wk : Nat) (v : V) (h : H[m.id]? = some (oScalar m.num c wk false v)) (iv : IsV ix.th H m.val v) (hw : H[wk]? = some (.list [])) (lt : ix.z < wk) : MemAt ix H c m
theorem MemAt.mono {ix : Ix} {H H' : List O} {c : Int} {m : M} (x : MemAt ix H c m) (s : Sub ix H H') (e : ∀ o, H[m.id]? = some o → H'[m.id]? = some o) : MemAt ix H' c m := by
  obtain ⟨wk, v, a, b, c', d⟩ := x
  exact ⟨wk, v, e _ a, b.mono s, s.lst c' d, d⟩
structure CoreC (ix : Ix) (H : List O) (last : Int) (live zs : List M) (c : Int) : Prop where
  ct : H[ix.ct]? = some (oCounter ix.hp ix.pl)
  pl : H[ix.pl]? = some (.idt [] 0)
  hp : H[ix.hp]? = some (oHeap ix.lim last ix.z)
  z : H[ix.z]? = some (.list (zs.map fun m => .ref m.id))
  th : H[ix.th]? = some (oArray 1 c ix.wkt ix.itt)
  liv : ∀ m ∈ live, MemAt ix H 1 m
  ded : ∀ m ∈ zs, MemAt ix H 0 m
  ids : ((live ++ zs).map (·.id)).Nodup
  nums : ((live ++ zs).map (·.num)).Nodup
  numle : ∀ m ∈ live ++ zs, m.num ≤ last
  cnt : ((live ++ zs).length : Int) ≤ last
noncomputable abbrev Core (ix : Ix) (H : List O) (last : Int) (live zs : List M) : Prop := CoreC ix H last live zs (1 + (nref live + nref zs : Nat))
theorem Core.perm {ix : Ix} {H : List O} {last : Int} {live live' zs : List M} (x : Core ix H last live zs) (p : live.Perm live') : Core ix H last live' zs where
  ct := x.ct
  pl := x.pl
  hp := x.hp
  z := x.z
  th := by have : nref live' = nref live := (p.countP_eq _).symm; rw [this]; exact x.th
  liv := fun m h => x.liv m (p.mem_iff.mpr h)
  ded := x.ded
  ids := ((p.append_right zs).map _).nodup_iff.mp x.ids
  nums := ((p.append_right zs).map _).nodup_iff.mp x.nums
  numle := fun m h => x.numle m ((p.append_right zs).mem_iff.mpr h)
  cnt := by rw [← (p.append_right zs).length_eq]; exact x.cnt
theorem CoreC.mono {ix : Ix} {H H' : List O} {last c : Int} {live zs : List M} (x : CoreC ix H last live zs c) (k : ∀ i o, H[i]? = some o → i = ix.z ∨ (∃ fs, o = .inst cScalar fs) ∨ (∃ fs, o = .inst cHeap fs) ∨ i = ix.th → H'[i]? = some o) (s : Sub ix H H') : CoreC ix H' last live zs c where
  ct := s.ctr x.ct
  pl := s.idt x.pl
  hp := k _ _ x.hp (.inr (.inr (.inl ⟨_, rfl⟩)))
  z := k _ _ x.z (.inl rfl)
  th := k _ _ x.th (.inr (.inr (.inr rfl)))
  liv := fun m h => (x.liv m h).mono s fun o e => by
    obtain ⟨wk, v, a, _⟩ := x.liv m h
    rw [a] at e; cases e
    exact k _ _ a (.inr (.inl ⟨_, rfl⟩))
  ded := fun m h => (x.ded m h).mono s fun o e => by
    obtain ⟨wk, v, a, _⟩ := x.ded m h
    rw [a] at e; cases e
    exact k _ _ a (.inr (.inl ⟨_, rfl⟩))
  ids := x.ids
  nums := x.nums
  numle := x.numle
  cnt := x.cnt
theorem Core.mono {ix : Ix} {H H' : List O} {last : Int} {live zs : List M} (x : Core ix H last live zs) (k : ∀ i o, H[i]? = some o → i = ix.z ∨ (∃ fs, o = .inst cScalar fs) ∨ (∃ fs, o = .inst cHeap fs) ∨ i = ix.th → H'[i]? = some o) (s : Sub ix H H') : Core ix H' last live zs := CoreC.mono x k s
theorem CoreC.push {ix : Ix} {H : List O} {last c : Int} {live zs : List M} {o : O} (x : CoreC ix H last live zs c) : CoreC ix (H ++ [o]) last live zs c := x.mono (fun i o e _ => at_old e) Sub.push
theorem Core.push {ix : Ix} {H : List O} {last : Int} {live zs : List M} {o : O} (x : Core ix H last live zs) : Core ix (H ++ [o]) last live zs := x.mono (fun i o e _ => at_old e) Sub.push
theorem set_self {H : List O} {i : Nat} {o : O} (h : H[i]? = some o) : H.set i o = H := by
  apply List.ext_getElem?
  intro j
  by_cases e : i = j
  · subst e; rw [at_same h, h]
  · rw [List.getElem?_set_ne e]

section
variable {W : Wd} {d : Nat} {H : List O} (P : PF W.K)
include P
theorem c_take {ix : Ix} {p : PV} {v : V} {c : Int} (hd : 2 ≤ d) (hct : H[ix.ct]? = some (oCounter ix.hp ix.pl)) (hth : H[ix.th]? = some (oArray 1 c ix.wkt ix.itt)) (hv : IsV ix.th H p v) : Fn W d H (.ref f_take) [.ref ix.ct, v] v (H.set ix.th (oArray 1 (c + rf p) ix.wkt ix.itt)) := by
  cases p with
  | ref =>
    obtain ⟨r, rfl, hr⟩ := hv
    exact r_take_ref P hd hct hr hth fun q => by rw [q, hr] at hth; cases hth
  | none => subst hv; simp only [rf, Int.natCast_zero, Int.add_zero]; rw [set_self hth]; exact r_take P (by walk_at "m_d") (.inl rfl)
  | int i => subst hv; simp only [rf, Int.natCast_zero, Int.add_zero]; rw [set_self hth]; exact r_take P (by walk_at "m_d") (.inr (.inl ⟨_, rfl⟩))
  | str x => subst hv; simp only [rf, Int.natCast_zero, Int.add_zero]; rw [set_self hth]; exact r_take P (by walk_at "m_d") (.inr (.inr ⟨_, rfl⟩))
theorem r_put_off {ct : Nat} {s v : V} (hd : 1 ≤ d) (h : v = .none ∨ (∃ i, v = .int i) ∨ (∃ x, v = .str x)) : Fn W d H (.ref f_put_off) [.ref ct, s, v] .none H := by
  rcases h with rfl | ⟨i, rfl⟩ | ⟨x, rfl⟩
  all_goals
    refine' fn_put_off (o := some _) P ?x (by walk_at "m_hv") (by walk_at "m_d")
    case x =>
      conv => arg 6; whnf
      walk_at "m_ifR"
      walk_at "m_st"
theorem r_put_off_ref {ct hp pl r th wk it : Nat} {s : V} {n c : Int} (hd : 2 ≤ d) (hct : H[ct]? = some (oCounter hp pl)) (hr : H[r]? = some (oRef th)) (h : H[th]? = some (oArray n c wk it)) (hc : c ≠ 1) : Fn W d H (.ref f_put_off) [.ref ct, s, .ref r] .none (H.set th (oArray n (c - 1) wk it)) := by
  have f1 := r_let_go_th (d := d - 1) (ct := ct) (hp := hp) (pl := pl) P (by walk_at "m_d") h hc
  refine' fn_put_off (o := none) P ?x (by walk_at "m_hv") (by walk_at "m_d")
  case x =>
    conv => arg 6; whnf
    walk_at "m_ifF"
    walk_at "m_ifE"
    iterate 3 walk_at "m_st"
theorem c_put_off {ix : Ix} {p : PV} {s v : V} {c : Int} (hd : 2 ≤ d) (hct : H[ix.ct]? = some (oCounter ix.hp ix.pl)) (hth : H[ix.th]? = some (oArray 1 c ix.wkt ix.itt)) (hv : IsV ix.th H p v) (hc : c - rf p ≠ 0) : Fn W d H (.ref f_put_off) [.ref ix.ct, s, v] .none (H.set ix.th (oArray 1 (c - rf p) ix.wkt ix.itt)) := by
  cases p with
  | ref =>
    obtain ⟨r, rfl, hr⟩ := hv
    exact r_put_off_ref P hd hct hr hth fun q => by subst q; exact hc rfl
  | none => subst hv; simp only [rf, Int.natCast_zero, Int.sub_zero]; rw [set_self hth]; exact r_put_off P (by walk_at "m_d") (.inl rfl)
  | int i => subst hv; simp only [rf, Int.natCast_zero, Int.sub_zero]; rw [set_self hth]; exact r_put_off P (by walk_at "m_d") (.inr (.inl ⟨_, rfl⟩))
  | str x => subst hv; simp only [rf, Int.natCast_zero, Int.sub_zero]; rw [set_self hth]; exact r_put_off P (by walk_at "m_d") (.inr (.inr ⟨_, rfl⟩))
end
theorem nref_append (a b : List M) : nref (a ++ b) = nref a + nref b := List.countP_append
theorem nref_cons (m : M) (b : List M) : nref (m :: b) = rf m.val + nref b := by
  unfold nref
  rw [List.countP_cons]
  obtain ⟨i, n, p⟩ := m
  cases p <;> simp [rf] <;> (first | lia | omega)
theorem nref_nil : nref [] = 0 := rfl
theorem CoreC.ne_th {ix : Ix} {H : List O} {last c : Int} {live zs : List M} (C : CoreC ix H last live zs c) {m : M} (h : m ∈ live ++ zs) : m.id ≠ ix.th ∧ m.id ≠ ix.hp ∧ m.id ≠ ix.z ∧ m.id ≠ ix.ct ∧ m.id < H.length ∧ ∃ c fs, H[m.id]? = some (.inst cScalar ((Str.ofString "number", .int m.num) :: (Str.ofString "count", .int c) :: fs)) := by
  have : ∃ c, MemAt ix H c m := by
    rcases List.mem_append.mp h with h | h
    · exact ⟨_, C.liv m h⟩
    · exact ⟨_, C.ded m h⟩
  obtain ⟨c, wk, v, a, _⟩ := this
  refine ⟨fun q => ?_, fun q => ?_, fun q => ?_, fun q => ?_, at_lt a, c, _, a⟩
  · rw [q, C.th] at a; cases a
  · rw [q, C.hp] at a; cases a
  · rw [q, C.z] at a; cases a
  · rw [q, C.ct] at a; cases a
theorem CoreC.apart {ix : Ix} {H : List O} {last c : Int} {live zs : List M} (C : CoreC ix H last live zs c) : ix.th ≠ ix.hp ∧ ix.th ≠ ix.z ∧ ix.hp ≠ ix.z ∧ ix.ct ≠ ix.th ∧ ix.ct ≠ ix.hp ∧ ix.ct ≠ ix.z := by
  refine ⟨fun q => ?_, fun q => ?_, fun q => ?_, fun q => ?_, fun q => ?_, fun q => ?_⟩
  · have := C.th; rw [q, C.hp] at this; cases this
  · have := C.th; rw [q, C.z] at this; cases this
  · have := C.hp; rw [q, C.z] at this; cases this
  · have := C.ct; rw [q, C.th] at this; cases this
  · have := C.ct; rw [q, C.hp] at this; cases this
  · have := C.ct; rw [q, C.z] at this; cases this
section
variable {W : Wd} {d : Nat} {H : List O} (P : PF W.K)
include P
theorem c_freshC {ix : Ix} {last c : Int} {live zs : List M} {p : PV} {v : V} (hd : 6 ≤ d) (C : CoreC ix H last live zs c) (hv : IsV ix.th H p v) :
    ∃ H', Fn W d H (.ref f_fresh) [.ref ix.ct, v] (.ref H.length) H' ∧ CoreC ix H' (last + 1) (live ++ [⟨H.length, last + 1, p⟩]) zs (c + rf p) ∧ Sub ix H H' := by
  obtain ⟨a1, a2, a3, a4, a5, a6⟩ := C.apart
  have f1 := c_take (d := d - 1) P (by walk_at "m_d") C.ct C.th hv
  have hct := C.ct
  have e1 : (H.set ix.th (oArray 1 (c + rf p) ix.wkt ix.itt))[ix.hp]? = some (oHeap ix.lim last ix.z) := at_ne a1 C.hp
  refine cps fun G hG => ?_
  obtain ⟨H₂, f2, c2, e2, wk, l2, lw, s2⟩ := r_new_scalar (d := d - 1) (v := v) P (by walk_at "m_d") e1
  refine hG ?_
  clear hG
  simp only [List.length_set] at f2 lw s2
  have hhp := C.hp
  have c3 : Chg [ix.th, ix.hp] H H₂ := (Chg.set.trans c2).sub fun i h => by simp at h ⊢; (first | lia | omega)
  have ne : ∀ {i o}, H[i]? = some o → H.length ≠ i := fun {i o} e => Nat.ne_of_gt (at_lt e)
  have keep : ∀ i o, i ≠ ix.th → i ≠ ix.hp → H[i]? = some o → (H₂.set H.length (oScalar (last + 1) 1 wk false v))[i]? = some o := fun i o n1 n2 e => at_ne (ne e) (c3.at e (by simp [n1, n2]))
  have sub : Sub ix H (H₂.set H.length (oScalar (last + 1) 1 wk false v)) := by
    refine (Chg.setN (X := [ix.th, ix.hp]) (Nat.le_refl _) c3).toSub fun i h o e => ?_
    simp at h
    rcases h with rfl | rfl
    · rw [C.th] at e; cases e; exact nk_th
    · rw [C.hp] at e; cases e; exact nk_hp
  have hth : (H₂.set H.length (oScalar (last + 1) 1 wk false v))[ix.th]? = some (oArray 1 (c + rf p) ix.wkt ix.itt) := at_ne (ne C.th) (c2.at (at_same C.th) (by simp [a1]))
  refine ⟨H₂.set H.length (oScalar (last + 1) 1 wk false v), ?_, ?_, sub⟩
  · refine' Fn.to (fn_fresh (o := some (.ref H.length)) P ?x (by walk_at "m_hv") (by walk_at "m_d")) ?e
    case x =>
      conv => arg 6; whnf
      iterate 3 walk_at "m_st"
    case e => rfl
  · have z3 : ix.z < wk := Nat.lt_of_lt_of_le (at_lt C.z) lw
    have mem : ∀ c m, m ∈ live ++ zs → MemAt ix H c m → MemAt ix (H₂.set H.length (oScalar (last + 1) 1 wk false v)) c m := fun c m h x => x.mono sub fun o e => keep _ _ (C.ne_th h).1 (C.ne_th h).2.1 e
    have fresh : ∀ m ∈ live ++ zs, m.id ≠ H.length := fun m h => Nat.ne_of_lt (C.ne_th h).2.2.2.2.1
    have pm : ((live ++ [(⟨H.length, last + 1, p⟩ : M)]) ++ zs).Perm ((⟨H.length, last + 1, p⟩ : M) :: (live ++ zs)) := by
      simp only [List.append_assoc, List.singleton_append]
      exact List.perm_middle
    exact {
      ct := sub.ctr C.ct
      pl := sub.idt C.pl
      hp := at_ne (ne C.hp) e2
      z := keep _ _ (Ne.symm a2) (Ne.symm a3) C.z
      th := hth
      liv := fun m h => by
        rcases List.mem_append.mp h with h | h
        · exact mem 1 m (List.mem_append_left _ h) (C.liv m h)
        · simp at h
          subst h
          exact ⟨wk, v, at_same s2, hv.mono sub, at_ne (fun q => by rw [q] at s2; rw [s2] at l2; cases l2) l2, z3⟩
      ded := fun m h => mem 0 m (List.mem_append_right _ h) (C.ded m h)
      ids := by
        refine (pm.map _).nodup_iff.mpr ?_
        simp only [List.map_cons, List.nodup_cons]
        refine ⟨fun h => ?_, C.ids⟩
        obtain ⟨m, h1, h2⟩ := List.mem_map.mp h
        exact fresh m h1 h2
      nums := by
        refine (pm.map _).nodup_iff.mpr ?_
        simp only [List.map_cons, List.nodup_cons]
        refine ⟨fun h => ?_, C.nums⟩
        obtain ⟨m, h1, h2⟩ := List.mem_map.mp h
        have := C.numle m h1
        (first | lia | omega)
      numle := fun m h => by
        rcases List.mem_cons.mp (pm.mem_iff.mp h) with rfl | h
        · exact Int.le_refl _
        · have := C.numle m h; (first | lia | omega)
      cnt := by
        rw [pm.length_eq]
        have := C.cnt
        simp only [List.length_cons, List.length_append] at this ⊢
        push_cast at this ⊢
        (first | lia | omega) }
theorem c_fresh {ix : Ix} {last : Int} {live zs : List M} {p : PV} {v : V} (hd : 6 ≤ d) (C : Core ix H last live zs) (hv : IsV ix.th H p v) :
    ∃ H', Fn W d H (.ref f_fresh) [.ref ix.ct, v] (.ref H.length) H' ∧ Core ix H' (last + 1) (live ++ [⟨H.length, last + 1, p⟩]) zs ∧ Sub ix H H' := by
  obtain ⟨H', f, C', s⟩ := c_freshC P hd C hv
  refine ⟨H', f, ?_, s⟩
  have : (1 + ((nref (live ++ [⟨H.length, last + 1, p⟩]) + nref zs : Nat) : Int)) = (1 + (nref live + nref zs : Nat) : Int) + rf p := by rw [nref_append, nref_cons, nref_nil]; push_cast; (first | lia | omega)
  unfold Core
  rw [this]
  exact C'
end
section
variable {W : Wd} {d : Nat} {H : List O} (P : PF W.K)
include P
theorem c_store {ix : Ix} {last : Int} {l₁ l₂ zs : List M} {m : M} {p : PV} {v : V} (hd : 4 ≤ d) (C : Core ix H last (l₁ ++ m :: l₂) zs) (hv : IsV ix.th H p v) :
    ∃ H', Fn W d H (.ref f_store) [.ref ix.ct, .ref m.id, v] .none H' ∧ Core ix H' last (l₁ ++ { m with val := p } :: l₂) zs ∧ Sub ix H H' := by
  refine cps fun G hG => ?_
  obtain ⟨a1, a2, a3, a4, a5, a6⟩ := C.apart
  refine hG ?_
  clear hG
  have hm : m ∈ l₁ ++ m :: l₂ := by simp
  refine cps fun G hG => ?_
  obtain ⟨wk, vo, hs, ho, lw, z3⟩ := C.liv m hm
  refine hG ?_
  clear hG
  refine cps fun G hG => ?_
  obtain ⟨b1, b2, b3, b4, b5, _⟩ := C.ne_th (List.mem_append_left zs hm)
  refine hG ?_
  clear hG
  have f1 := c_take (d := d - 1) P (by walk_at "m_d") C.ct C.th hv
  have hct := C.ct
  have hpl := C.pl
  have c1 : (H.set ix.th (oArray 1 ((1 + (nref (l₁ ++ m :: l₂) + nref zs : Nat) : Int) + rf p) ix.wkt ix.itt))[ix.ct]? = some (oCounter ix.hp ix.pl) := at_ne (Ne.symm a4) hct
  have hs1 : (H.set ix.th (oArray 1 ((1 + (nref (l₁ ++ m :: l₂) + nref zs : Nat) : Int) + rf p) ix.wkt ix.itt))[m.id]? = some (oScalar m.num 1 wk false vo) := at_ne (Ne.symm b1) hs
  generalize hH₂ : (H.set ix.th (oArray 1 ((1 + (nref (l₁ ++ m :: l₂) + nref zs : Nat) : Int) + rf p) ix.wkt ix.itt)).set m.id (oScalar m.num 1 wk false v) = H₂
  have s2 : Sub ix H H₂ := by
    rw [← hH₂]
    exact (Sub.set C.th nk_th).trans (Sub.set hs1 nk_sc)
  have hct2 : H₂[ix.ct]? = some (oCounter ix.hp ix.pl) := s2.ctr hct
  have hth2 : H₂[ix.th]? = some (oArray 1 ((1 + (nref (l₁ ++ m :: l₂) + nref zs : Nat) : Int) + rf p) ix.wkt ix.itt) := by rw [← hH₂]; exact at_ne b1 (at_same C.th)
  have nr : nref (l₁ ++ m :: l₂) = nref l₁ + (rf m.val + nref l₂) := by rw [nref_append, nref_cons]
  have f2 := c_put_off (d := d - 1) (s := .ref m.id) P (by walk_at "m_d") hct2 hth2 (ho.mono s2) (by rw [nr]; push_cast; (first | lia | omega))
  have s3 : Sub ix H₂ (H₂.set ix.th (oArray 1 (((1 + (nref (l₁ ++ m :: l₂) + nref zs : Nat) : Int) + rf p) - rf m.val) ix.wkt ix.itt)) := Sub.set hth2 nk_th
  have s := s2.trans s3
  have keep : ∀ i o, i ≠ ix.th → i ≠ m.id → H[i]? = some o → (H₂.set ix.th (oArray 1 (((1 + (nref (l₁ ++ m :: l₂) + nref zs : Nat) : Int) + rf p) - rf m.val) ix.wkt ix.itt))[i]? = some o := fun i o n1 n2 e => at_ne (Ne.symm n1) (by rw [← hH₂]; exact at_ne (Ne.symm n2) (at_ne (Ne.symm n1) e))
  refine ⟨_, ?_, ?_, s⟩
  · refine' fn_store (o := none) P ?x (by walk_at "m_hv") (by walk_at "m_d")
    case x =>
      conv => arg 6; whnf
      walk_at "m_st"
      walk_at "m_ifF"
      iterate 2 walk_at "m_st"
      change Ex W (d - 1) _ _ ((H.set ix.th (oArray 1 ((1 + (nref (l₁ ++ m :: l₂) + nref zs : Nat) : Int) + rf p) ix.wkt ix.itt)).set m.id (oScalar m.num 1 wk false v)) _ _ _ _
      rw [hH₂]
      iterate 2 walk_at "m_st"
  · have idm : (((l₁ ++ m :: l₂) ++ zs).map (·.id)) = ((l₁ ++ { m with val := p } :: l₂) ++ zs).map (·.id) := by simp
    have numm : (((l₁ ++ m :: l₂) ++ zs).map (·.num)) = ((l₁ ++ { m with val := p } :: l₂) ++ zs).map (·.num) := by simp
    have nd := C.ids
    have other : ∀ x ∈ (l₁ ++ l₂) ++ zs, x.id ≠ m.id := fun x h q => by
      have pm : ((l₁ ++ m :: l₂) ++ zs).Perm (m :: ((l₁ ++ l₂) ++ zs)) := List.perm_middle.append_right zs
      have := (pm.map (·.id)).nodup_iff.mp nd
      simp only [List.map_cons, List.nodup_cons] at this
      exact this.1 (List.mem_map.mpr ⟨x, h, q⟩)
    have mem : ∀ c x, x ∈ (l₁ ++ m :: l₂) ++ zs → x.id ≠ m.id → MemAt ix H c x → MemAt ix (H₂.set ix.th (oArray 1 (((1 + (nref (l₁ ++ m :: l₂) + nref zs : Nat) : Int) + rf p) - rf m.val) ix.wkt ix.itt)) c x := fun c x h n y => y.mono s fun o e => keep _ _ (C.ne_th h).1 n e
    exact {
      ct := s.ctr C.ct
      pl := s.idt C.pl
      hp := keep _ _ (Ne.symm a1) (Ne.symm b2) C.hp
      z := keep _ _ (Ne.symm a2) (Ne.symm b3) C.z
      th := by
        have e : nref (l₁ ++ { m with val := p } :: l₂) = nref l₁ + (rf p + nref l₂) := by rw [nref_append, nref_cons]
        have : (1 + ((nref (l₁ ++ { m with val := p } :: l₂) + nref zs : Nat) : Int)) = ((1 + (nref (l₁ ++ m :: l₂) + nref zs : Nat) : Int) + rf p) - rf m.val := by rw [e, nr]; push_cast; (first | lia | omega)
        rw [this]; exact at_same hth2
      liv := fun x h => by
        rcases List.mem_append.mp h with h | h
        · exact mem 1 x (by simp [h]) (other x (by simp [h])) (C.liv x (by simp [h]))
        · rcases List.mem_cons.mp h with rfl | h
          · refine ⟨wk, v, at_ne (Ne.symm b1) (by rw [← hH₂]; exact at_same hs1), hv.mono s, s.lst lw z3, z3⟩
          · exact mem 1 x (by simp [h]) (other x (by simp [h])) (C.liv x (by simp [h]))
      ded := fun x h => mem 0 x (by simp [h]) (other x (by simp [h])) (C.ded x h)
      ids := idm ▸ C.ids
      nums := numm ▸ C.nums
      numle := fun x h => by
        have : x.num ∈ ((l₁ ++ { m with val := p } :: l₂) ++ zs).map (·.num) := List.mem_map.mpr ⟨x, h, rfl⟩
        rw [← numm] at this
        obtain ⟨y, h1, h2⟩ := List.mem_map.mp this
        rw [← h2]; exact C.numle y h1
      cnt := by have := C.cnt; simpa using this }
theorem r_drop {ix : Ix} {s : Nat} {H' : List O} (hd : 2 ≤ d) (f1 : Fn W (d - 1) H (.ref f_let_go) [.ref ix.ct, .ref s] .none H') (hct : H[ix.ct]? = some (oCounter ix.hp ix.pl)) : Fn W d H (.ref f_drop) [.ref ix.ct, .ref s] .none H' := by
  refine' fn_drop (o := none) P ?x (by walk_at "m_hv") (by walk_at "m_d")
  case x =>
    conv => arg 6; whnf
    iterate 2 walk_at "m_st"
theorem c_drop_member {ix : Ix} {last : Int} {l₁ l₂ zs : List M} {m : M} (hd : 4 ≤ d) (C : Core ix H last (l₁ ++ m :: l₂) zs) (hl : last ≤ 16000000) :
    ∃ v H', Fn W d H (.ref f_drop_member) [.ref ix.ct, .ref m.id] v H' ∧ Core ix H' last (l₁ ++ l₂) (zs ++ [m]) ∧ Sub ix H H' := by
  refine cps fun G hG => ?_
  obtain ⟨a1, a2, a3, a4, a5, a6⟩ := C.apart
  refine hG ?_
  clear hG
  have hm : m ∈ l₁ ++ m :: l₂ := by simp
  refine cps fun G hG => ?_
  obtain ⟨wk, v, hs, ho, lw, z3⟩ := C.liv m hm
  refine hG ?_
  clear hG
  refine cps fun G hG => ?_
  obtain ⟨b1, b2, b3, b4, b5, _⟩ := C.ne_th (List.mem_append_left zs hm)
  refine hG ?_
  clear hG
  have hct := C.ct
  have f1 := r_value_of_sc (d := d - 1) P (by walk_at "m_d") hs
  have zl : zs.length ≤ sizeLine := by
    have := C.cnt
    simp only [List.length_append, List.length_cons] at this
    rw [sizeLine_eq]; push_cast at this; (first | lia | omega)
  have f2 := r_let_go_sc (d := d - 1 - 1) P (by walk_at "m_d") hs hct C.hp C.z (by simpa using zl) b4 b2 b3
  have f3 := r_drop (d := d - 1) P (by walk_at "m_d") f2 hct
  have s : Sub ix H ((H.set m.id (oScalar m.num 0 wk false v)).set ix.z (.list ((zs.map fun m => V.ref m.id) ++ [.ref m.id]))) := (Sub.set hs nk_sc).trans (Sub.set (at_ne b3 C.z) nk_z)
  have keep : ∀ i o, i ≠ ix.z → i ≠ m.id → H[i]? = some o → ((H.set m.id (oScalar m.num 0 wk false v)).set ix.z (.list ((zs.map fun m => V.ref m.id) ++ [.ref m.id])))[i]? = some o := fun i o n1 n2 e => at_ne (Ne.symm n1) (at_ne (Ne.symm n2) e)
  refine ⟨v, _, ?_, ?_, s⟩
  · refine' fn_drop_member (o := some v) P ?x (by walk_at "m_hv") (by walk_at "m_d")
    case x =>
      conv => arg 6; whnf
      walk_at "m_ifF"
      iterate 3 walk_at "m_st"
  · have pm : ((l₁ ++ m :: l₂) ++ zs).Perm ((l₁ ++ l₂) ++ (zs ++ [m])) := by
      have e1 : ((l₁ ++ m :: l₂) ++ zs).Perm (m :: ((l₁ ++ l₂) ++ zs)) := List.perm_middle.append_right zs
      have e2 : ((l₁ ++ l₂) ++ (zs ++ [m])).Perm (m :: ((l₁ ++ l₂) ++ zs)) := by
        have := @List.perm_middle _ m ((l₁ ++ l₂) ++ zs) []
        simpa using this
      exact e1.trans e2.symm
    have other : ∀ x ∈ (l₁ ++ l₂) ++ zs, x.id ≠ m.id := fun x h q => by
      have e1 : ((l₁ ++ m :: l₂) ++ zs).Perm (m :: ((l₁ ++ l₂) ++ zs)) := List.perm_middle.append_right zs
      have := (e1.map (·.id)).nodup_iff.mp C.ids
      simp only [List.map_cons, List.nodup_cons] at this
      exact this.1 (List.mem_map.mpr ⟨x, h, q⟩)
    have up : ∀ x ∈ (l₁ ++ l₂) ++ zs, x ∈ (l₁ ++ m :: l₂) ++ zs := fun x h => by simp at h ⊢; rcases h with h | h | h <;> simp [h]
    have mem : ∀ c x, x ∈ (l₁ ++ l₂) ++ zs → MemAt ix H c x → MemAt ix ((H.set m.id (oScalar m.num 0 wk false v)).set ix.z (.list ((zs.map fun m => V.ref m.id) ++ [.ref m.id]))) c x := fun c x h y => y.mono s fun o e => keep _ _ (C.ne_th (up x h)).2.2.1 (other x h) e
    exact {
      ct := s.ctr C.ct
      pl := s.idt C.pl
      hp := keep _ _ a3 (Ne.symm b2) C.hp
      z := by rw [List.map_append]; exact at_same (at_ne b3 C.z)
      th := by
        have : nref (l₁ ++ l₂) + nref (zs ++ [m]) = nref (l₁ ++ m :: l₂) + nref zs := by simp only [nref_append, nref_cons, nref_nil]; (first | lia | omega)
        rw [this]; exact keep _ _ a2 (Ne.symm b1) C.th
      liv := fun x h => by
        have h' : x ∈ l₁ ++ m :: l₂ := by simp at h ⊢; rcases h with h | h <;> simp [h]
        exact mem 1 x (List.mem_append_left _ h) (C.liv x h')
      ded := fun x h => by
        rcases List.mem_append.mp h with h | h
        · exact mem 0 x (List.mem_append_right _ h) (C.ded x h)
        · simp at h; subst h
          exact ⟨wk, v, at_ne (Ne.symm b3) (at_same hs), ho.mono s, s.lst lw z3, z3⟩
      ids := (pm.map _).nodup_iff.mp C.ids
      nums := (pm.map _).nodup_iff.mp C.nums
      numle := fun x h => C.numle x (pm.mem_iff.mpr h)
      cnt := by rw [← pm.length_eq]; exact C.cnt }
end
noncomputable def Le (ρ ρ' : Loc) : Prop := ∀ x v, ρ.lookup x = some v → ρ'.lookup x = some v
theorem Le.nil {ρ : Loc} : Le [] ρ := fun _ _ e => by cases e
theorem Le.cons {ρ ρ' : Loc} {n : Str} {v : V} (e : ρ'.lookup n = some v) (x : Le ρ ρ') : Le ((n, v) :: ρ) ρ' := fun m u h => by
  by_cases q : m = n
  · subst q; simp at h; subst h; exact e
  · rw [lookup_cons_ne q] at h; exact x m u h
section
variable {W : Wd} {d : Nat} {sc : Scope} {H H' : List O}
theorem Ex.weak {ρ ρ' ρ₂ : Loc} {ss : List Stmt} {o : Out} (x : Ex W d sc ρ H ss o ρ' H') (l : Le ρ₂ ρ') : Ex W d sc ρ H ss o ρ₂ H' := fun A env h t σ φ Q E r F R k => x A env h t σ φ Q E r F R fun f h' t' φ' ho F' R' kq => k f h' t' φ' ho (F'.sub l) R' kq
theorem Ex.more {ρ ρ' ρ₂ : Loc} {ss : List Stmt} {o : Out} (x : Ex W d sc ρ₂ H ss o ρ' H') (l : Le ρ₂ ρ) : Ex W d sc ρ H ss o ρ' H' := fun A env h t σ φ Q E r F R k => x A env h t σ φ Q E r (F.sub l) R k
theorem Ex1.weak {ρ ρ' ρ₂ : Loc} {s : Stmt} {o : Out} (x : Ex1 W d sc ρ H s o ρ' H') (l : Le ρ₂ ρ') : Ex1 W d sc ρ H s o ρ₂ H' := fun A env h t σ φ Q E r F R k => x A env h t σ φ Q E r F R fun f h' t' φ' ho F' R' kq => k f h' t' φ' ho (F'.sub l) R' kq
theorem Ev.le' {ρ : Loc} {e : PySem.Expr} {v : V} {d' : Nat} (x : Ev W d sc ρ H e v H') (hd : d ≤ d') : Ev W d' sc ρ H e v H' := x.le hd
theorem comp_gen {x : Str} {ρc : Loc} {elt : PySem.Expr} {S : List O → Prop} (Inv : List O → List V → List V → Prop)
    (step : ∀ H v vs ys, Inv H (v :: vs) ys → S H ∧ ∃ y H', Ev W d sc ((x, v) :: ρc) H elt y H' ∧ Inv H' vs (ys ++ [y])) (fin : ∀ H ys, Inv H [] ys → S H) :
    ∀ vs H ys, Inv H vs ys → ∃ ys' H', CompR W d sc x ρc elt [] S H vs ys' H' ∧ Inv H' [] (ys ++ ys')
  | [], H, ys, h => ⟨[], H, .done (fin H ys h), by simpa using h⟩
  | v :: vs, H, ys, h => by
    obtain ⟨s, y, H₁, e, h₁⟩ := step H v vs ys h
    obtain ⟨ys', H', r, h'⟩ := comp_gen Inv step fin vs H₁ (ys ++ [y]) h₁
    exact ⟨y :: ys', H', .take s ⟨rfl, rfl⟩ e r, by simpa using h'⟩
theorem for_gen {α : Type} {x : Str} {body : List Stmt} {S : List O → Prop} (R : α → Loc) (Inv : α → List O → List V → Prop)
    (step : ∀ a H v vs, Inv a H (v :: vs) → S H ∧ ∃ a' H', Ex W d sc ((x, v) :: R a) H body none (R a') H' ∧ Inv a' H' vs) (fin : ∀ a H, Inv a H [] → S H) :
    ∀ vs a H, Inv a H vs → ∃ a' H', ForR W d sc x body S (R a) H vs none (R a') H' ∧ Inv a' H' []
  | [], a, H, h => ⟨a, H, .done (fin a H h), h⟩
  | v :: vs, a, H, h => by
    obtain ⟨s, a₁, H₁, e, h₁⟩ := step a H v vs h
    obtain ⟨a', H', r, h'⟩ := for_gen R Inv step fin vs a₁ H₁ h₁
    exact ⟨a', H', .step s e r, h'⟩

noncomputable def ExP (W : Wd) (d : Nat) (sc : Scope) (ρ : Loc) (H : List O) (ss : List Stmt) (T : Out → Loc → List O → Prop) : Prop := ∃ o ρ' H', Ex W d sc ρ H ss o ρ' H' ∧ T o ρ' H'
noncomputable def EvP (W : Wd) (d : Nat) (sc : Scope) (ρ : Loc) (H : List O) (e : PySem.Expr) (T : V → List O → Prop) : Prop := ∃ v H', Ev W d sc ρ H e v H' ∧ T v H'
noncomputable def EvAP (W : Wd) (d : Nat) (sc : Scope) (ρ : Loc) (H : List O) (es : List PySem.Expr) (T : List V → List O → Prop) : Prop := ∃ vs H', EvA W d sc ρ H es vs H' ∧ T vs H'
noncomputable def FnP (W : Wd) (d : Nat) (H : List O) (f : Value) (vs : List V) (T : V → List O → Prop) : Prop := ∃ v H', Fn W d H f vs v H' ∧ T v H'
theorem FnP.run {W : Wd} {d : Nat} {H : List O} {f : Value} {vs : List V} {G : Prop} (x : FnP W d H f vs fun v H' => Fn W d H f vs v H' → G) : G := by
  obtain ⟨v, H', f, t⟩ := x
  exact t f
noncomputable def CompP (W : Wd) (d : Nat) (csc : Scope) (x : Str) (ρc : Loc) (elt : PySem.Expr) (ifs : List PySem.Expr) (S : List O → Prop) (H : List O) (vs : List V) (T : List V → List O → Prop) : Prop := ∃ ys H', CompR W d csc x ρc elt ifs S H vs ys H' ∧ T ys H'
noncomputable def ForP (W : Wd) (d : Nat) (sc : Scope) (x : Str) (body : List Stmt) (S : List O → Prop) (ρ : Loc) (H : List O) (vs : List V) (T : Loc → List O → Prop) : Prop := ∃ ρ' ρ₂ H', ForR W d sc x body S ρ H vs none ρ' H' ∧ Le ρ₂ ρ' ∧ T ρ₂ H'
section
variable {ρ ρ₁ : Loc} {H₁ : List O} {ss : List Stmt} {T : Out → Loc → List O → Prop} {U : V → List O → Prop}
theorem exP_nil (t : T none ρ H) : ExP W d sc ρ H [] T := ⟨_, _, _, ex_nil, t⟩
theorem exP_cons {s : Stmt} (x : Ex1 W d sc ρ H s none ρ₁ H₁) (y : ExP W d sc ρ₁ H₁ ss T) : ExP W d sc ρ H (s :: ss) T := by
  obtain ⟨o, ρ', H', z, t⟩ := y
  exact ⟨o, ρ', H', ex_cons x z, t⟩
theorem exP_ret {e : PySem.Expr} {p : Pos} {v : V} (x : Ev W d sc ρ H e v H') (t : T (some v) ρ H') : ExP W d sc ρ H (.Return (some e) p :: ss) T := ⟨_, _, _, ex_ret (ex1_return x), t⟩
theorem exP_ret0 {p : Pos} (t : T (some .none) ρ H) : ExP W d sc ρ H (.Return none p :: ss) T := ⟨_, _, _, ex_ret ex1_return0, t⟩
theorem exP_retP {e : PySem.Expr} {p : Pos} (x : EvP W d sc ρ H e fun v H' => T (some v) ρ H') : ExP W d sc ρ H (.Return (some e) p :: ss) T := by
  obtain ⟨v, H', x, t⟩ := x
  exact exP_ret x t
theorem exP_if {test : PySem.Expr} {body orelse : List Stmt} {p : Pos} {b : Bool} (x : Tr W d sc ρ H test b H₁) (y : ExP W d sc ρ H₁ (if b then body else orelse) fun o ρ' H' => o = none ∧ ExP W d sc ρ' H' ss T) : ExP W d sc ρ H (.If test body orelse p :: ss) T := by
  obtain ⟨o, ρ', H', z, rfl, t⟩ := y
  exact exP_cons (ex1_if x (fun e => by subst e; exact z) (fun e => by subst e; exact z)) t
theorem exP_ifRet {test : PySem.Expr} {body orelse : List Stmt} {p : Pos} (x : Tr W d sc ρ H test true H₁) (y : ExP W d sc ρ H₁ body fun o ρ' H' => (∃ v, o = some v) ∧ T o ρ' H') : ExP W d sc ρ H (.If test body orelse p :: ss) T := by
  obtain ⟨o, ρ', H', z, ⟨v, rfl⟩, t⟩ := y
  exact ⟨_, _, _, ex_ret (ex1_ifT x z), t⟩
theorem exP_assign {x : Str} {p q : Pos} {e : PySem.Expr} (a : EvP W d sc ρ H e fun v H₁ => ExP W d sc ((x, v) :: ρ) H₁ ss T) (hx : sc.names.lookup x = some .local ∨ sc.names.lookup x = some .cell) (hc : isComp e = false := by rfl) : ExP W d sc ρ H (.Assign [.Name x p] e q :: ss) T := by
  obtain ⟨v, H₁, x, y⟩ := a
  exact exP_cons (ex1_assign x hx hc) y
theorem exP_assign_comp {elt iter : PySem.Expr} {x y : Str} {px py pos q : Pos} {ifs : List PySem.Expr} {scope : Scope} {S₀ S : List O → Prop} {src : V} {all : List V} (a : Ev W d sc ρ H iter src H₁) (K : IterK W S₀ S src all) (h0 : S₀ H₁)
    (r : CompP W d (relabelS scope sc) x (cap scope ρ) elt ifs S H₁ all fun ys H' => ExP W d sc ((y, .ref H'.length) :: ρ) (H' ++ [.list ys]) ss T) (hc : compOk scope sc x = true) (hz : all.length ≤ sizeLine) (hy : sc.names.lookup y = some .local ∨ sc.names.lookup y = some .cell) (hn : noSet iter = true) :
    ExP W d sc ρ H (.Assign [.Name y py] (.ListComp elt [⟨.Name x px, iter, ifs, 0⟩] scope pos) q :: ss) T := by
  obtain ⟨ys, H', r, t⟩ := r
  exact exP_cons (ex1_assign_comp a K h0 r hc hz hy hn) t
theorem exP_for {x : Str} {px pos : Pos} {iter : PySem.Expr} {body : List Stmt} {S₀ S : List O → Prop} {src : V} {all : List V} (a : Ev W d sc ρ H iter src H₁) (K : IterK W S₀ S src all) (h0 : S₀ H₁) (r : ForP W d sc x body S ρ H₁ all fun ρ' H' => ExP W d sc ρ' H' ss T)
    (hx : sc.names.lookup x = some .local ∨ sc.names.lookup x = some .cell) (hn : noSet iter = true) : ExP W d sc ρ H (.For (.Name x px) iter body [] pos :: ss) T := by
  obtain ⟨ρ', ρ₂, H', r, l, t⟩ := r
  exact exP_cons ((ex1_for a K h0 r hx hn).weak l) t
theorem evP_of {e : PySem.Expr} {v : V} (x : Ev W d sc ρ H e v H') (t : U v H') : EvP W d sc ρ H e U := ⟨_, _, x, t⟩
theorem evP_comp {elt iter : PySem.Expr} {x : Str} {px pos : Pos} {ifs : List PySem.Expr} {scope : Scope} {S₀ S : List O → Prop} {src : V} {all : List V} (a : Ev W d sc ρ H iter src H₁) (K : IterK W S₀ S src all) (h0 : S₀ H₁)
    (r : CompP W d (relabelS scope sc) x (cap scope ρ) elt ifs S H₁ all fun ys H' => U (.ref H'.length) (H' ++ [.list ys])) (hc : compOk scope sc x = true) (hz : all.length ≤ sizeLine) (hn : noSet iter = true) :
    EvP W d sc ρ H (.ListComp elt [⟨.Name x px, iter, ifs, 0⟩] scope pos) U := by
  obtain ⟨ys, H', r, t⟩ := r
  exact ⟨_, _, ev_comp a K h0 r hc hz hn, t⟩
theorem evaP_nil {U : List V → List O → Prop} (t : U [] H) : EvAP W d sc ρ H [] U := ⟨_, _, eva_nil, t⟩
theorem evaP_cons {e : PySem.Expr} {es : List PySem.Expr} {U : List V → List O → Prop} (x : EvP W d sc ρ H e fun v H₁ => EvAP W d sc ρ H₁ es fun vs H' => U (v :: vs) H') (hs : isStar e = false) : EvAP W d sc ρ H (e :: es) U := by
  obtain ⟨v, H₁, x, vs, H', y, t⟩ := x
  exact ⟨_, _, eva_cons x y hs, t⟩
theorem evP_call {x : Str} {np p : Pos} {es : List PySem.Expr} {f : Addr} (a : EvAP W d sc ρ H es fun vs H₁ => FnP W d H₁ (.ref f) vs U) (e : nsIn W.K mainGlobals x = some (some (.ref f))) (hk : keepIn W.K (.ref f) = true)
    (hx : sc.names.lookup x = some .globalImplicit) (hs : noStars es = true) (hd : (x == ("__debug__" : Str)) = false) : EvP W d sc ρ H (.Call (.Name x np) es [] p) U := by
  obtain ⟨vs, H₁, a, v, H', fn, t⟩ := a
  exact ⟨_, _, ev_call a fn e hk hx hs hd, t⟩
theorem evP_tuple {es : List PySem.Expr} {p : Pos} {c : Nat} (a : EvAP W d sc ρ H es fun vs H₁ => vs.length ≤ sizeLine ∧ U (.ref H₁.length) (H₁ ++ [.tup vs])) : EvP W d sc ρ H (.Tuple es c p) U := by
  obtain ⟨vs, H₁, a, z, t⟩ := a
  exact ⟨_, _, ev_tuple a z, t⟩
theorem compP_gen {x : Str} {ρc : Loc} {elt : PySem.Expr} {S : List O → Prop} {Z : List V → List O → Prop} {vs : List V} (Inv : List O → List V → List V → Prop)
    (h : Inv H vs []) (step : ∀ H v vs ys, Inv H (v :: vs) ys → S H ∧ ∃ y H', Ev W d sc ((x, v) :: ρc) H elt y H' ∧ Inv H' vs (ys ++ [y])) (fin : ∀ H ys, Inv H [] ys → S H ∧ Z ys H) : CompP W d sc x ρc elt [] S H vs Z := by
  obtain ⟨ys, H', r, t⟩ := comp_gen Inv step (fun H ys i => (fin H ys i).1) vs H [] h
  exact ⟨ys, H', r, (fin H' ys (by simpa using t)).2⟩
theorem forP_gen {α : Type} {x : Str} {body : List Stmt} {S : List O → Prop} {Z : Loc → List O → Prop} {vs : List V} (R : α → Loc) (Inv : α → List O → List V → Prop) (a : α) (le : Le (R a) ρ) (h : Inv a H vs)
    (step : ∀ a H v vs, Inv a H (v :: vs) → S H ∧ ∃ a' H', Ex W d sc ((x, v) :: R a) H body none (R a') H' ∧ Inv a' H' vs) (fin : ∀ a H, Inv a H [] → S H ∧ Z (R a) H) : ForP W d sc x body S ρ H vs Z := by
  have gen : ∀ (vs : List V) (a : α) (H : List O) (ρ : Loc), Le (R a) ρ → Inv a H vs → ∃ a' H' ρ', ForR W d sc x body S ρ H vs none ρ' H' ∧ Le (R a') ρ' ∧ Inv a' H' [] := by
    intro vs
    induction vs with
    | nil => exact fun a H ρ le h => ⟨a, H, ρ, .done (fin a H h).1, le, h⟩
    | cons v vs ih =>
      intro a H ρ le h
      obtain ⟨s, a₁, H₁, e, h₁⟩ := step a H v vs h
      have le' : Le ((x, v) :: R a) ((x, v) :: ρ) := fun n u q => by
        by_cases z : n = x
        · subst z; simpa using q
        · rw [lookup_cons_ne z] at q ⊢; exact le n u q
      obtain ⟨a', H', ρ', r, l, i⟩ := ih a₁ H₁ (R a₁) (fun _ _ e => e) h₁
      exact ⟨a', H', ρ', .step s (e.more le') r, l, i⟩
  obtain ⟨a', H', ρ', r, l, i⟩ := gen vs a H ρ le h
  exact ⟨ρ', R a', H', r, l, (fin a' H' i).2⟩
end
end
noncomputable def outV : Out → V
  | some v => v
  | none => .none
theorem outV_ok (o : Out) : o = some (outV o) ∨ (o = none ∧ outV o = .none) := by cases o <;> simp [outV]
theorem FnP.of {W : Wd} {d : Nat} {H : List O} {T : V → List O → Prop} {f : Value} {vs : List V} {S : Scope} {ρ : Loc} {B : List Stmt} (g : ∀ {v : V} {o : Out} {ρ' : Loc} {H' : List O}, Ex W (d - 1) S ρ H B o ρ' H' → (o = some v ∨ (o = none ∧ v = .none)) → 1 ≤ d → Fn W d H f vs v H') (hd : 1 ≤ d) (x : ExP W (d - 1) S ρ H B fun o _ H' => T (outV o) H') : FnP W d H f vs T := by
  obtain ⟨o, ρ', H', x, t⟩ := x
  exact ⟨_, _, g x (outV_ok o) hd, t⟩
section
variable {W : Wd} {d : Nat} {H : List O} {T : V → List O → Prop} (P : PF W.K)
include P
theorem fnP_number_text {x0 : V} (hd : 1 ≤ d) (x : ExP W (d - 1) S_number_text [(Str.ofString "n", x0)] H B_number_text fun o _ H' => T (outV o) H') : FnP W d H (.ref f_number_text) [x0] T := FnP.of (fn_number_text P) hd x
theorem fnP_Thing_init {x0 x1 : V} (hd : 1 ≤ d) (x : ExP W (d - 1) S_Thing_init [(Str.ofString "self", x0), (Str.ofString "number", x1)] H B_Thing_init fun o _ H' => T (outV o) H') : FnP W d H (.ref f_Thing_init) [x0, x1] T := FnP.of (fn_Thing_init P) hd x
theorem fnP_Scalar_init {x0 x1 x2 : V} (hd : 1 ≤ d) (x : ExP W (d - 1) S_Scalar_init [(Str.ofString "self", x0), (Str.ofString "number", x1), (Str.ofString "value", x2)] H B_Scalar_init fun o _ H' => T (outV o) H') : FnP W d H (.ref f_Scalar_init) [x0, x1, x2] T := FnP.of (fn_Scalar_init P) hd x
theorem fnP_Array_init {x0 x1 : V} (hd : 1 ≤ d) (x : ExP W (d - 1) S_Array_init [(Str.ofString "self", x0), (Str.ofString "number", x1)] H B_Array_init fun o _ H' => T (outV o) H') : FnP W d H (.ref f_Array_init) [x0, x1] T := FnP.of (fn_Array_init P) hd x
theorem fnP_Hash_init {x0 x1 : V} (hd : 1 ≤ d) (x : ExP W (d - 1) S_Hash_init [(Str.ofString "self", x0), (Str.ofString "number", x1)] H B_Hash_init fun o _ H' => T (outV o) H') : FnP W d H (.ref f_Hash_init) [x0, x1] T := FnP.of (fn_Hash_init P) hd x
theorem fnP_Ref_init {x0 x1 : V} (hd : 1 ≤ d) (x : ExP W (d - 1) S_Ref_init [(Str.ofString "self", x0), (Str.ofString "target", x1), (Str.ofString "is_weak", (.bool false))] H B_Ref_init fun o _ H' => T (outV o) H') : FnP W d H (.ref f_Ref_init) [x0, x1] T := FnP.of (fn_Ref_init P) hd x
theorem fnP_Heap_init {x0 x1 : V} (hd : 1 ≤ d) (x : ExP W (d - 1) S_Heap_init [(Str.ofString "self", x0), (Str.ofString "limits", x1)] H B_Heap_init fun o _ H' => T (outV o) H') : FnP W d H (.ref f_Heap_init) [x0, x1] T := FnP.of (fn_Heap_init P) hd x
theorem fnP_next_number {x0 : V} (hd : 1 ≤ d) (x : ExP W (d - 1) S_next_number [(Str.ofString "self", x0)] H B_next_number fun o _ H' => T (outV o) H') : FnP W d H (.ref f_next_number) [x0] T := FnP.of (fn_next_number P) hd x
theorem fnP_new_scalar {x0 x1 : V} (hd : 1 ≤ d) (x : ExP W (d - 1) S_new_scalar [(Str.ofString "self", x0), (Str.ofString "value", x1)] H B_new_scalar fun o _ H' => T (outV o) H') : FnP W d H (.ref f_new_scalar) [x0, x1] T := FnP.of (fn_new_scalar P) hd x
theorem fnP_new_array {x0 : V} (hd : 1 ≤ d) (x : ExP W (d - 1) S_new_array [(Str.ofString "self", x0)] H B_new_array fun o _ H' => T (outV o) H') : FnP W d H (.ref f_new_array) [x0] T := FnP.of (fn_new_array P) hd x
theorem fnP_new_hash {x0 : V} (hd : 1 ≤ d) (x : ExP W (d - 1) S_new_hash [(Str.ofString "self", x0)] H B_new_hash fun o _ H' => T (outV o) H') : FnP W d H (.ref f_new_hash) [x0] T := FnP.of (fn_new_hash P) hd x
theorem fnP_value_of {x0 : V} (hd : 1 ≤ d) (x : ExP W (d - 1) S_value_of [(Str.ofString "x", x0)] H B_value_of fun o _ H' => T (outV o) H') : FnP W d H (.ref f_value_of) [x0] T := FnP.of (fn_value_of P) hd x
theorem fnP_to_text {x0 : V} (hd : 1 ≤ d) (x : ExP W (d - 1) S_to_text [(Str.ofString "value", x0)] H B_to_text fun o _ H' => T (outV o) H') : FnP W d H (.ref f_to_text) [x0] T := FnP.of (fn_to_text P) hd x
theorem fnP_fresh_scalars {x0 x1 : V} (hd : 1 ≤ d) (x : ExP W (d - 1) S_fresh_scalars [(Str.ofString "counter", x0), (Str.ofString "values", x1)] H B_fresh_scalars fun o _ H' => T (outV o) H') : FnP W d H (.ref f_fresh_scalars) [x0, x1] T := FnP.of (fn_fresh_scalars P) hd x
theorem fnP_drop_member {x0 x1 : V} (hd : 1 ≤ d) (x : ExP W (d - 1) S_drop_member [(Str.ofString "counter", x0), (Str.ofString "member", x1)] H B_drop_member fun o _ H' => T (outV o) H') : FnP W d H (.ref f_drop_member) [x0, x1] T := FnP.of (fn_drop_member P) hd x
theorem fnP_drop_members {x0 x1 : V} (hd : 1 ≤ d) (x : ExP W (d - 1) S_drop_members [(Str.ofString "counter", x0), (Str.ofString "members", x1)] H B_drop_members fun o _ H' => T (outV o) H') : FnP W d H (.ref f_drop_members) [x0, x1] T := FnP.of (fn_drop_members P) hd x
theorem fnP_clear_array {x0 x1 : V} (hd : 1 ≤ d) (x : ExP W (d - 1) S_clear_array [(Str.ofString "counter", x0), (Str.ofString "array", x1)] H B_clear_array fun o _ H' => T (outV o) H') : FnP W d H (.ref f_clear_array) [x0, x1] T := FnP.of (fn_clear_array P) hd x
theorem fnP_fill_array {x0 x1 x2 : V} (hd : 1 ≤ d) (x : ExP W (d - 1) S_fill_array [(Str.ofString "counter", x0), (Str.ofString "array", x1), (Str.ofString "values", x2)] H B_fill_array fun o _ H' => T (outV o) H') : FnP W d H (.ref f_fill_array) [x0, x1, x2] T := FnP.of (fn_fill_array P) hd x
theorem fnP_array_values {x0 : V} (hd : 1 ≤ d) (x : ExP W (d - 1) S_array_values [(Str.ofString "array", x0)] H B_array_values fun o _ H' => T (outV o) H') : FnP W d H (.ref f_array_values) [x0] T := FnP.of (fn_array_values P) hd x
theorem fnP_plain_values {x0 : V} (hd : 1 ≤ d) (x : ExP W (d - 1) S_plain_values [(Str.ofString "members", x0)] H B_plain_values fun o _ H' => T (outV o) H') : FnP W d H (.ref f_plain_values) [x0] T := FnP.of (fn_plain_values P) hd x
theorem fnP_clear_hash {x0 x1 : V} (hd : 1 ≤ d) (x : ExP W (d - 1) S_clear_hash [(Str.ofString "counter", x0), (Str.ofString "table_thing", x1)] H B_clear_hash fun o _ H' => T (outV o) H') : FnP W d H (.ref f_clear_hash) [x0, x1] T := FnP.of (fn_clear_hash P) hd x
theorem fnP_flat_hash {x0 : V} (hd : 1 ≤ d) (x : ExP W (d - 1) S_flat_hash [(Str.ofString "table_thing", x0)] H B_flat_hash fun o _ H' => T (outV o) H') : FnP W d H (.ref f_flat_hash) [x0] T := FnP.of (fn_flat_hash P) hd x
theorem fnP_fill_hash {x0 x1 x2 : V} (hd : 1 ≤ d) (x : ExP W (d - 1) S_fill_hash [(Str.ofString "counter", x0), (Str.ofString "table_thing", x1), (Str.ofString "values", x2)] H B_fill_hash fun o _ H' => T (outV o) H') : FnP W d H (.ref f_fill_hash) [x0, x1, x2] T := FnP.of (fn_fill_hash P) hd x
theorem fnP_fill_whole {x0 x1 x2 : V} (hd : 1 ≤ d) (x : ExP W (d - 1) S_fill_whole [(Str.ofString "counter", x0), (Str.ofString "target", x1), (Str.ofString "values", x2)] H B_fill_whole fun o _ H' => T (outV o) H') : FnP W d H (.ref f_fill_whole) [x0, x1, x2] T := FnP.of (fn_fill_whole P) hd x
theorem fnP_assign_list {x0 x1 x2 : V} (hd : 1 ≤ d) (x : ExP W (d - 1) S_assign_list [(Str.ofString "counter", x0), (Str.ofString "targets", x1), (Str.ofString "values", x2)] H B_assign_list fun o _ H' => T (outV o) H') : FnP W d H (.ref f_assign_list) [x0, x1, x2] T := FnP.of (fn_assign_list P) hd x
theorem fnP_assigned_members {x0 : V} (hd : 1 ≤ d) (x : ExP W (d - 1) S_assigned_members [(Str.ofString "targets", x0)] H B_assigned_members fun o _ H' => T (outV o) H') : FnP W d H (.ref f_assigned_members) [x0] T := FnP.of (fn_assigned_members P) hd x
theorem fnP_held_by {x0 : V} (hd : 1 ≤ d) (x : ExP W (d - 1) S_held_by [(Str.ofString "thing", x0)] H B_held_by fun o _ H' => T (outV o) H') : FnP W d H (.ref f_held_by) [x0] T := FnP.of (fn_held_by P) hd x
theorem fnP_empty_out {x0 : V} (hd : 1 ≤ d) (x : ExP W (d - 1) S_empty_out [(Str.ofString "thing", x0)] H B_empty_out fun o _ H' => T (outV o) H') : FnP W d H (.ref f_empty_out) [x0] T := FnP.of (fn_empty_out P) hd x
theorem fnP_in_order {x0 : V} (hd : 1 ≤ d) (x : ExP W (d - 1) S_in_order [(Str.ofString "things", x0)] H B_in_order fun o _ H' => T (outV o) H') : FnP W d H (.ref f_in_order) [x0] T := FnP.of (fn_in_order P) hd x
theorem fnP_Counter_init {x0 x1 x2 : V} (hd : 1 ≤ d) (x : ExP W (d - 1) S_Counter_init [(Str.ofString "self", x0), (Str.ofString "heap", x1), (Str.ofString "destroy", x2)] H B_Counter_init fun o _ H' => T (outV o) H') : FnP W d H (.ref f_Counter_init) [x0, x1, x2] T := FnP.of (fn_Counter_init P) hd x
theorem fnP_hold {x0 x1 : V} (hd : 1 ≤ d) (x : ExP W (d - 1) S_hold [(Str.ofString "self", x0), (Str.ofString "thing", x1)] H B_hold fun o _ H' => T (outV o) H') : FnP W d H (.ref f_hold) [x0, x1] T := FnP.of (fn_hold P) hd x
theorem fnP_let_go {x0 x1 : V} (hd : 1 ≤ d) (x : ExP W (d - 1) S_let_go [(Str.ofString "self", x0), (Str.ofString "thing", x1)] H B_let_go fun o _ H' => T (outV o) H') : FnP W d H (.ref f_let_go) [x0, x1] T := FnP.of (fn_let_go P) hd x
theorem fnP_take {x0 x1 : V} (hd : 1 ≤ d) (x : ExP W (d - 1) S_take [(Str.ofString "self", x0), (Str.ofString "value", x1)] H B_take fun o _ H' => T (outV o) H') : FnP W d H (.ref f_take) [x0, x1] T := FnP.of (fn_take P) hd x
theorem fnP_put_off {x0 x1 x2 : V} (hd : 1 ≤ d) (x : ExP W (d - 1) S_put_off [(Str.ofString "self", x0), (Str.ofString "scalar", x1), (Str.ofString "value", x2)] H B_put_off fun o _ H' => T (outV o) H') : FnP W d H (.ref f_put_off) [x0, x1, x2] T := FnP.of (fn_put_off P) hd x
theorem fnP_store {x0 x1 x2 : V} (hd : 1 ≤ d) (x : ExP W (d - 1) S_store [(Str.ofString "self", x0), (Str.ofString "scalar", x1), (Str.ofString "value", x2)] H B_store fun o _ H' => T (outV o) H') : FnP W d H (.ref f_store) [x0, x1, x2] T := FnP.of (fn_store P) hd x
theorem fnP_fresh {x0 x1 : V} (hd : 1 ≤ d) (x : ExP W (d - 1) S_fresh [(Str.ofString "self", x0), (Str.ofString "value", x1)] H B_fresh fun o _ H' => T (outV o) H') : FnP W d H (.ref f_fresh) [x0, x1] T := FnP.of (fn_fresh P) hd x
theorem fnP_drop {x0 x1 : V} (hd : 1 ≤ d) (x : ExP W (d - 1) S_drop [(Str.ofString "self", x0), (Str.ofString "scalar", x1)] H B_drop fun o _ H' => T (outV o) H') : FnP W d H (.ref f_drop) [x0, x1] T := FnP.of (fn_drop P) hd x
theorem fnP_settle {x0 x1 : V} (hd : 1 ≤ d) (x : ExP W (d - 1) S_settle [(Str.ofString "self", x0), (Str.ofString "start", x1)] H B_settle fun o _ H' => T (outV o) H') : FnP W d H (.ref f_settle) [x0, x1] T := FnP.of (fn_settle P) hd x
theorem fnP_finish {x0 x1 : V} (hd : 1 ≤ d) (x : ExP W (d - 1) S_finish [(Str.ofString "self", x0), (Str.ofString "thing", x1)] H B_finish fun o _ H' => T (outV o) H') : FnP W d H (.ref f_finish) [x0, x1] T := FnP.of (fn_finish P) hd x
theorem fnP_free {x0 x1 : V} (hd : 1 ≤ d) (x : ExP W (d - 1) S_free [(Str.ofString "self", x0), (Str.ofString "thing", x1)] H B_free fun o _ H' => T (outV o) H') : FnP W d H (.ref f_free) [x0, x1] T := FnP.of (fn_free P) hd x
theorem fnP_Limits_init {x0 : V} (hd : 1 ≤ d) (x : ExP W (d - 1) S_Limits_init [(Str.ofString "self", x0), (Str.ofString "width", (.int 64)), (Str.ofString "depth", (.int 50)), (Str.ofString "steps", (.int (10 ^ 6))), (Str.ofString "text", (.int (10 ^ 5))), (Str.ofString "items", (.int (10 ^ 4)))] H B_Limits_init fun o _ H' => T (outV o) H') : FnP W d H (.ref f_Limits_init) [x0] T := FnP.of (fn_Limits_init P) hd x
theorem fnP_law_told {x0 : V} (hd : 1 ≤ d) (x : ExP W (d - 1) S_law_told [(Str.ofString "value", x0)] H B_law_told fun o _ H' => T (outV o) H') : FnP W d H (.ref f_law_told) [x0] T := FnP.of (fn_law_told P) hd x
theorem fnP_law_all {x0 : V} (hd : 1 ≤ d) (x : ExP W (d - 1) S_law_all [(Str.ofString "values", x0)] H B_law_all fun o _ H' => T (outV o) H') : FnP W d H (.ref f_law_all) [x0] T := FnP.of (fn_law_all P) hd x
theorem fnP_law_text {x0 : V} (hd : 1 ≤ d) (x : ExP W (d - 1) S_law_text [(Str.ofString "value", x0)] H B_law_text fun o _ H' => T (outV o) H') : FnP W d H (.ref f_law_text) [x0] T := FnP.of (fn_law_text P) hd x
theorem fnP_law_paired {x0 : V} (hd : 1 ≤ d) (x : ExP W (d - 1) S_law_paired [(Str.ofString "values", x0)] H B_law_paired fun o _ H' => T (outV o) H') : FnP W d H (.ref f_law_paired) [x0] T := FnP.of (fn_law_paired P) hd x
theorem fnP_law_flat {x0 : V} (hd : 1 ≤ d) (x : ExP W (d - 1) S_law_flat [(Str.ofString "pairs", x0)] H B_law_flat fun o _ H' => T (outV o) H') : FnP W d H (.ref f_law_flat) [x0] T := FnP.of (fn_law_flat P) hd x
theorem fnP_law_sources {x0 x1 x2 : V} (hd : 1 ≤ d) (x : ExP W (d - 1) S_law_sources [(Str.ofString "n", x0), (Str.ofString "things", x1), (Str.ofString "thing", x2)] H B_law_sources fun o _ H' => T (outV o) H') : FnP W d H (.ref f_law_sources) [x0, x1, x2] T := FnP.of (fn_law_sources P) hd x
theorem fnP_law_targets {x0 : V} (hd : 1 ≤ d) (x : ExP W (d - 1) S_law_targets [(Str.ofString "n", x0)] H B_law_targets fun o _ H' => T (outV o) H') : FnP W d H (.ref f_law_targets) [x0] T := FnP.of (fn_law_targets P) hd x
theorem fnP_law_assigned {x0 x1 x2 : V} (hd : 1 ≤ d) (x : ExP W (d - 1) S_law_assigned [(Str.ofString "state", x0), (Str.ofString "goals", x1), (Str.ofString "values", x2)] H B_law_assigned fun o _ H' => T (outV o) H') : FnP W d H (.ref f_law_assigned) [x0, x1, x2] T := FnP.of (fn_law_assigned P) hd x
theorem fnP_law_members {x0 x1 : V} (hd : 1 ≤ d) (x : ExP W (d - 1) S_law_members [(Str.ofString "state", x0), (Str.ofString "goals", x1)] H B_law_members fun o _ H' => T (outV o) H') : FnP W d H (.ref f_law_members) [x0, x1] T := FnP.of (fn_law_members P) hd x
theorem fnP_law {x0 : V} (hd : 1 ≤ d) (x : ExP W (d - 1) S_law [(Str.ofString "script", x0)] H B_law fun o _ H' => T (outV o) H') : FnP W d H (.ref f_law) [x0] T := FnP.of (fn_law P) hd x
end
noncomputable def SubX (ix : Ix) (X : List Nat) (H H' : List O) : Prop := H.length ≤ H'.length ∧ ∀ i o, i ∉ X → H[i]? = some o → keeps ix i o → H'[i]? = some o
theorem Sub.x {ix : Ix} {X : List Nat} {H H' : List O} (x : Sub ix H H') : SubX ix X H H' := ⟨x.1, fun i o _ e k => x.2 i o e k⟩
theorem SubX.sub {ix : Ix} {H H' : List O} (x : SubX ix [] H H') : Sub ix H H' := ⟨x.1, fun i o e k => x.2 i o (by simp) e k⟩
theorem SubX.trans {ix : Ix} {X : List Nat} {H H₁ H' : List O} (x : SubX ix X H H₁) (y : SubX ix X H₁ H') : SubX ix X H H' := ⟨Nat.le_trans x.1 y.1, fun i o n e k => y.2 i o n (x.2 i o n e k) k⟩
theorem SubX.set {ix : Ix} {X : List Nat} {H : List O} {i : Nat} {o' : O} (n : i ∈ X) : SubX ix X H (H.set i o') := ⟨by simp, fun j u nj e' k => at_ne (fun q => nj (q ▸ n)) e'⟩
theorem SubX.more {ix : Ix} {X Y : List Nat} {H H' : List O} (x : SubX ix X H H') (h : ∀ i ∈ X, i ∈ Y) : SubX ix Y H H' := ⟨x.1, fun i o n e k => x.2 i o (fun m => n (h i m)) e k⟩
theorem SubX.at {ix : Ix} {X : List Nat} {H H' : List O} {i : Nat} {o : O} (x : SubX ix X H H') (e : H[i]? = some o) (n : i ∉ X) (k : keeps ix i o) : H'[i]? = some o := x.2 i o n e k
theorem keeps_ref {ix : Ix} {i t : Nat} : keeps ix i (oRef t) := ⟨by decide, by decide, fun h => absurd h (by decide)⟩
theorem keeps_hash {ix : Ix} {i w t : Nat} {n c : Int} : keeps ix i (oHash n c w t) := ⟨by decide, by decide, fun h => absurd h (by decide)⟩
theorem keeps_arr {ix : Ix} {i w t : Nat} {n c : Int} (ne : i ≠ ix.th) : keeps ix i (oArray n c w t) := ⟨by decide, by decide, fun _ => ne⟩
theorem CoreC.setOther {ix : Ix} {H : List O} {last c : Int} {live zs : List M} {i : Nat} {o o' : O} (C : CoreC ix H last live zs c) (e : H[i]? = some o) (h : ∃ C fs, o = .inst C fs ∧ C ≠ cScalar ∧ C ≠ cHeap ∧ C ≠ cCounter ∧ C ≠ cRef) (n : i ≠ ix.th) : CoreC ix (H.set i o') last live zs c := by
  obtain ⟨Cl, fs, rfl, h1, h2, h3, h4⟩ := h
  have keep : ∀ (j : Nat) (u : O), (∀ fs, u ≠ .inst Cl fs) → H[j]? = some u → (H.set i o')[j]? = some u := fun j u nu ej => at_ne (fun q => by subst q; rw [e] at ej; cases ej; exact nu _ rfl) ej
  have val : ∀ p v, IsV ix.th H p v → IsV ix.th (H.set i o') p v := fun p v x => by
    cases p with
    | ref => obtain ⟨r, e1, e2⟩ := x; exact ⟨r, e1, keep _ _ (fun fs q => by cases q; exact h4 rfl) e2⟩
    | _ => exact x
  have mem : ∀ c m, MemAt ix H c m → MemAt ix (H.set i o') c m := fun c m x => by
    obtain ⟨wk, v, a, b, c', d⟩ := x
    exact ⟨wk, v, keep _ _ (fun fs q => by cases q; exact h1 rfl) a, val _ _ b, keep _ _ (fun fs q => by cases q) c', d⟩
  exact {
    ct := keep _ _ (fun fs q => by cases q; exact h3 rfl) C.ct
    pl := keep _ _ (fun fs q => by cases q) C.pl
    hp := keep _ _ (fun fs q => by cases q; exact h2 rfl) C.hp
    z := keep _ _ (fun fs q => by cases q) C.z
    th := at_ne n C.th
    liv := fun m h => mem 1 m (C.liv m h)
    ded := fun m h => mem 0 m (C.ded m h)
    ids := C.ids
    nums := C.nums
    numle := C.numle
    cnt := C.cnt }
theorem Core.setOther {ix : Ix} {H : List O} {last : Int} {live zs : List M} {i : Nat} {o o' : O} (C : Core ix H last live zs) (e : H[i]? = some o) (h : ∃ C fs, o = .inst C fs ∧ C ≠ cScalar ∧ C ≠ cHeap ∧ C ≠ cCounter ∧ C ≠ cRef) (n : i ≠ ix.th) : Core ix (H.set i o') last live zs := CoreC.setOther C e h n
noncomputable def MV (ix : Ix) (H : List O) (live : List M) (p : PV) (v : V) : Prop := IsV ix.th H p v ∨ ∃ m ∈ live, v = .ref m.id ∧ m.val = p
noncomputable abbrev mref (ms : List M) : List V := ms.map fun m => .ref m.id
theorem All2.imp2 {α β : Type} {R S : α → β → Prop} (hs : ∀ a b, R a b → S a b) {l : List α} {m : List β} (h : All2 R l m) : All2 S l m := h.imp hs
structure IFresh (ix : Ix) (H : List O) (live zs : List M) (last : Int) (ps : List PV) (H₁ : List O) (rest ys : List V) (k : Nat) (ms : List M) (ps₁ ps₂ : List PV) : Prop where
  f0 : Core ix H₁ (last + k) (live ++ ms) zs
  f1 : Sub ix H H₁
  f2 : ys = mref ms
  f3 : ps = ps₁ ++ ps₂
  f4 : ps₁.length = k
  f5 : ms.map (·.val) = ps₁
  f6 : All2 (IsV ix.th H₁) ps₂ rest
section
variable {W : Wd} {d : Nat} {H : List O}
theorem comp_fresh {csc : Scope} {x : Str} {ρc : Loc} {elt : PySem.Expr} {ix : Ix} {last : Int} {live zs : List M} {l : Nat} {ps : List PV} {vs : List V} {Z : List V → List O → Prop} (C : Core ix H last live zs) (hl : H[l]? = some (.list vs)) (zl : ix.z < l) (hv : All2 (IsV ix.th H) ps vs)
    (he : ∀ H v y H', Fn W d H (.ref f_fresh) [.ref ix.ct, v] y H' → H[ix.ct]? = some (oCounter ix.hp ix.pl) → Ev W d csc ((x, v) :: ρc) H elt y H') (P : PF W.K) (hd : 6 ≤ d)
    (hZ : ∀ H' ms, Core ix H' (last + ps.length) (live ++ ms) zs → Sub ix H H' → ms.map (·.val) = ps → Z (mref ms) H') : CompP W d csc x ρc elt [] (fun H => H[l]? = some (.list vs)) H vs Z := by
  refine compP_gen (fun H₁ rest ys => ∃ (k : Nat) (ms : List M) (ps₁ ps₂ : List PV), IFresh ix H live zs last ps H₁ rest ys k ms ps₁ ps₂) ?_ ?_ ?_
  · exact ⟨0, [], [], ps, by simpa using C, .refl _ _, rfl, rfl, rfl, rfl, hv⟩
  · rintro H₁ v rest ys ⟨k, ms, ps₁, ps₂, C₁, s₁, rfl, rfl, hk, hm, h2⟩
    refine ⟨s₁.lst hl zl, ?_⟩
    cases h2 with
    | @cons p _ ps₃ _ hp h3 =>
      obtain ⟨H₂, f, C₂, s₂⟩ := c_fresh P hd C₁ hp
      refine ⟨_, H₂, he _ _ _ _ f C₁.ct, k + 1, ms ++ [⟨H₁.length, last + k + 1, p⟩], ps₁ ++ [p], ps₃, ?_, s₁.trans s₂, by simp, by simp, by simp [hk], by simp [hm], h3.imp fun _ _ q => q.mono s₂⟩
      have e : last + ((k + 1 : Nat) : Int) = last + k + 1 := by push_cast; (first | lia | omega)
      rw [e, ← List.append_assoc]
      exact C₂
  · rintro H₁ ys ⟨k, ms, ps₁, ps₂, C₁, s₁, rfl, e, hk, hm, h2⟩
    cases h2
    rw [List.append_nil] at e
    subst e
    exact ⟨s₁.lst hl zl, hZ H₁ ms (by rw [hk]; exact C₁) s₁ hm⟩
theorem comp_drop {csc : Scope} {x : Str} {ρc : Loc} {elt : PySem.Expr} {ix : Ix} {last : Int} {live zs ms : List M} {l : Nat} {Z : List V → List O → Prop} (C : Core ix H last (live ++ ms) zs) (hl : H[l]? = some (.list (mref ms))) (zl : ix.z < l)
    (he : ∀ H v y H', Fn W d H (.ref f_drop_member) [.ref ix.ct, v] y H' → Ev W d csc ((x, v) :: ρc) H elt y H') (P : PF W.K) (hd : 4 ≤ d) (hb : last ≤ 16000000)
    (hZ : ∀ H' ys, Core ix H' last live (zs ++ ms) → Sub ix H H' → Z ys H') : CompP W d csc x ρc elt [] (fun H => H[l]? = some (.list (mref ms))) H (mref ms) Z := by
  refine compP_gen (fun H₁ rest ys => ∃ ms₁ ms₂, ms = ms₁ ++ ms₂ ∧ rest = mref ms₂ ∧ Core ix H₁ last (live ++ ms₂) (zs ++ ms₁) ∧ Sub ix H H₁) ?_ ?_ ?_
  · exact ⟨[], ms, rfl, rfl, by simpa using C, .refl _ _⟩
  · rintro H₁ v rest ys ⟨ms₁, ms₂, e, e2, C₁, s₁⟩
    refine ⟨s₁.lst hl zl, ?_⟩
    cases ms₂ with
    | nil => cases e2
    | cons m ms₃ =>
      cases e2
      obtain ⟨y, H₂, f, C₂, s₂⟩ := c_drop_member (d := d) P hd C₁ hb
      exact ⟨y, H₂, he _ _ _ _ f, ms₁ ++ [m], ms₃, by simp [e], rfl, by simpa using C₂, s₁.trans s₂⟩
  · rintro H₁ ys ⟨ms₁, ms₂, e, e2, C₁, s₁⟩
    cases ms₂ with
    | cons m ms₃ => cases e2
    | nil =>
      rw [List.append_nil] at e
      subst e
      exact ⟨s₁.lst hl zl, hZ H₁ ys (by simpa using C₁) s₁⟩
theorem MV.fn {ix : Ix} {live : List M} {last : Int} {zs : List M} {p : PV} {v : V} (P : PF W.K) (hd : 1 ≤ d) (C : Core ix H last live zs) (h : MV ix H live p v) : ∃ w, Fn W d H (.ref f_value_of) [v] w H ∧ IsV ix.th H p w := by
  rcases h with h | ⟨m, hm, rfl, rfl⟩
  · refine ⟨v, r_value_of P hd ?_, h⟩
    cases p with
    | none => exact .inl h
    | int i => exact .inr (.inl ⟨_, h⟩)
    | str x => exact .inr (.inr (.inl ⟨_, h⟩))
    | ref => obtain ⟨r, e, h⟩ := h; exact .inr (.inr (.inr ⟨r, _, e, h⟩))
  · obtain ⟨wk, w, a, b, _⟩ := C.liv m hm
    exact ⟨w, r_value_of_sc P hd a, b⟩
theorem comp_values {csc : Scope} {x : Str} {ρc : Loc} {elt : PySem.Expr} {ix : Ix} {last : Int} {live zs : List M} {l : Nat} {ps : List PV} {vs : List V} {Z : List V → List O → Prop} (C : Core ix H last live zs) (hl : H[l]? = some (.list vs)) (hv : All2 (MV ix H live) ps vs)
    (he : ∀ H v y H', Fn W d H (.ref f_value_of) [v] y H' → Ev W d csc ((x, v) :: ρc) H elt y H') (P : PF W.K) (hd : 1 ≤ d)
    (hZ : ∀ ys, All2 (IsV ix.th H) ps ys → Z ys H) : CompP W d csc x ρc elt [] (fun H => H[l]? = some (.list vs)) H vs Z := by
  refine compP_gen (fun H₁ rest ys => H₁ = H ∧ ∃ ps₁ ps₂, ps = ps₁ ++ ps₂ ∧ All2 (IsV ix.th H) ps₁ ys ∧ All2 (MV ix H live) ps₂ rest) ⟨rfl, [], ps, rfl, .nil, hv⟩ ?_ ?_
  · rintro H₁ v rest ys ⟨rfl, ps₁, ps₂, rfl, h1, h2⟩
    cases h2 with
    | @cons p _ ps₃ _ hp h3 =>
      obtain ⟨w, f, i⟩ := MV.fn P hd C hp
      exact ⟨hl, w, H₁, he _ _ _ _ f, rfl, ps₁ ++ [p], ps₃, by simp, h1.append (.cons i .nil), h3⟩
  · rintro H₁ ys ⟨rfl, ps₁, ps₂, rfl, h1, h2⟩
    cases h2
    exact ⟨hl, hZ ys (by simpa using h1)⟩
end
section
variable {W : Wd} {d : Nat} {H : List O} (P : PF W.K)
include P
theorem c_fresh_scalars {ix : Ix} {last : Int} {live zs : List M} {l : Nat} {ps : List PV} {vs : List V} {T : V → List O → Prop} (hd : 8 ≤ d) (C : Core ix H last live zs) (hl : H[l]? = some (.list vs)) (zl : ix.z < l) (hv : All2 (IsV ix.th H) ps vs) (hz : vs.length ≤ sizeLine)
    (hT : ∀ H' ms id, H'[id]? = some (.list (mref ms)) → ix.z < id → Core ix H' (last + ps.length) (live ++ ms) zs → Sub ix H H' → ms.map (·.val) = ps → T (.ref id) H') : FnP W d H (.ref f_fresh_scalars) [.ref ix.ct, .ref l] T := by
  refine fnP_fresh_scalars P (by walk_at "m_d") ?_
  conv => arg 6; whnf
  refine exP_retP (evP_comp (ev_name rfl) (iterL W l vs) hl ?_ (by decide +kernel) hz rfl)
  refine comp_fresh C hl zl hv (fun H v y H' f hct => ?_) P (by walk_at "m_d") fun H' ms C' s' hm => ?_
  · walk_at "m_ev"
  · exact hT _ ms _ at_new (Nat.lt_of_lt_of_le (at_lt C.z) s'.1) C'.push (s'.trans Sub.push) hm
end
theorem FnP.to {W : Wd} {d : Nat} {H : List O} {f : Value} {vs : List V} {T U : V → List O → Prop} (x : FnP W d H f vs T) (h : ∀ v H', T v H' → U v H') : FnP W d H f vs U := by
  obtain ⟨v, H', a, b⟩ := x
  exact ⟨v, H', a, h _ _ b⟩
section
variable {W : Wd} {d : Nat} {H : List O} (P : PF W.K)
include P
theorem c_drop_members {ix : Ix} {last : Int} {live zs ms : List M} {l : Nat} {T : V → List O → Prop} (hd : 6 ≤ d) (C : Core ix H last (live ++ ms) zs) (hl : H[l]? = some (.list (mref ms))) (zl : ix.z < l) (hz : ms.length ≤ sizeLine) (hb : last ≤ 16000000)
    (hT : ∀ v H', Core ix H' last live (zs ++ ms) → Sub ix H H' → T v H') : FnP W d H (.ref f_drop_members) [.ref ix.ct, .ref l] T := by
  refine fnP_drop_members P (by walk_at "m_d") ?_
  conv => arg 6; whnf
  refine exP_retP (evP_comp (ev_name rfl) (iterL W l (mref ms)) hl ?_ (by decide +kernel) (by simpa using hz) rfl)
  refine comp_drop C hl zl (fun H v y H' f => ?_) P (by walk_at "m_d") hb fun H' ys C' s' => ?_
  · walk_at "m_ev"
  · exact hT _ _ C'.push (s'.trans Sub.push)
theorem c_plain_values {ix : Ix} {last : Int} {live zs : List M} {l : Nat} {ps : List PV} {vs : List V} {T : V → List O → Prop} (hd : 2 ≤ d) (C : Core ix H last live zs) (hl : H[l]? = some (.list vs)) (hv : All2 (MV ix H live) ps vs) (hz : vs.length ≤ sizeLine)
    (hT : ∀ ys, All2 (IsV ix.th H) ps ys → T (.ref H.length) (H ++ [.list ys])) : FnP W d H (.ref f_plain_values) [.ref l] T := by
  refine fnP_plain_values P (by walk_at "m_d") ?_
  conv => arg 6; whnf
  refine exP_retP (evP_comp (ev_name rfl) (iterL W l vs) hl ?_ (by decide +kernel) hz rfl)
  refine comp_values C hl hv (fun H v y H' f => ?_) P (by walk_at "m_d") fun ys h => hT ys h
  walk_at "m_ev"
theorem c_array_values {ix : Ix} {last : Int} {live zs ms : List M} {a it wk : Nat} {n c : Int} {T : V → List O → Prop} (hd : 2 ≤ d) (C : Core ix H last live zs) (ha : H[a]? = some (oArray n c wk it)) (hl : H[it]? = some (.list (mref ms))) (hm : ∀ m ∈ ms, m ∈ live) (hz : ms.length ≤ sizeLine)
    (hT : ∀ ys, All2 (IsV ix.th H) (ms.map (·.val)) ys → T (.ref H.length) (H ++ [.list ys])) : FnP W d H (.ref f_array_values) [.ref a] T := by
  refine fnP_array_values P (by walk_at "m_d") ?_
  conv => arg 6; whnf
  have hv : All2 (MV ix H live) (ms.map (·.val)) (mref ms) := by
    clear hl hz hT
    induction ms with
    | nil => exact .nil
    | cons m ms ih => exact .cons (.inr ⟨m, hm m (.head _), rfl, rfl⟩) (ih fun x h => hm x (.tail _ h))
  refine exP_retP (evP_comp (src := .ref it) (H₁ := H) ?_ (iterL W it (mref ms)) hl ?_ (by decide +kernel) (by simpa using hz) rfl)
  · walk_at "m_ev"
  · refine comp_values C hl hv (fun H v y H' f => ?_) P (by walk_at "m_d") fun ys h => hT ys h
    walk_at "m_ev"
theorem c_clear_array {ix : Ix} {last : Int} {live zs ms : List M} {a it wk : Nat} {n c : Int} {T : V → List O → Prop} (hd : 8 ≤ d) (C : Core ix H last (live ++ ms) zs) (ha : H[a]? = some (oArray n c wk it)) (na : a ≠ ix.th) (hl : H[it]? = some (.list (mref ms))) (zl : ix.z < it) (hz : ms.length ≤ sizeLine) (hb : last ≤ 16000000)
    (hT : ∀ H' it', H'[a]? = some (oArray n c wk it') → H'[it']? = some (.list []) → ix.z < it' → Core ix H' last live (zs ++ ms) → SubX ix [a] H H' → T .none H') : FnP W d H (.ref f_clear_array) [.ref ix.ct, .ref a] T := by
  refine fnP_clear_array P (by walk_at "m_d") ?_
  conv => arg 6; whnf
  refine exP_cons (ρ₁ := [(Str.ofString "gone", .ref it), (Str.ofString "counter", .ref ix.ct), (Str.ofString "array", .ref a)]) (H₁ := H) (by walk_at "m_s1") ?_
  refine exP_cons (ρ₁ := [(Str.ofString "gone", .ref it), (Str.ofString "counter", .ref ix.ct), (Str.ofString "array", .ref a)]) (H₁ := (H ++ [O.list []]).set a (oArray n c wk H.length)) (ex1_setattr (by walk_at "m_ev") (by walk_at "m_ev") (fs := [(Str.ofString "number", .int n), (Str.ofString "count", .int c), (Str.ofString "blessed", .none), (Str.ofString "weak", .ref wk), (Str.ofString "is_destroyed", .bool false), (Str.ofString "is_freed", .bool false), (Str.ofString "items", .ref it), (Str.ofString "tied", .none)]) (at_old ha) (P.set (by decide)) (Nat.le_of_ble_eq_true rfl)) ?_
  have C₁ : Core ix ((H ++ [O.list []]).set a (oArray n c wk H.length)) last (live ++ ms) zs := C.push.setOther (at_old ha) ⟨_, _, rfl, by decide, by decide, by decide, by decide⟩ na
  have hl₁ : ((H ++ [O.list []]).set a (oArray n c wk H.length))[it]? = some (.list (mref ms)) := at_ne (fun q => by rw [q] at ha; rw [ha] at hl; cases hl) (at_old hl)
  have s₁ : SubX ix [a] H ((H ++ [O.list []]).set a (oArray n c wk H.length)) := (Sub.push.x).trans (SubX.set (by simp))
  refine FnP.run (c_drop_members (d := d - 1) P (by walk_at "m_d") C₁ hl₁ zl hz hb fun v H₂ C₂ s₂ => fun f => ?_)
  refine exP_cons (ρ₁ := [(Str.ofString "gone", .ref it), (Str.ofString "counter", .ref ix.ct), (Str.ofString "array", .ref a)]) (H₁ := H₂) (by walk_at "m_s1") (exP_nil ?_)
  have l₂ : ((H ++ [O.list []]).set a (oArray n c wk H.length))[H.length]? = some (.list []) := at_ne (Nat.ne_of_lt (at_lt ha)) at_new
  have zn : ix.z < H.length := at_lt C.z
  exact hT H₂ H.length (s₂.arr (at_same (at_old ha)) na) (s₂.lst l₂ zn) zn C₂ (s₁.trans s₂.x)
theorem c_fill_array {ix : Ix} {last : Int} {live zs ms : List M} {a it wk l : Nat} {n c : Int} {ps : List PV} {vs : List V} {T : V → List O → Prop} (hd : 10 ≤ d) (C : Core ix H last (live ++ ms) zs) (ha : H[a]? = some (oArray n c wk it)) (na : a ≠ ix.th) (hl : H[it]? = some (.list (mref ms))) (zl : ix.z < it) (hz : ms.length ≤ sizeLine)
    (hl' : H[l]? = some (.list vs)) (zl' : ix.z < l) (hv : All2 (IsV ix.th H) ps vs) (hz' : vs.length ≤ sizeLine) (hb : last + ps.length ≤ 16000000)
    (hT : ∀ H' it' ms', H'[a]? = some (oArray n c wk it') → H'[it']? = some (.list (mref ms')) → ix.z < it' → Core ix H' (last + ps.length) (live ++ ms') (zs ++ ms) → SubX ix [a] H H' → ms'.map (·.val) = ps → T .none H') : FnP W d H (.ref f_fill_array) [.ref ix.ct, .ref a, .ref l] T := by
  refine fnP_fill_array P (by walk_at "m_d") ?_
  conv => arg 6; whnf
  refine FnP.run (c_fresh_scalars (d := d - 1) P (by walk_at "m_d") C hl' zl' hv hz' fun H₁ ms' id l₁ zi C₁ s₁ hm => fun f₁ => ?_)
  refine exP_cons (ρ₁ := [(Str.ofString "made", .ref id), (Str.ofString "counter", .ref ix.ct), (Str.ofString "array", .ref a), (Str.ofString "values", .ref l)]) (H₁ := H₁) (by walk_at "m_s1") ?_
  have C₁' : Core ix H₁ (last + ps.length) ((live ++ ms') ++ ms) zs := C₁.perm (by
    rw [List.append_assoc, List.append_assoc]
    exact List.Perm.append_left _ List.perm_append_comm)
  refine FnP.run (c_clear_array (d := d - 1) P (by walk_at "m_d") C₁' (s₁.arr ha na) na (s₁.lst hl zl) zl hz hb fun H₂ it₂ a₂ e₂ z₂ C₂ s₂ => fun f₂ => ?_)
  refine exP_cons (ρ₁ := [(Str.ofString "made", .ref id), (Str.ofString "counter", .ref ix.ct), (Str.ofString "array", .ref a), (Str.ofString "values", .ref l)]) (H₁ := H₂) (by walk_at "m_s1") ?_
  refine exP_cons (ρ₁ := [(Str.ofString "made", .ref id), (Str.ofString "counter", .ref ix.ct), (Str.ofString "array", .ref a), (Str.ofString "values", .ref l)]) (H₁ := H₂.set a (oArray n c wk id)) (ex1_setattr (by walk_at "m_ev") (by walk_at "m_ev") a₂ (P.set (by decide)) (Nat.le_of_ble_eq_true rfl)) (exP_nil ?_)
  have na' : id ≠ a := fun q => by rw [q] at l₁; rw [s₁.arr ha na] at l₁; cases l₁
  have l₂ := s₂.at l₁ (by simpa using na') zi
  exact hT _ id ms' (at_same a₂) (at_ne (Ne.symm na') l₂) zi (C₂.setOther a₂ ⟨_, _, rfl, by decide, by decide, by decide, by decide⟩ na) ((s₁.x.trans s₂).trans (SubX.set (by simp))) hm
end
noncomputable def txt : PV → Str
  | .none => ""
  | .int i => Str.ofString (toString i)
  | .str x => x
  | .ref => ""
noncomputable def small : PV → Prop
  | .int i => -9 ≤ i ∧ i ≤ 9
  | _ => True
theorem sign_at {k : Nat} (h : k ≤ 9) : (seqIndex? ((k : Int).fmod 10) (Str.ofString "0123456789").length).bind ((Str.ofString "0123456789").cps[·]?) = some (48 + k) :=
  (by decide +kernel : ∀ k : Fin 10, (seqIndex? ((k.val : Int).fmod 10) (Str.ofString "0123456789").length).bind ((Str.ofString "0123456789").cps[·]?) = some (48 + k.val)) ⟨k, Nat.lt_succ_of_le h⟩
theorem sign_txt {k : Nat} (h : k ≤ 9) : (⟨#[48 + k]⟩ : Str) = Str.ofString (toString (k : Int)) :=
  (by decide +kernel : ∀ k : Fin 10, (⟨#[48 + k.val]⟩ : Str) = Str.ofString (toString (k.val : Int))) ⟨k, Nat.lt_succ_of_le h⟩
theorem sign_neg {k : Nat} (h : k ≤ 9) (h0 : 0 < k) : Str.ofString "-" ++ Str.ofString (toString (k : Int)) = Str.ofString (toString (-(k : Int))) :=
  (by decide +kernel : ∀ k : Fin 10, 0 < k.val → Str.ofString "-" ++ Str.ofString (toString (k.val : Int)) = Str.ofString (toString (-(k.val : Int)))) ⟨k, Nat.lt_succ_of_le h⟩ h0
theorem sign_len {k : Nat} (h : k ≤ 9) : (Str.ofString "-").length + (Str.ofString (toString (k : Int))).length ≤ sizeLine :=
  (by decide +kernel : ∀ k : Fin 10, (Str.ofString "-").length + (Str.ofString (toString (k.val : Int))).length ≤ sizeLine) ⟨k, Nat.lt_succ_of_le h⟩
section
variable {W : Wd} {d : Nat} {H : List O} (P : PF W.K)
include P
theorem r_number_text {k : Nat} (hd : 1 ≤ d) (hk : k ≤ 9) : Fn W d H (.ref f_number_text) [.int (k : Int)] (.str (Str.ofString (toString (k : Int)))) H := by
  obtain ⟨tk, fg⟩ := P.figures
  have h0 : (0 : Int) ≤ (k : Int).fmod 10 := Int.fmod_nonneg_of_pos _ (by decide)
  have h1 : (k : Int).fmod 10 < 2 ^ 62 := by have := Int.fmod_lt_of_pos (k : Int) (b := 10) (by decide); (first | lia | omega)
  have e1 : CmpR W (d - 1) H .Lt (.int (k : Int)) (.int 0) false := cmp_lt.to (by simp)
  have e2 : CmpR W (d - 1) H .Gt (.int (k : Int)) (.int 9) false := cmp_gt.to (by simp; (first | lia | omega))
  refine' fn_number_text (o := some _) P ?x (by walk_at "m_hv") (by walk_at "m_d")
  case x =>
    conv => arg 6; whnf
    walk_at "m_ifF"
    refine' ex_cons (ex1_assign (ev_sign (ev_gstr rfl fg rfl) ?b h0 h1 (sign_at hk) rfl) (.inl rfl) rfl) ?r
    case b => walk_at "m_ev"
    case' r => refine' ex_cons (ex1_while (n := 0) (.done ?t)) ?r2
    case t => walk_at "m_tr"
    case' r2 => skip
    rw [← sign_txt hk]
    walk_at "m_st"
theorem r_number_text_neg {k : Nat} (hd : 2 ≤ d) (hk : k ≤ 9) (h0 : 0 < k) : Fn W d H (.ref f_number_text) [.int (-(k : Int))] (.str (Str.ofString (toString (-(k : Int))))) H := by
  have f1 := r_number_text (d := d - 1) (H := H) P (by walk_at "m_d") hk
  have e1 : CmpR W (d - 1) H .Lt (.int (-(k : Int))) (.int 0) true := cmp_lt.to (by simp; (first | lia | omega))
  have e3 : - -(k : Int) = k := by (first | lia | omega)
  refine' fn_number_text (o := some _) P ?x (by walk_at "m_hv") (by walk_at "m_d")
  case x =>
    conv => arg 6; whnf
    walk_at "m_ifR"
    rw [← sign_neg hk h0]
    refine' ex_ret (ex1_return (ev_cat ev_str ?b (sign_len hk)))
    refine' ev_call (eva_cons (v := .int (k : Int)) ?a eva_nil) f1 (g_number_text P) (kp_number_text P) rfl rfl rfl
    rw [show V.int (k : Int) = V.int (- -(k : Int)) by rw [e3]]
    walk_at "m_ev"
theorem r_to_text {p : PV} {v : V} (hd : 3 ≤ d) (h : IsV 0 H p v) (hp : p ≠ .ref) (hs : small p) : Fn W d H (.ref f_to_text) [v] (.str (txt p)) H := by
  cases p with
  | ref => exact absurd rfl hp
  | none =>
    subst h
    show Fn W d H (.ref f_to_text) [.none] (.str (Str.ofString "")) H
    refine' fn_to_text (o := some _) P ?x (by walk_at "m_hv") (by walk_at "m_d")
    case x =>
      conv => arg 6; whnf
      walk_at "m_ifR"
      walk_at "m_st"
  | str x =>
    subst h
    refine' fn_to_text (o := some _) P ?x (by walk_at "m_hv") (by walk_at "m_d")
    case x =>
      conv => arg 6; whnf
      iterate 3 walk_at "m_ifF"
      walk_at "m_st"
  | int i =>
    subst h
    have f1 : Fn W (d - 1) H (.ref f_number_text) [.int i] (.str (Str.ofString (toString i))) H := by
      by_cases q : 0 ≤ i
      · obtain ⟨k, rfl⟩ := Int.eq_ofNat_of_zero_le q
        exact r_number_text P (by walk_at "m_d") (by have := hs.2; (first | lia | omega))
      · have e : i = -((-i).toNat : Int) := by (first | lia | omega)
        rw [e]
        exact r_number_text_neg P (by walk_at "m_d") (by have := hs.1; (first | lia | omega)) (by walk_at "m_d")
    show Fn W d H (.ref f_to_text) [.int i] (.str (Str.ofString (toString i))) H
    refine' fn_to_text (o := some _) P ?x (by walk_at "m_hv") (by walk_at "m_d")
    case x =>
      conv => arg 6; whnf
      walk_at "m_ifF"
      walk_at "m_ifR"
      walk_at "m_st"
end
noncomputable abbrev hes (ht : List (Str × M)) : List (Str × V) := ht.map fun p => (p.1, .ref p.2.id)
noncomputable abbrev hms (ht : List (Str × M)) : List M := ht.map (·.2)
noncomputable def flat (ht : List (Str × M)) : List V := ht.flatMap fun p => [.str p.1, .ref p.2.id]
noncomputable def hval (ht : List (Str × M)) : List (Str × PV) := ht.map fun p => (p.1, p.2.val)
theorem vAt_mid {β : Type} {l₁ l₂ : List (Str × β)} {k : Str} {b : β} (n : k ∉ l₁.map (·.1)) : vAt (l₁ ++ (k, b) :: l₂) k = some b := by
  unfold vAt
  rw [List.find?_append]
  have : l₁.find? (fun kv => decide (kv.1 = k)) = none := by
    rw [List.find?_eq_none]
    intro x hx q
    exact n (List.mem_map.mpr ⟨x, hx, by simpa using q⟩)
  rw [this]
  simp
theorem vAt_hes {ht : List (Str × M)} {k : Str} {m : M} {l₁ l₂ : List (Str × M)} (e : ht = l₁ ++ (k, m) :: l₂) (nd : (ht.map (·.1)).Nodup) : vAt (hes ht) k = some (.ref m.id) := by
  subst e
  unfold hes
  rw [List.map_append, List.map_cons]
  refine vAt_mid ?_
  rw [List.map_append, List.map_cons, List.nodup_append] at nd
  rw [List.map_map]
  intro h
  exact nd.2.2 _ h k (.head _) rfl
theorem set_last {H : List O} {o o' : O} : (H ++ [o]).set H.length o' = H ++ [o'] := by simp
theorem fits {i : Int} (h0 : 0 ≤ i) (h : i ≤ 99999999) : Builtin.Range.rangeFitsLong i = true := by
  unfold Builtin.Range.rangeFitsLong
  rw [decide_eq_true (Int.le_trans (by decide) h0), decide_eq_true (Int.lt_of_le_of_lt h (by decide))]; rfl
theorem rsize {n c : Int} (hc : 1 ≤ c) (h0 : 0 ≤ n) : 0 ≤ Builtin.Range.rangeSize 0 n c ∧ Builtin.Range.rangeSize 0 n c ≤ n + 1 := by
  unfold Builtin.Range.rangeSize
  rw [if_pos (Int.lt_of_lt_of_le (by decide) hc)]
  split
  · next h =>
    rw [Int.sub_zero]
    have q0 : 0 ≤ n - 1 := Int.le_sub_one_of_lt h
    exact ⟨Int.add_nonneg (Int.ediv_nonneg q0 (Int.le_trans (by decide) hc)) (by decide), Int.add_le_add (Int.le_trans (Int.ediv_le_self _ q0) (Int.sub_le_self _ (by decide))) (by decide)⟩
  · exact ⟨Int.le_refl _, Int.le_trans h0 (Int.le_add_of_nonneg_right (by decide))⟩
theorem small_r {n c : Int} (hc : 1 ≤ c) (h2 : c ≤ 2) (h0 : 0 ≤ n) (h : n ≤ 16777216) : Builtin.Range.small 0 n c = true := by
  have s := rsize hc h0
  have p : 0 < c := Int.lt_of_lt_of_le (by decide) hc
  have z : (0 : Int) ≤ c - 1 := Int.sub_nonneg_of_le hc
  unfold Builtin.Range.small
  rw [fits (Int.le_refl 0) (by decide), fits h0 (Int.le_trans h (by decide)), fits (Int.le_of_lt p) (Int.le_trans h2 (by decide)), fits s.1 (Int.le_trans s.2 (Int.le_trans (Int.add_le_add_right h 1) (by decide))), if_pos p,
    fits (Int.add_nonneg h0 z) (Int.le_trans (Int.add_le_add h (Int.sub_le_sub_right h2 1)) (by decide)), Bool.or_true]
  rfl
theorem small_range {n : Int} (h0 : 0 ≤ n) (h : n ≤ 16777216) : Builtin.Range.small 0 n 2 = true ∧ Builtin.Range.small 0 n 1 = true := ⟨small_r (by decide) (by decide) h0 h, small_r (by decide) (by decide) h0 h⟩
section
variable {W : Wd} {d : Nat} {H : List O} (P : PF W.K)
include P
theorem c_clear_hash {ix : Ix} {last : Int} {live zs : List M} {ht : List (Str × M)} {h tb wk : Nat} {ep : Nat} {n c : Int} {T : V → List O → Prop} (hd : 6 ≤ d) (C : Core ix H last (live ++ hms ht) zs) (hh : H[h]? = some (oHash n c wk tb)) (ht' : H[tb]? = some (.sd (hes ht) ep)) (nd : (ht.map (·.1)).Nodup) (hb : last ≤ 16000000)
    (hT : ∀ H' tb', H'[h]? = some (oHash n c wk tb') → H'[tb']? = some (.sd [] 0) → Core ix H' last live (zs ++ hms ht) → SubX ix [h] H H' → T .none H') : FnP W d H (.ref f_clear_hash) [.ref ix.ct, .ref h] T := by
  refine fnP_clear_hash P (by walk_at "m_d") ?_
  conv => arg 6; whnf
  have nh : h ≠ ix.th := fun q => by rw [q, C.th] at hh; cases hh
  have L : Loc := [(Str.ofString "gone", .ref tb), (Str.ofString "counter", .ref ix.ct), (Str.ofString "table_thing", .ref h)]
  refine exP_cons (ρ₁ := [(Str.ofString "gone", .ref tb), (Str.ofString "counter", .ref ix.ct), (Str.ofString "table_thing", .ref h)]) (H₁ := H) (by walk_at "m_s1") ?_
  refine exP_cons (ρ₁ := [(Str.ofString "gone", .ref tb), (Str.ofString "counter", .ref ix.ct), (Str.ofString "table_thing", .ref h)]) (H₁ := (H ++ [O.sd [] 0]).set h (oHash n c wk H.length)) (ex1_setattr (by walk_at "m_ev") (by walk_at "m_ev") (at_old hh) (P.set (by decide)) (Nat.le_of_ble_eq_true rfl)) ?_
  have a₁ : ((H ++ [O.sd [] 0]).set h (oHash n c wk H.length))[h]? = some (oHash n c wk H.length) := at_same (at_old hh)
  have C₁ : Core ix ((H ++ [O.sd [] 0]).set h (oHash n c wk H.length)) last (live ++ hms ht) zs := C.push.setOther (at_old hh) ⟨_, _, rfl, by decide, by decide, by decide, by decide⟩ nh
  have s₁ : SubX ix [h] H ((H ++ [O.sd [] 0]).set h (oHash n c wk H.length)) := (Sub.push.x).trans (SubX.set (by simp))
  have ntb : h ≠ tb := fun q => by rw [q, ht'] at hh; cases hh
  have t₁ : ((H ++ [O.sd [] 0]).set h (oHash n c wk H.length))[tb]? = some (.sd (hes ht) ep) := at_ne ntb (at_old ht')
  have l₁ : ((H ++ [O.sd [] 0]).set h (oHash n c wk H.length))[H.length]? = some (.sd [] 0) := at_ne (Nat.ne_of_lt (at_lt hh)) at_new
  generalize (H ++ [O.sd [] 0]).set h (oHash n c wk H.length) = H₁ at *
  refine exP_cons (ρ₁ := [(Str.ofString "gone", .ref tb), (Str.ofString "counter", .ref ix.ct), (Str.ofString "table_thing", .ref h)]) (H₁ := H₁.set h (oHash n c wk H.length)) (ex1_setattr (by walk_at "m_ev") (by walk_at "m_ev") a₁ (P.set (by decide)) (Nat.le_of_ble_eq_true rfl)) ?_
  rw [set_self a₁]
  refine exP_for (ev_name rfl) (iterD W tb (hes ht) ep) t₁ ?_ (.inl rfl) rfl
  refine forP_gen (fun (_ : Unit) => [(Str.ofString "gone", .ref tb), (Str.ofString "counter", .ref ix.ct), (Str.ofString "table_thing", .ref h)]) (fun _ H₂ rest => ∃ h₁ h₂, ht = h₁ ++ h₂ ∧ rest = (hes h₂).map (fun p => V.str p.1) ∧ Core ix H₂ last (live ++ hms h₂) (zs ++ hms h₁) ∧ Sub ix H₁ H₂) () (fun _ _ e => e) ⟨[], ht, rfl, rfl, by simpa using C₁, .refl _ _⟩ ?_ ?_
  · rintro _ H₂ v rest ⟨h₁, h₂, e, e2, C₂, s₂⟩
    have t₂ := s₂.sd t₁
    refine ⟨t₂, ?_⟩
    cases h₂ with
    | nil => cases e2
    | cons p h₃ =>
      obtain ⟨k, m⟩ := p
      cases e2
      have va := vAt_hes e nd
      obtain ⟨y, H₃, f, C₃, s₃⟩ := c_drop_member (d := d - 1) P (by walk_at "m_d") C₂ hb
      refine ⟨(), H₃, ?_, h₁ ++ [(k, m)], h₃, by simp [e], rfl, by simpa using C₃, s₂.trans s₃⟩
      refine (Ex.weak (ρ' := (Str.ofString "key", .str k) :: [(Str.ofString "gone", .ref tb), (Str.ofString "counter", .ref ix.ct), (Str.ofString "table_thing", .ref h)]) ?_ (.cons rfl (.cons rfl (.cons rfl .nil))))
      iterate 2 walk_at "m_st"
  · rintro _ H₂ ⟨h₁, h₂, e, e2, C₂, s₂⟩
    refine ⟨s₂.sd t₁, ?_⟩
    cases h₂ with
    | cons p h₃ => cases e2
    | nil =>
      rw [List.append_nil] at e
      subst e
      exact exP_nil (hT H₂ H.length (s₂.hash a₁) (s₂.sd l₁) (by simpa using C₂) (s₁.trans s₂.x))
theorem c_flat_hash {ht : List (Str × M)} {h tb wk : Nat} {ep : Nat} {n c : Int} (hd : 1 ≤ d) (hh : H[h]? = some (oHash n c wk tb)) (ht' : H[tb]? = some (.sd (hes ht) ep)) (nd : (ht.map (·.1)).Nodup) (hz : ht.length ≤ 1000000) :
    Fn W d H (.ref f_flat_hash) [.ref h] (.ref H.length) (H ++ [.list (flat ht)]) := by
  have main : FnP W d H (.ref f_flat_hash) [.ref h] (fun v H' => v = .ref H.length ∧ H' = H ++ [.list (flat ht)]) := by
    refine fnP_flat_hash P (by walk_at "m_d") ?_
    conv => arg 6; whnf
    refine exP_cons (ρ₁ := [(Str.ofString "found", .ref H.length), (Str.ofString "table_thing", .ref h)]) (H₁ := H ++ [.list []]) (by walk_at "m_s1") ?_
    refine exP_for (H₁ := H ++ [.list []]) (src := .ref tb) ?_ (iterD W tb (hes ht) ep) (at_old ht') ?_ (.inl rfl) rfl
    · walk_at "m_ev"
    refine forP_gen (fun (_ : Unit) => [(Str.ofString "found", .ref H.length), (Str.ofString "table_thing", .ref h)]) (fun _ H₂ rest => ∃ h₁ h₂, ht = h₁ ++ h₂ ∧ rest = (hes h₂).map (fun p => V.str p.1) ∧ H₂ = H ++ [.list (flat h₁)]) () (fun _ _ e => e) ⟨[], ht, rfl, rfl, rfl⟩ ?_ ?_
    · rintro _ H₂ v rest ⟨h₁, h₂, e, e2, rfl⟩
      refine ⟨at_old ht', ?_⟩
      cases h₂ with
      | nil => cases e2
      | cons p h₃ =>
        obtain ⟨k, m⟩ := p
        cases e2
        have va := vAt_hes e nd
        have fl : (flat h₁).length ≤ 2 * h₁.length := by
          clear e
          induction h₁ with
          | nil => simp [flat]
          | cons p r ih => unfold flat at ih ⊢; rw [List.flatMap_cons, List.length_append]; simp only [List.length_cons, List.length_nil] at ih ⊢; (first | lia | omega)
        have el : h₁.length ≤ ht.length := by rw [e]; simp
        have sl := sizeLine_eq
        have z1 : (flat h₁).length ≤ sizeLine := by (first | lia | omega)
        have z2 : (flat h₁ ++ [V.str k]).length ≤ sizeLine := by simp; (first | lia | omega)
        refine ⟨(), H ++ [.list (flat (h₁ ++ [(k, m)]))], ?_, h₁ ++ [(k, m)], h₃, by simp [e], rfl, rfl⟩
        refine (Ex.weak (ρ' := (Str.ofString "key", .str k) :: [(Str.ofString "found", .ref H.length), (Str.ofString "table_thing", .ref h)]) ?_ (.cons rfl (.cons rfl .nil)))
        walk_at "m_st"
        rw [set_last]
        walk_at "m_st"
        rw [set_last]
        have : flat (h₁ ++ [(k, m)]) = flat h₁ ++ [V.str k] ++ [V.ref m.id] := by simp [flat]
        rw [this]
        walk_at "m_st"
    · rintro _ H₂ ⟨h₁, h₂, e, e2, rfl⟩
      refine ⟨at_old ht', ?_⟩
      cases h₂ with
      | cons p h₃ => cases e2
      | nil =>
        rw [List.append_nil] at e
        subst e
        exact exP_ret (ev_name rfl) ⟨rfl, rfl⟩
  obtain ⟨v, H', x, rfl, rfl⟩ := main
  exact x
end
noncomputable def pairs : List PV → List (Str × PV) → List (Str × PV)
  | [], acc => acc
  | [k], acc => putD acc (txt k) .none
  | k :: v :: r, acc => pairs r (putD acc (txt k) v)
theorem putD_any {β γ : Type} (f : β → γ) (es : List (Str × β)) (k : Str) : (es.map fun p => (p.1, f p.2)).any (fun kv => decide (kv.1 = k)) = es.any (fun kv => decide (kv.1 = k)) := by rw [List.any_map]; rfl
theorem any_vAt {β : Type} (es : List (Str × β)) (k : Str) : es.any (fun kv => decide (kv.1 = k)) = (vAt es k).isSome := by
  unfold vAt
  rw [Option.isSome_map, Bool.eq_iff_iff, List.any_eq_true, List.find?_isSome]
theorem putD_new {β : Type} {es : List (Str × β)} {k : Str} {b : β} (h : vAt es k = none) : putD es k b = es ++ [(k, b)] := by
  unfold putD
  rw [any_vAt, h]; rfl
theorem vAt_split {β : Type} {es : List (Str × β)} {k : Str} {b : β} (h : vAt es k = some b) : ∃ l₁ l₂, es = l₁ ++ (k, b) :: l₂ ∧ k ∉ l₁.map (·.1) := by
  induction es with
  | nil => cases h
  | cons p r ih =>
    obtain ⟨j, c⟩ := p
    unfold vAt at h
    by_cases e : j = k
    · subst e
      simp at h
      subst h
      exact ⟨[], r, rfl, by simp⟩
    · simp only [List.find?_cons, e, decide_false] at h
      obtain ⟨l₁, l₂, h1, h2⟩ := ih h
      exact ⟨(j, c) :: l₁, l₂, by rw [h1]; rfl, by simp at h2 ⊢; exact ⟨fun q => e q.symm, h2⟩⟩
theorem putD_old {β : Type} {l₁ l₂ : List (Str × β)} {k : Str} {b c : β} (n : ((l₁ ++ (k, b) :: l₂).map (·.1)).Nodup) : putD (l₁ ++ (k, b) :: l₂) k c = l₁ ++ (k, c) :: l₂ := by
  have a : (l₁ ++ (k, b) :: l₂).any (fun kv => decide (kv.1 = k)) = true := by simp
  rw [List.map_append, List.map_cons, List.nodup_append, List.nodup_cons] at n
  obtain ⟨_, ⟨n2, _⟩, n3⟩ := n
  have id : ∀ l : List (Str × β), k ∉ l.map (·.1) → (l.map fun kv => if kv.1 = k then (kv.1, c) else kv) = l := by
    intro l h
    induction l with
    | nil => rfl
    | cons p r ih =>
      simp at h
      simp only [List.map_cons]
      rw [ih (by simpa using h.2), if_neg (fun q => h.1 q.symm)]
  unfold putD
  rw [if_pos a, List.map_append, List.map_cons, id l₁ (fun h => n3 _ h k (.head _) rfl), id l₂ n2]
  simp
theorem putD_keys {β : Type} {es : List (Str × β)} {k : Str} {b : β} (n : (es.map (·.1)).Nodup) : ((putD es k b).map (·.1)).Nodup := by
  cases h : vAt es k with
  | none =>
    rw [putD_new h]
    rw [List.map_append, List.nodup_append]
    refine ⟨n, by simp, fun a ha c hc => ?_⟩
    simp at hc
    subst hc
    intro e
    subst e
    have := any_vAt es a
    rw [h] at this
    obtain ⟨p, hp, rfl⟩ := List.mem_map.mp ha
    have t : es.any (fun kv => decide (kv.1 = p.1)) = true := List.any_eq_true.mpr ⟨p, hp, by simp⟩
    rw [t] at this; cases this
  | some c =>
    obtain ⟨l₁, l₂, rfl, _⟩ := vAt_split h
    rw [putD_old n]
    simpa using n
theorem putD_map {β γ : Type} (f : β → γ) (es : List (Str × β)) (k : Str) (b : β) : (putD es k b).map (fun p => (p.1, f p.2)) = putD (es.map fun p => (p.1, f p.2)) k (f b) := by
  unfold putD
  rw [putD_any]
  split
  · rw [List.map_map, List.map_map]
    congr 1
    funext p
    simp only [Function.comp]
    split <;> rfl
  · simp
theorem pairs_drop {ps : List PV} {j : Nat} {k : PV} (h : ps[2 * j]? = some k) (acc : List (Str × PV)) : pairs (ps.drop (2 * j)) acc = pairs (ps.drop (2 * (j + 1))) (putD acc (txt k) (ps[2 * j + 1]?.getD .none)) := by
  have l := (List.getElem?_eq_some_iff.mp h).1
  have e : ps.drop (2 * j) = k :: ps.drop (2 * j + 1) := by
    rw [List.drop_eq_getElem_cons l]
    have := (List.getElem?_eq_some_iff.mp h).2
    rw [this]
  rw [e]
  cases q : ps[2 * j + 1]? with
  | none =>
    have : ps.drop (2 * j + 1) = [] := List.drop_eq_nil_of_le (List.getElem?_eq_none_iff.mp q)
    have t : ps.drop (2 * (j + 1)) = [] := List.drop_eq_nil_of_le (by have := List.getElem?_eq_none_iff.mp q; (first | lia | omega))
    rw [this, t]
    rfl
  | some v =>
    have l2 := (List.getElem?_eq_some_iff.mp q).1
    have e2 : ps.drop (2 * j + 1) = v :: ps.drop (2 * (j + 1)) := by
      rw [List.drop_eq_getElem_cons l2]
      have := (List.getElem?_eq_some_iff.mp q).2
      rw [this]
      rfl
    rw [e2]
    rfl
theorem ran2_len (n : Nat) : ((Builtin.Range.rangeSize 0 n 2).toNat) = (n + 1) / 2 := by
  unfold Builtin.Range.rangeSize
  simp
  split <;> (first | lia | omega)
theorem All2.get0 {α β : Type} {R : α → β → Prop} {l : List α} {m : List β} (h : All2 R l m) {i : Nat} : (l[i]? = none ↔ m[i]? = none) := by
  have := h.length
  simp only [List.getElem?_eq_none_iff]
  (first | lia | omega)
theorem vAt_map {β γ : Type} (f : β → γ) (es : List (Str × β)) (k : Str) : vAt (es.map fun p => (p.1, f p.2)) k = (vAt es k).map f := by
  unfold vAt
  induction es with
  | nil => rfl
  | cons p r ih =>
    simp only [List.map_cons, List.find?_cons]
    split <;> simp_all
theorem SubX.setNew {ix : Ix} {X : List Nat} {H H' : List O} {i : Nat} {o' : O} (s : SubX ix X H H') (n : H.length ≤ i) : SubX ix X H (H'.set i o') := ⟨by simpa using s.1, fun j u nj e' k => at_ne (fun q => by subst q; exact absurd (at_lt e') (by walk_at "m_d")) (s.2 j u nj e' k)⟩
theorem Sub.setNew {ix : Ix} {H H' : List O} {i : Nat} {o' : O} (s : Sub ix H H') (n : H.length ≤ i) : Sub ix H (H'.set i o') := (s.x.setNew (X := []) n).sub
theorem Core.setSd {ix : Ix} {H : List O} {last : Int} {live zs : List M} {i : Nat} {es es' : List (Str × V)} {ep ep' : Nat} (C : Core ix H last live zs) (e : H[i]? = some (.sd es ep)) : Core ix (H.set i (.sd es' ep')) last live zs := by
  have keep : ∀ (j : Nat) (u : O), (∀ es ep, u ≠ .sd es ep) → H[j]? = some u → (H.set i (.sd es' ep'))[j]? = some u := fun j u nu ej => at_ne (fun q => by subst q; rw [e] at ej; cases ej; exact nu _ _ rfl) ej
  have val : ∀ p v, IsV ix.th H p v → IsV ix.th (H.set i (.sd es' ep')) p v := fun p v x => by
    cases p with
    | ref => obtain ⟨r, e1, e2⟩ := x; exact ⟨r, e1, keep _ _ (fun _ _ q => by cases q) e2⟩
    | _ => exact x
  have mem : ∀ c m, MemAt ix H c m → MemAt ix (H.set i (.sd es' ep')) c m := fun c m x => by
    obtain ⟨wk, v, a, b, c', d⟩ := x
    exact ⟨wk, v, keep _ _ (fun _ _ q => by cases q) a, val _ _ b, keep _ _ (fun _ _ q => by cases q) c', d⟩
  exact {
    ct := keep _ _ (fun _ _ q => by cases q) C.ct
    pl := keep _ _ (fun _ _ q => by cases q) C.pl
    hp := keep _ _ (fun _ _ q => by cases q) C.hp
    z := keep _ _ (fun _ _ q => by cases q) C.z
    th := keep _ _ (fun _ _ q => by cases q) C.th
    liv := fun m h => mem 1 m (C.liv m h)
    ded := fun m h => mem 0 m (C.ded m h)
    ids := C.ids
    nums := C.nums
    numle := C.numle
    cnt := C.cnt }
structure IFill (ix : Ix) (H : List O) (live zs : List M) (ht : List (Str × M)) (last : Int) (n : Nat) (ps : List PV) (H₂ : List O) (rest : List V) (j : Nat) (mt : List (Str × M)) (ep' : Nat) : Prop where
  f0 : rest = (ran 0 n 2).drop j
  f1 : H₂[H.length]? = some (.sd (hes mt) ep')
  f2 : (mt.map (·.1)).Nodup
  f3 : Core ix H₂ (last + mt.length) ((live ++ hms ht) ++ hms mt) zs
  f4 : Sub ix H H₂
  f5 : (mt.length ≤ j ∧ mt.length ≤ ps.length)
  f6 : pairs (ps.drop (2 * j)) (hval mt) = pairs ps []
section
variable {W : Wd} {d : Nat} {H : List O} (P : PF W.K)
include P
theorem c_fill_hash {ix : Ix} {last : Int} {live zs : List M} {ht : List (Str × M)} {h tb wk l : Nat} {ep : Nat} {n c : Int} {ps : List PV} {vs : List V} {T : V → List O → Prop} (hd : 8 ≤ d) (C : Core ix H last (live ++ hms ht) zs) (hh : H[h]? = some (oHash n c wk tb)) (ht' : H[tb]? = some (.sd (hes ht) ep)) (nd : (ht.map (·.1)).Nodup)
    (hl : H[l]? = some (.list vs)) (zl : ix.z < l) (hv : All2 (IsV ix.th H) ps vs) (hp : ∀ p ∈ ps, p ≠ .ref ∧ small p) (hz : vs.length ≤ 1000000) (hb : last + ps.length ≤ 16000000)
    (hT : ∀ H' tb' ep' ht₂, H'[h]? = some (oHash n c wk tb') → H'[tb']? = some (.sd (hes ht₂) ep') → (ht₂.map (·.1)).Nodup → Core ix H' (last + ht₂.length) (live ++ hms ht₂) (zs ++ hms ht) → SubX ix [h] H H' → hval ht₂ = pairs ps [] → ht₂.length ≤ ps.length → T .none H') :
    FnP W d H (.ref f_fill_hash) [.ref ix.ct, .ref h, .ref l] T := by
  refine fnP_fill_hash P (by walk_at "m_d") ?_
  conv => arg 6; whnf
  have zh : ix.z < H.length := at_lt C.z
  have sl := sizeLine_eq
  have hz2 : vs.length < 2 ^ 62 := by (first | lia | omega)
  have pl := hv.length
  refine exP_cons (ρ₁ := [(Str.ofString "made", .ref H.length), (Str.ofString "counter", .ref ix.ct), (Str.ofString "table_thing", .ref h), (Str.ofString "values", .ref l)]) (H₁ := H ++ [.sd [] 0]) (by walk_at "m_s1") ?_
  have hl0 : (H ++ [O.sd [] 0])[l]? = some (.list vs) := at_old hl
  refine exP_for (H₁ := (H ++ [.sd [] 0]) ++ [.rng 0 vs.length 2]) (src := .ref (H ++ [O.sd [] 0]).length) ?_ (iterR W (H ++ [O.sd [] 0]).length 0 vs.length 2 (small_range (by walk_at "m_d") (by walk_at "m_d")).1) at_new ?_ (.inl rfl) rfl
  · walk_at "m_ev"
  have s0 : Sub ix H ((H ++ [.sd [] 0]) ++ [.rng 0 vs.length 2]) := Sub.push.trans Sub.push
  have m0 : ((H ++ [O.sd [] 0]) ++ [O.rng 0 vs.length 2])[H.length]? = some (.sd (hes []) 0) := at_old at_new
  have C0 : Core ix ((H ++ [.sd [] 0]) ++ [.rng 0 vs.length 2]) (last + ([] : List (Str × M)).length) ((live ++ hms ht) ++ hms []) zs := by simpa using C.push.push
  generalize (H ++ [O.sd [] 0]) ++ [O.rng 0 vs.length 2] = H₀ at *
  refine forP_gen (fun (_ : Unit) => [(Str.ofString "made", .ref H.length), (Str.ofString "counter", .ref ix.ct), (Str.ofString "table_thing", .ref h), (Str.ofString "values", .ref l)])
    (fun _ H₂ rest => ∃ (j : Nat) (mt : List (Str × M)) (ep' : Nat), IFill ix H live zs ht last vs.length ps H₂ rest j mt ep')
    () (.cons rfl (.cons rfl (.cons rfl (.cons rfl .nil)))) ⟨0, [], 0, rfl, m0, .nil, C0, s0, ⟨Nat.le_refl _, by simp⟩, rfl⟩ ?_ ?_
  · rintro _ H₂ v rest ⟨j, mt, ep', e, m₂, nd₂, C₂, s₂, jl, pe⟩
    refine ⟨trivial, ?_⟩
    have hv0 : (ran 0 vs.length 2)[j]? = some v := drop_hd e
    have e' : rest = (ran 0 vs.length 2).drop (j + 1) := drop_tl e
    obtain ⟨lt, rfl⟩ := ran_at hv0
    have jn : 2 * j < vs.length := by
      unfold Builtin.Range.rangeSize at lt
      simp at lt
      split at lt <;> (first | lia | omega)
    have ev2 : (0 : Int) + (j : Int) * 2 = ((2 * j : Nat) : Int) := by push_cast; (first | lia | omega)
    rw [ev2]
    obtain ⟨kv, hkv⟩ : ∃ kv, vs[2 * j]? = some kv := ⟨_, List.getElem?_eq_getElem jn⟩
    obtain ⟨k, hk, ik⟩ := hv.get' hkv
    have kp := hp k (List.mem_of_getElem? hk)
    have hl₂ := s₂.lst hl zl
    have ik' : IsV 0 H₂ k kv := by
      cases k with
      | ref => exact absurd rfl kp.1
      | _ => exact ik
    have f1 := r_to_text (d := d - 1) P (by walk_at "m_d") ik' kp.1 kp.2
    have b1 : (0 : Int) ≤ ((2 * j : Nat) : Int) := by (first | lia | omega)
    have b2 : ((2 * j : Nat) : Int) < 2 ^ 63 := by (first | lia | omega)
    have hkv' : vs[((2 * j : Nat) : Int).toNat]? = some kv := hkv
    -- the value beside the key
    obtain ⟨vv, hvv, ivv⟩ : ∃ vv, (if (((2 * j : Nat) : Int) + 1) < (vs.length : Int) then vs[2 * j + 1]? = some vv else vv = .none) ∧ IsV ix.th H₂ (ps[2 * j + 1]?.getD .none) vv := by
      by_cases q : 2 * j + 1 < vs.length
      · obtain ⟨vv, hvv⟩ : ∃ vv, vs[2 * j + 1]? = some vv := ⟨_, List.getElem?_eq_getElem q⟩
        obtain ⟨p, hp1, ip⟩ := hv.get' hvv
        refine ⟨vv, by rw [if_pos (by walk_at "m_d")]; exact hvv, ?_⟩
        rw [hp1]
        exact ip.mono s₂
      · refine ⟨.none, by rw [if_neg (by walk_at "m_d")], ?_⟩
        have : ps[2 * j + 1]? = none := List.getElem?_eq_none (by walk_at "m_d")
        rw [this]
        rfl
    have step : ∀ H₃ mt', Core ix H₃ (last + mt'.length) ((live ++ hms ht) ++ hms mt') zs → (∃ ep'', H₃[H.length]? = some (.sd (hes mt') ep'')) → (mt'.map (·.1)).Nodup → Sub ix H H₃ → hval mt' = putD (hval mt) (txt k) (ps[2 * j + 1]?.getD .none) → mt'.length ≤ j + 1 ∧ mt'.length ≤ ps.length →
        ∃ (j : Nat) (mt : List (Str × M)) (ep' : Nat), IFill ix H live zs ht last vs.length ps H₃ rest j mt ep' := by
      rintro H₃ mt' C₃ ⟨ep'', m₃⟩ nd₃ s₃ hval₃ len
      exact ⟨j + 1, mt', ep'', e', m₃, nd₃, C₃, s₃, len, by rw [hval₃, ← pairs_drop hk]; exact pe⟩
    have c0 : CmpR W (d - 1) H₂ .In (.str (txt k)) (.ref H.length) (vAt (hes mt) (txt k)).isSome := cmp_in_sd m₂
    have hct := C₂.ct
    have ht2 : (((2 * j : Nat) : Int) + 1).toNat = 2 * j + 1 := by (first | lia | omega)
    have hbig : ps.length ≤ 1000000 := by (first | lia | omega)
    have ml : mt.length ≤ sizeLine := by (first | lia | omega)
    cases va : vAt mt (txt k) with
    | some m =>
      obtain ⟨l₁, l₂, rfl, nk⟩ := vAt_split va
      have va' := vAt_hes rfl nd₂
      rw [va'] at c0
      have c0 : CmpR W (d - 1) H₂ .In (.str (txt k)) (.ref H.length) true := c0.to rfl
      have C₂' : Core ix H₂ (last + (l₁ ++ (txt k, m) :: l₂).length) (((live ++ hms ht) ++ hms l₁) ++ m :: hms l₂) zs := by simpa using C₂
      obtain ⟨H₃, f3, C₃, s₃⟩ := c_store (d := d - 1) P (by walk_at "m_d") C₂' ivv
      have hs3 : ∃ ep'', H₃[H.length]? = some (.sd (hes (l₁ ++ (txt k, { m with val := ps[2 * j + 1]?.getD .none }) :: l₂)) ep'') := ⟨ep', by have := s₃.sd m₂; simpa using this⟩
      refine ⟨(), H₃, ?_, step H₃ (l₁ ++ (txt k, { m with val := ps[2 * j + 1]?.getD .none }) :: l₂) (by simpa using C₃) hs3 (by simpa using nd₂) (s₂.trans s₃) ?_ (by simp at jl ⊢; (first | lia | omega))⟩
      · refine (Ex.weak (ρ' := (Str.ofString "value", vv) :: (Str.ofString "key", .str (txt k)) :: (Str.ofString "at", .int ((2 * j : Nat) : Int)) :: [(Str.ofString "made", .ref H.length), (Str.ofString "counter", .ref ix.ct), (Str.ofString "table_thing", .ref h), (Str.ofString "values", .ref l)]) ?_ (.cons rfl (.cons rfl (.cons rfl (.cons rfl .nil)))))
        walk_at "m_st"
        refine' ex_cons (ex1_assign (v := vv) (H₁ := H₂) ?e (.inl rfl) rfl) ?r
        case e =>
          by_cases q : 2 * j + 1 < vs.length
          · rw [if_pos (by walk_at "m_d")] at hvv
            have hvv' : vs[(((2 * j : Nat) : Int) + 1).toNat]? = some vv := by rw [ht2]; exact hvv
            have c1 : CmpR W (d - 1) H₂ .Lt (.int (((2 * j : Nat) : Int) + 1)) (.int vs.length) true := cmp_lt.to (by simp; (first | lia | omega))
            exact ev_ifT (H₁ := H₂) (by walk_at "m_tr") (by walk_at "m_ev")
          · rw [if_neg (by walk_at "m_d")] at hvv
            subst hvv
            have c1 : CmpR W (d - 1) H₂ .Lt (.int (((2 * j : Nat) : Int) + 1)) (.int vs.length) false := cmp_lt.to (by simp; (first | lia | omega))
            exact ev_ifF (H₁ := H₂) (by walk_at "m_tr") (by walk_at "m_ev")
        case r =>
          walk_at "m_ifT"
          iterate 3 walk_at "m_st"
      · have e1 : hval (l₁ ++ (txt k, m) :: l₂) = hval l₁ ++ (txt k, m.val) :: hval l₂ := by simp [hval]
        have e2 : hval (l₁ ++ (txt k, { m with val := ps[2 * j + 1]?.getD .none }) :: l₂) = hval l₁ ++ (txt k, ps[2 * j + 1]?.getD .none) :: hval l₂ := by simp [hval]
        rw [e1, e2, putD_old]
        have : ((hval l₁ ++ (txt k, m.val) :: hval l₂).map (·.1)) = (l₁ ++ (txt k, m) :: l₂).map (·.1) := by simp [hval, Function.comp_def]
        rw [this]
        exact nd₂
    | none =>
      have va' : vAt (hes mt) (txt k) = none := by
        show vAt (mt.map fun p => (p.1, V.ref p.2.id)) (txt k) = none
        rw [vAt_map (fun m : M => V.ref m.id), va]; rfl
      rw [va'] at c0
      have c0 : CmpR W (d - 1) H₂ .In (.str (txt k)) (.ref H.length) false := c0.to rfl
      obtain ⟨H₃, f3, C₃, s₃⟩ := c_fresh (d := d - 1) P (by walk_at "m_d") C₂ ivv
      have m₃ := s₃.sd m₂
      have C₄ : Core ix (H₃.set H.length (.sd (putD (hes mt) (txt k) (.ref H₂.length)) (putE (hes mt) (txt k) ep'))) (last + (putD mt (txt k) ⟨H₂.length, last + mt.length + 1, ps[2 * j + 1]?.getD .none⟩).length) ((live ++ hms ht) ++ hms (putD mt (txt k) ⟨H₂.length, last + mt.length + 1, ps[2 * j + 1]?.getD .none⟩)) zs := by
        rw [putD_new va]
        have := C₃.setSd m₃ (es' := putD (hes mt) (txt k) (.ref H₂.length)) (ep' := putE (hes mt) (txt k) ep')
        have e5 : last + ((mt ++ [(txt k, (⟨H₂.length, last + mt.length + 1, ps[2 * j + 1]?.getD .none⟩ : M))]).length : Int) = last + mt.length + 1 := by simp; (first | lia | omega)
        rw [e5]
        simpa using this
      refine ⟨(), _, ?_, step _ (putD mt (txt k) ⟨H₂.length, last + mt.length + 1, ps[2 * j + 1]?.getD .none⟩) C₄ ⟨putE (hes mt) (txt k) ep', ?_⟩ (putD_keys nd₂) ((s₂.trans s₃).setNew (Nat.le_refl _)) ?_ (by rw [putD_new va]; simp; (first | lia | omega))⟩
      · refine (Ex.weak (ρ' := (Str.ofString "value", vv) :: (Str.ofString "key", .str (txt k)) :: (Str.ofString "at", .int ((2 * j : Nat) : Int)) :: [(Str.ofString "made", .ref H.length), (Str.ofString "counter", .ref ix.ct), (Str.ofString "table_thing", .ref h), (Str.ofString "values", .ref l)]) ?_ (.cons rfl (.cons rfl (.cons rfl (.cons rfl .nil)))))
        walk_at "m_st"
        refine' ex_cons (ex1_assign (v := vv) (H₁ := H₂) ?e (.inl rfl) rfl) ?r
        case e =>
          by_cases q : 2 * j + 1 < vs.length
          · rw [if_pos (by walk_at "m_d")] at hvv
            have hvv' : vs[(((2 * j : Nat) : Int) + 1).toNat]? = some vv := by rw [ht2]; exact hvv
            have c1 : CmpR W (d - 1) H₂ .Lt (.int (((2 * j : Nat) : Int) + 1)) (.int vs.length) true := cmp_lt.to (by simp; (first | lia | omega))
            exact ev_ifT (H₁ := H₂) (by walk_at "m_tr") (by walk_at "m_ev")
          · rw [if_neg (by walk_at "m_d")] at hvv
            subst hvv
            have c1 : CmpR W (d - 1) H₂ .Lt (.int (((2 * j : Nat) : Int) + 1)) (.int vs.length) false := cmp_lt.to (by simp; (first | lia | omega))
            exact ev_ifF (H₁ := H₂) (by walk_at "m_tr") (by walk_at "m_ev")
        case r =>
          walk_at "m_ifE"
          case y =>
            exact ex_cons (ex1_setkey (H₁ := H₃) (H₂ := H₃) (H₃ := H₃) (by walk_at "m_ev") (by walk_at "m_ev") (by walk_at "m_ev") m₃ (by simpa using ml)) ex_nil
          exact ex_nil
      · show _ = some (O.sd (List.map (fun p => (p.1, V.ref p.2.id)) (putD mt (txt k) _)) _)
        rw [putD_map (fun m : M => V.ref m.id)]
        exact at_same m₃
      · exact putD_map (fun m : M => m.val) mt _ _
  · rintro _ H₂ ⟨j, mt, ep', e, m₂, nd₂, C₂, s₂, jl, pe⟩
    refine ⟨trivial, ?_⟩
    have jn : ¬ 2 * j < vs.length := fun q => by
      have l0 := congrArg List.length e
      rw [List.length_drop] at l0
      unfold ran at l0
      rw [List.length_map, List.length_range, ran2_len] at l0
      simp at l0
      (first | lia | omega)
    rw [List.drop_eq_nil_of_le (by walk_at "m_d")] at pe
    have C₂' : Core ix H₂ (last + mt.length) ((live ++ hms mt) ++ hms ht) zs := C₂.perm (by
      rw [List.append_assoc, List.append_assoc]
      exact List.Perm.append_left _ List.perm_append_comm)
    have mlen := jl.2
    refine FnP.run (c_clear_hash (d := d - 1) P (by walk_at "m_d") C₂' (s₂.hash hh) (s₂.sd ht') nd (by walk_at "m_d") fun H₃ tb₃ a₃ e₃ C₃ s₃ => fun f₃ => ?_)
    refine exP_cons (ρ₁ := [(Str.ofString "made", .ref H.length), (Str.ofString "counter", .ref ix.ct), (Str.ofString "table_thing", .ref h), (Str.ofString "values", .ref l)]) (H₁ := H₃) (by walk_at "m_s1") ?_
    refine exP_cons (ρ₁ := [(Str.ofString "made", .ref H.length), (Str.ofString "counter", .ref ix.ct), (Str.ofString "table_thing", .ref h), (Str.ofString "values", .ref l)]) (H₁ := H₃.set h (oHash n c wk H.length)) (ex1_setattr (by walk_at "m_ev") (by walk_at "m_ev") a₃ (P.set (by decide)) (Nat.le_of_ble_eq_true rfl)) (exP_nil ?_)
    have nh : h ≠ H.length := Nat.ne_of_lt (at_lt hh)
    have nh2 : h ≠ ix.th := fun q => by rw [q, C.th] at hh; cases hh
    have m₃ := s₃.at m₂ (by simpa using Ne.symm nh) trivial
    exact hT _ H.length ep' mt (at_same a₃) (at_ne nh m₃) nd₂ (C₃.setOther a₃ ⟨_, _, rfl, by decide, by decide, by decide, by decide⟩ nh2) ((s₂.x.trans s₃).trans (SubX.set (by simp))) pe mlen
end
structure PS where
  sc : List PV
  a0 : List PV
  a1 : List PV
  hs : List (Str × PV)
structure MS where
  sc : List M
  a0 : List M
  a1 : List M
  ht : List (Str × M)
noncomputable def MS.abs (m : MS) : PS := ⟨m.sc.map (·.val), m.a0.map (·.val), m.a1.map (·.val), hval m.ht⟩
noncomputable def MS.live (m : MS) : List M := m.sc ++ (m.a0 ++ (m.a1 ++ hms m.ht))
noncomputable def step1 (g : Nat) (S : PS) (L : List PV) : PS × List PV :=
  if g < 5 then ({ S with sc := S.sc.set g (L.head?.getD .none) }, L.tail)
  else if g = 5 then ({ S with a0 := L }, []) else if g = 6 then ({ S with a1 := L }, []) else if g = 7 then ({ S with hs := pairs L [] }, []) else (S, L.tail)
noncomputable def asg : List Nat → PS → List PV → PS
  | [], S, _ => S
  | g :: gs, S, L => asg gs (step1 g S L).1 (step1 g S L).2
structure Px where
  ids : List Nat
  a0 : Nat
  a1 : Nat
  hh : Nat
noncomputable def plc (px : Px) : List V := px.ids.map .ref ++ [.ref px.a0, .ref px.a1, .ref px.hh, .none]
inductive ArrAt (ix : Ix) (H : List O) (a : Nat) (ms : List M) : Prop
  | mk (n c : Int) (wk it : Nat) (h : H[a]? = some (oArray n c wk it)) (hi : H[it]? = some (.list (mref ms))) (lt : ix.z < it) : ArrAt ix H a ms
inductive HashAt (H : List O) (h : Nat) (ht : List (Str × M)) : Prop
  | mk (n c : Int) (wk tb ep : Nat) (e : H[h]? = some (oHash n c wk tb)) (et : H[tb]? = some (.sd (hes ht) ep)) : HashAt H h ht
structure LSt (ix : Ix) (px : Px) (H : List O) (last : Int) (m : MS) (zs : List M) : Prop where
  core : Core ix H last m.live zs
  ids : m.sc.map (·.id) = px.ids
  five : m.sc.length = 5
  arr0 : ArrAt ix H px.a0 m.a0
  arr1 : ArrAt ix H px.a1 m.a1
  hash : HashAt H px.hh m.ht
  nd : (m.ht.map (·.1)).Nodup
  n0 : px.a0 ≠ ix.th
  n1 : px.a1 ≠ ix.th
  n01 : px.a0 ≠ px.a1
theorem ArrAt.sub {ix : Ix} {X : List Nat} {H H' : List O} {a : Nat} {ms : List M} (x : ArrAt ix H a ms) (s : SubX ix X H H') (n : a ∉ X) (ne : a ≠ ix.th) (hX : ∀ i ∈ X, ∃ C fs, H[i]? = some (.inst C fs)) : ArrAt ix H' a ms := by
  obtain ⟨n', c, wk, it, h1, h2, h3⟩ := x
  exact ⟨n', c, wk, it, s.at h1 n (keeps_arr ne), s.at h2 (fun m => by obtain ⟨C, fs, e⟩ := hX it m; rw [h2] at e; cases e) h3, h3⟩
theorem HashAt.sub {ix : Ix} {X : List Nat} {H H' : List O} {a : Nat} {ht : List (Str × M)} (x : HashAt H a ht) (s : SubX ix X H H') (n : a ∉ X) (hX : ∀ i ∈ X, ∃ C fs, H[i]? = some (.inst C fs)) : HashAt H' a ht := by
  obtain ⟨n', c, wk, it, ep, h1, h2⟩ := x
  exact ⟨n', c, wk, it, ep, s.at h1 n keeps_hash, s.at h2 (fun m => by obtain ⟨C, fs, e⟩ := hX it m; rw [h2] at e; cases e) trivial⟩
theorem LSt.sub {ix : Ix} {px : Px} {H H' : List O} {last last' : Int} {m m' : MS} {zs zs' : List M} (L : LSt ix px H last m zs) (s : Sub ix H H') (C : Core ix H' last' m'.live zs') (hi : m'.sc.map (·.id) = px.ids) (h0 : m'.a0 = m.a0) (h1 : m'.a1 = m.a1) (h2 : m'.ht = m.ht) : LSt ix px H' last' m' zs' where
  core := C
  ids := hi
  five := by have := congrArg List.length (hi.trans L.ids.symm); simpa [L.five] using this
  arr0 := h0 ▸ L.arr0.sub (s.x (X := [])) (by simp) L.n0 (by simp)
  arr1 := h1 ▸ L.arr1.sub (s.x (X := [])) (by simp) L.n1 (by simp)
  hash := h2 ▸ L.hash.sub (s.x (X := [])) (by simp) (by simp)
  nd := h2 ▸ L.nd
  n0 := L.n0
  n1 := L.n1
  n01 := L.n01
section
variable {W : Wd} {d : Nat} {H : List O} (P : PF W.K)
include P
theorem c_fill_whole_arr {ix : Ix} {last : Int} {live zs ms : List M} {a it wk l : Nat} {n c : Int} {ps : List PV} {vs : List V} {T : V → List O → Prop} (hd : 12 ≤ d) (C : Core ix H last (live ++ ms) zs) (ha : H[a]? = some (oArray n c wk it)) (na : a ≠ ix.th) (hl : H[it]? = some (.list (mref ms))) (zl : ix.z < it) (hz : ms.length ≤ sizeLine)
    (hl' : H[l]? = some (.list vs)) (zl' : ix.z < l) (hv : All2 (IsV ix.th H) ps vs) (hz' : vs.length ≤ sizeLine) (hb : last + ps.length ≤ 16000000)
    (hT : ∀ H' it' ms', H'[a]? = some (oArray n c wk it') → H'[it']? = some (.list (mref ms')) → ix.z < it' → Core ix H' (last + ps.length) (live ++ ms') (zs ++ ms) → SubX ix [a] H H' → ms'.map (·.val) = ps → T .none H') : FnP W d H (.ref f_fill_whole) [.ref ix.ct, .ref a, .ref l] T := by
  obtain ⟨v, H', f1, rfl, t⟩ := c_fill_array (d := d - 1) (T := fun v H' => v = .none ∧ T .none H') P (by walk_at "m_d") C ha na hl zl hz hl' zl' hv hz' hb fun H' it' ms' a b c e s f => ⟨rfl, hT H' it' ms' a b c e s f⟩
  refine ⟨.none, H', ?_, t⟩
  refine' fn_fill_whole (o := none) P ?x (by walk_at "m_hv") (by walk_at "m_d")
  case x =>
    conv => arg 6; whnf
    walk_at "m_ifE"
    case y =>
      walk_at "m_ifT"
      case y => walk_at "m_st"; exact ex_nil
      exact ex_nil
    exact ex_nil
theorem c_fill_whole_hash {ix : Ix} {last : Int} {live zs : List M} {ht : List (Str × M)} {h tb wk l : Nat} {ep : Nat} {n c : Int} {ps : List PV} {vs : List V} {T : V → List O → Prop} (hd : 10 ≤ d) (C : Core ix H last (live ++ hms ht) zs) (hh : H[h]? = some (oHash n c wk tb)) (ht' : H[tb]? = some (.sd (hes ht) ep)) (nd : (ht.map (·.1)).Nodup)
    (hl : H[l]? = some (.list vs)) (zl : ix.z < l) (hv : All2 (IsV ix.th H) ps vs) (hp : ∀ p ∈ ps, p ≠ .ref ∧ small p) (hz : vs.length ≤ 1000000) (hb : last + ps.length ≤ 16000000)
    (hT : ∀ H' tb' ep' ht₂, H'[h]? = some (oHash n c wk tb') → H'[tb']? = some (.sd (hes ht₂) ep') → (ht₂.map (·.1)).Nodup → Core ix H' (last + ht₂.length) (live ++ hms ht₂) (zs ++ hms ht) → SubX ix [h] H H' → hval ht₂ = pairs ps [] → ht₂.length ≤ ps.length → T .none H') :
    FnP W d H (.ref f_fill_whole) [.ref ix.ct, .ref h, .ref l] T := by
  obtain ⟨v, H', f1, rfl, t⟩ := c_fill_hash (d := d - 1) (T := fun v H' => v = .none ∧ T .none H') P (by walk_at "m_d") C hh ht' nd hl zl hv hp hz hb fun H' it' ms' a b c e s f g i => ⟨rfl, hT H' it' ms' a b c e s f g i⟩
  refine ⟨.none, H', ?_, t⟩
  refine' fn_fill_whole (o := none) P ?x (by walk_at "m_hv") (by walk_at "m_d")
  case x =>
    conv => arg 6; whnf
    walk_at "m_ifE"
    case y =>
      walk_at "m_ifE"
      case y => walk_at "m_st"; exact ex_nil
      exact ex_nil
    exact ex_nil
end
noncomputable def tgt (px : Px) (g : Nat) : V := ((plc px)[g]?).getD .none
theorem LSt.five' {ix : Ix} {px : Px} {H : List O} {last : Int} {m : MS} {zs : List M} (L : LSt ix px H last m zs) : px.ids.length = 5 := by rw [← L.ids, List.length_map]; exact L.five
theorem tgt_at {px : Px} (h : px.ids.length = 5) : tgt px 5 = .ref px.a0 ∧ tgt px 6 = .ref px.a1 ∧ tgt px 7 = .ref px.hh ∧ tgt px 8 = .none := by
  obtain ⟨ids, a0, a1, hh⟩ := px
  obtain ⟨_, _, _, _, _, rfl⟩ := len5 h
  exact ⟨rfl, rfl, rfl, rfl⟩
theorem tgt_sc {ix : Ix} {px : Px} {H : List O} {last : Int} {m : MS} {zs : List M} (L : LSt ix px H last m zs) {g : Nat} (hg : g < 5) : ∃ s₁ x s₂, m.sc = s₁ ++ x :: s₂ ∧ s₁.length = g ∧ tgt px g = .ref x.id := by
  have hl : g < m.sc.length := by rw [L.five]; exact hg
  refine ⟨m.sc.take g, m.sc[g], m.sc.drop (g + 1), ?_, by simp; (first | lia | omega), ?_⟩
  · rw [List.getElem_cons_drop]; exact (List.take_append_drop g m.sc).symm
  · unfold tgt plc
    rw [← L.ids, List.getElem?_append_left (by simpa using hl)]
    simp [List.getElem?_eq_getElem hl]
theorem pairs_len : ∀ (L : List PV) (acc : List (Str × PV)), (pairs L acc).length ≤ acc.length + (L.length + 1) / 2
  | [], acc => by simp [pairs]
  | [k], acc => by
    unfold pairs putD
    split <;> simp
  | k :: v :: r, acc => by
    unfold pairs
    refine Nat.le_trans (pairs_len r _) ?_
    have : (putD acc (txt k) v).length ≤ acc.length + 1 := by
      unfold putD
      split <;> simp
    simp only [List.length_cons]
    (first | lia | omega)
theorem set_mid {α : Type} (l₁ : List α) (x y : α) (l₂ : List α) : (l₁ ++ x :: l₂).set l₁.length y = l₁ ++ y :: l₂ := by simp
theorem drop_head {α : Type} {l : List α} {k : Nat} : (l.drop k).head? = l[k]? := by simp [List.head?_drop]
noncomputable abbrev X3 (px : Px) : List Nat := [px.a0, px.a1, px.hh]
theorem LSt.x3 {ix : Ix} {px : Px} {H : List O} {last : Int} {m : MS} {zs : List M} (L : LSt ix px H last m zs) : ∀ i ∈ X3 px, ∃ C fs, H[i]? = some (.inst C fs) := by
  intro i hi
  simp at hi
  rcases hi with rfl | rfl | rfl
  · obtain ⟨_, _, _, _, h, _⟩ := L.arr0; exact ⟨_, _, h⟩
  · obtain ⟨_, _, _, _, h, _⟩ := L.arr1; exact ⟨_, _, h⟩
  · obtain ⟨_, _, _, _, _, h, _⟩ := L.hash; exact ⟨_, _, h⟩
theorem LSt.h0 {ix : Ix} {px : Px} {H : List O} {last : Int} {m : MS} {zs : List M} (L : LSt ix px H last m zs) : px.a0 ≠ px.hh ∧ px.a1 ≠ px.hh := by
  obtain ⟨_, _, _, _, a, _⟩ := L.arr0
  obtain ⟨_, _, _, _, b, _⟩ := L.arr1
  obtain ⟨_, _, _, _, _, c, _⟩ := L.hash
  constructor
  · intro q; rw [q, c] at a; cases a
  · intro q; rw [q, c] at b; cases b
theorem IsV.subx {ix : Ix} {X : List Nat} {H H' : List O} {p : PV} {v : V} (x : IsV ix.th H p v) (s : SubX ix X H H') (h : ∀ i ∈ X, ∀ t, H[i]? ≠ some (oRef t)) : IsV ix.th H' p v := by
  cases p with
  | ref => obtain ⟨r, e, q⟩ := x; exact ⟨r, e, s.at q (fun m => h r m _ q) keeps_ref⟩
  | _ => exact x
theorem LSt.x3r {ix : Ix} {px : Px} {H : List O} {last : Int} {m : MS} {zs : List M} (L : LSt ix px H last m zs) : ∀ i ∈ X3 px, ∀ t, H[i]? ≠ some (oRef t) := by
  intro i hi
  simp at hi
  rcases hi with rfl | rfl | rfl
  · obtain ⟨_, _, _, _, h, _⟩ := L.arr0; intro t q; rw [h] at q; cases q
  · obtain ⟨_, _, _, _, h, _⟩ := L.arr1; intro t q; rw [h] at q; cases q
  · obtain ⟨_, _, _, _, _, h, _⟩ := L.hash; intro t q; rw [h] at q; cases q
theorem LSt.x3l {ix : Ix} {px : Px} {H : List O} {last : Int} {m : MS} {zs : List M} (L : LSt ix px H last m zs) {i : Nat} {vs : List V} (h : H[i]? = some (.list vs)) : i ∉ X3 px := fun hi => by
  obtain ⟨C, fs, e⟩ := L.x3 i hi
  rw [h] at e; cases e
structure IAsg (ix : Ix) (px : Px) (H : List O) (m : MS) (gs : List Nat) (ps : List PV) (last : Int) (B : Nat) (k : Nat) (H₂ : List O) (rest : List V) (gs₂ : List Nat) (m₂ : MS) (zs₂ : List M) (last₂ : Int) : Prop where
  f0 : rest = gs₂.map (tgt px)
  f1 : (∀ g ∈ gs₂, g ≤ 8)
  f2 : LSt ix px H₂ last₂ m₂ zs₂
  f3 : asg gs₂ m₂.abs (ps.drop k) = asg gs m.abs ps
  f4 : SubX ix (X3 px) H H₂
  f5 : last₂ + gs₂.length * ps.length ≤ last + gs.length * ps.length
  f6 : (7 ∈ gs₂ → ∀ p ∈ ps, p ≠ .ref)
  f7 : m₂.a0.length ≤ B
  f8 : m₂.a1.length ≤ B
section
variable {W : Wd} {d : Nat} {H : List O} (P : PF W.K)
include P
theorem c_assign_list {ix : Ix} {px : Px} {last : Int} {m : MS} {zs : List M} {t l : Nat} {gs : List Nat} {ps : List PV} {vs : List V} {B : Nat} {T : V → List O → Prop} (hd : 20 ≤ d) (L : LSt ix px H last m zs) (ht : H[t]? = some (.list (gs.map (tgt px)))) (zt : ix.z < t) (hg : ∀ g ∈ gs, g ≤ 8)
    (hl : H[l]? = some (.list vs)) (zl : ix.z < l) (hv : All2 (IsV ix.th H) ps vs) (hp : ∀ p ∈ ps, small p) (h7 : 7 ∈ gs → ∀ p ∈ ps, p ≠ .ref) (hB : B ≤ 1000000) (hn : ps.length ≤ B) (h0 : m.a0.length ≤ B) (h1 : m.a1.length ≤ B) (hgl : gs.length ≤ 4) (hb : last + gs.length * ps.length ≤ 16000000)
    (hT : ∀ H' last' m' zs', LSt ix px H' last' m' zs' → SubX ix (X3 px) H H' → m'.abs = asg gs m.abs ps → last' ≤ last + gs.length * ps.length → m'.a0.length ≤ B → m'.a1.length ≤ B → T (.int ps.length) H') :
    FnP W d H (.ref f_assign_list) [.ref ix.ct, .ref t, .ref l] T := by
  refine fnP_assign_list P (by walk_at "m_d") ?_
  conv => arg 6; whnf
  have sl := sizeLine_eq
  have pl := hv.length
  have vz : vs.length < 2 ^ 62 := by (first | lia | omega)
  have x3r := L.x3r
  have x3l := @LSt.x3l _ _ _ _ _ _ L
  refine exP_cons (ρ₁ := [(Str.ofString "at", .int 0), (Str.ofString "counter", .ref ix.ct), (Str.ofString "targets", .ref t), (Str.ofString "values", .ref l)]) (H₁ := H) (by walk_at "m_s1") ?_
  refine exP_for (ev_name rfl) (iterL W t (gs.map (tgt px))) ht ?_ (.inl rfl) rfl
  refine forP_gen (fun (k : Nat) => [(Str.ofString "at", .int (k : Int)), (Str.ofString "counter", .ref ix.ct), (Str.ofString "targets", .ref t), (Str.ofString "values", .ref l)])
    (fun k H₂ rest => ∃ gs₂ m₂ zs₂ last₂, IAsg ix px H m gs ps last B k H₂ rest gs₂ m₂ zs₂ last₂)
    0 (fun _ _ e => e) ⟨gs, m, zs, last, rfl, hg, L, rfl, ⟨Nat.le_refl _, fun _ _ _ e _ => e⟩, Int.le_refl _, h7, h0, h1⟩ ?_ ?_
  · rintro k H₂ v rest ⟨gs₂, m₂, zs₂, last₂, e, hg₂, L₂, ea, s₂, hb₂, h72, hB0, hB1⟩
    have ht₂ : H₂[t]? = some (.list (gs.map (tgt px))) := s₂.at ht (x3l ht) zt
    refine ⟨ht₂, ?_⟩
    cases gs₂ with
    | nil => cases e
    | cons g gs₃ =>
      rw [List.map_cons] at e
      injection e with e1 e2
      subst e1 e2
      have hl₂ : H₂[l]? = some (.list vs) := s₂.at hl (x3l hl) zl
      have hv₂ : All2 (IsV ix.th H₂) ps vs := hv.imp fun _ _ q => q.subx s₂ x3r
      have g8 := hg₂ g (.head _)
      have hg₃ : ∀ g ∈ gs₃, g ≤ 8 := fun x h => hg₂ x (.tail _ h)
      have h73 : 7 ∈ gs₃ → ∀ p ∈ ps, p ≠ .ref := fun h => h72 (.tail _ h)
      have tg := tgt_at L₂.five'
      simp only [List.length_cons] at hb₂
      have hmul : ((gs₃.length + 1 : Nat) : Int) * (ps.length : Int) = gs₃.length * ps.length + ps.length := by push_cast; rw [Int.add_mul, Int.one_mul]
      rw [hmul] at hb₂
      have hb' : last₂ + ps.length ≤ 16000000 := by
        have : (0 : Int) ≤ (gs₃.length : Int) * (ps.length : Int) := Int.mul_nonneg (by walk_at "m_d") (by walk_at "m_d")
        (first | lia | omega)
      have hct := L₂.core.ct
      have x3₂ := L₂.x3
      have x3l₂ := @LSt.x3l _ _ _ _ _ _ L₂
      have z₂ : ix.z < H₂.length := at_lt L₂.core.z
      -- the slice
      have hs : (H₂ ++ [O.list (vs.drop k)])[H₂.length]? = some (.list (vs.drop k)) := at_new
      have hvd : All2 (IsV ix.th (H₂ ++ [O.list (vs.drop k)])) (ps.drop k) (vs.drop k) := (hv₂.drop k).imp fun _ _ q => q.mono Sub.push
      have ldk : (ps.drop k).length ≤ ps.length := by simp
      have C₃ := L₂.core.push (o := O.list (vs.drop k))
      have s₂₃ : Sub ix H₂ (H₂ ++ [O.list (vs.drop k)]) := Sub.push
      have drop_n : ps.drop vs.length = [] := List.drop_eq_nil_of_le (by walk_at "m_d")
      by_cases g5 : g < 5
      · -- a Scalar
        refine cps fun G hG => ?_
        obtain ⟨s₁, x, s₃, ems, es, et⟩ := tgt_sc L₂ g5
        refine hG ?_
        clear hG
        rw [et]
        have hC : Core ix H₂ last₂ (s₁ ++ x :: (s₃ ++ (m₂.a0 ++ (m₂.a1 ++ hms m₂.ht)))) zs₂ := by have := L₂.core; unfold MS.live at this; rw [ems] at this; simpa using this
        obtain ⟨wk, vo, hx, _⟩ := hC.liv x (by simp)
        obtain ⟨vv, hvv, ivv⟩ : ∃ vv, (if (k : Int) < (vs.length : Int) then vs[k]? = some vv else vv = .none) ∧ IsV ix.th H₂ (ps[k]?.getD .none) vv := by
          by_cases q : k < vs.length
          · obtain ⟨vv, hvv⟩ : ∃ vv, vs[k]? = some vv := ⟨_, List.getElem?_eq_getElem q⟩
            obtain ⟨p, hp1, ip⟩ := hv₂.get' hvv
            exact ⟨vv, by rw [if_pos (by walk_at "m_d")]; exact hvv, by rw [hp1]; exact ip⟩
          · refine ⟨.none, by rw [if_neg (by walk_at "m_d")], ?_⟩
            have : ps[k]? = none := List.getElem?_eq_none (by walk_at "m_d")
            rw [this]
            rfl
        obtain ⟨H₃, f3, C₃, s₃'⟩ := c_store (d := d - 1) P (by walk_at "m_d") hC ivv
        have L₃ : LSt ix px H₃ last₂ { m₂ with sc := s₁ ++ { x with val := ps[k]?.getD .none } :: s₃ } zs₂ := L₂.sub s₃' (by unfold MS.live; simpa using C₃) (by rw [← L₂.ids, ems]; simp) rfl rfl rfl
        refine ⟨k + 1, H₃, ?_, gs₃, { m₂ with sc := s₁ ++ { x with val := ps[k]?.getD .none } :: s₃ }, zs₂, last₂, rfl, hg₃, L₃, ?_, s₂.trans s₃'.x, by (first | lia | omega), h73, hB0, hB1⟩
        · refine (Ex.weak (ρ' := (Str.ofString "at", .int (k + 1)) :: (Str.ofString "target", .ref x.id) :: [(Str.ofString "at", .int (k : Int)), (Str.ofString "counter", .ref ix.ct), (Str.ofString "targets", .ref t), (Str.ofString "values", .ref l)]) ?_ (.cons rfl (.cons rfl (.cons rfl (.cons rfl .nil)))))
          refine' ex_cons (ex1_ifF (H₁ := H₂) ?x ?y) ex_nil
          case x => exact tr_or (b := false) (by walk_at "m_tr") (fun _ => tr_or (b := false) (by walk_at "m_tr") (fun _ => tr_or_nil) (fun e => by cases e)) (fun e => by cases e)
          case y =>
            have cn : CmpR W (d - 1) H₂ .IsNot (.ref x.id) .none true := cmp_isnot_none.to rfl
            refine' ex_cons (ex1_ifT (H₁ := H₂) ?x ?y) ?r
            case x => walk_at "m_tr"
            case y =>
              refine' ex_cons (ex1_expr (ev_meth (ev_name rfl) hct rfl (eva_cons (ev_name rfl) (eva_cons ?v eva_nil)) f3 (P.meth (by decide)) rfl rfl rfl rfl) rfl) ex_nil
              case v =>
                by_cases q : k < vs.length
                · rw [if_pos (by walk_at "m_d")] at hvv
                  have hvv' : vs[(k : Int).toNat]? = some vv := hvv
                  have kb : (k : Int) < 2 ^ 63 := by (first | lia | omega)
                  have c1 : CmpR W (d - 1) H₂ .Lt (.int (k : Int)) (.int vs.length) true := cmp_lt.to (by simp; (first | lia | omega))
                  exact ev_ifT (H₁ := H₂) (by walk_at "m_tr") (by walk_at "m_ev")
                · rw [if_neg (by walk_at "m_d")] at hvv
                  subst hvv
                  have c1 : CmpR W (d - 1) H₂ .Lt (.int (k : Int)) (.int vs.length) false := cmp_lt.to (by simp; (first | lia | omega))
                  exact ev_ifF (H₁ := H₂) (by walk_at "m_tr") (by walk_at "m_ev")
            case r => walk_at "m_st"; exact ex_nil
        · rw [← ea]
          have e1 : step1 g m₂.abs (ps.drop k) = ({ m₂.abs with sc := m₂.abs.sc.set g (ps[k]?.getD .none) }, ps.drop (k + 1)) := by
            unfold step1
            rw [if_pos g5, drop_head, List.tail_drop]
          have e2 : MS.abs { m₂ with sc := s₁ ++ { x with val := ps[k]?.getD .none } :: s₃ } = { m₂.abs with sc := m₂.abs.sc.set g (ps[k]?.getD .none) } := by
            simp only [MS.abs, ems, List.map_append, List.map_cons]
            have : g = (s₁.map (·.val)).length := by simp [es]
            rw [this, set_mid]
          show asg gs₃ (MS.abs { m₂ with sc := s₁ ++ { x with val := ps[k]?.getD .none } :: s₃ }) (ps.drop (k + 1)) = asg gs₃ (step1 g m₂.abs (ps.drop k)).1 (step1 g m₂.abs (ps.drop k)).2
          rw [e1, e2]
      · have gc : g = 5 ∨ g = 6 ∨ g = 7 ∨ g = 8 := by (first | lia | omega)
        rcases gc with rfl | rfl | rfl | rfl
        · -- the first array
          rw [tg.1]
          obtain ⟨n, c, wk, it, ha, hit, zit⟩ := L₂.arr0
          have hC : Core ix (H₂ ++ [O.list (vs.drop k)]) last₂ ((m₂.sc ++ (m₂.a1 ++ hms m₂.ht)) ++ m₂.a0) zs₂ := C₃.perm (by
            unfold MS.live
            rw [List.append_assoc]
            refine List.Perm.append_left _ ?_
            exact List.perm_append_comm)
          refine FnP.run (c_fill_whole_arr (d := d - 1) P (by walk_at "m_d") hC (at_old ha) L₂.n0 (at_old hit) zit (by walk_at "m_d") hs z₂ hvd (by simp; (first | lia | omega)) (by walk_at "m_d") fun H₃ it' ms' a₃ i₃ z₃ C₄ s₃ hm => fun f3 => ?_)
          have s₂' : SubX ix [px.a0] H₂ H₃ := (Sub.push.x).trans s₃
          have x1 : ∀ i ∈ [px.a0], ∃ C fs, H₂[i]? = some (.inst C fs) := fun i hi => x3₂ i (by simp at hi ⊢; exact .inl hi)
          have C₅ : Core ix H₃ (last₂ + (ps.drop k).length) (MS.live { m₂ with a0 := ms' }) (zs₂ ++ m₂.a0) := C₄.perm (by
            unfold MS.live
            rw [List.append_assoc]
            refine List.Perm.append_left _ ?_
            exact List.perm_append_comm)
          have L₃ : LSt ix px H₃ (last₂ + (ps.drop k).length) { m₂ with a0 := ms' } (zs₂ ++ m₂.a0) := {
            core := C₅
            ids := L₂.ids
            five := L₂.five
            arr0 := ⟨n, c, wk, it', a₃, i₃, z₃⟩
            arr1 := L₂.arr1.sub s₂' (by simpa using Ne.symm L₂.n01) L₂.n1 x1
            hash := L₂.hash.sub s₂' (by simpa using Ne.symm L₂.h0.1) x1
            nd := L₂.nd
            n0 := L₂.n0
            n1 := L₂.n1
            n01 := L₂.n01 }
          have hml : ms'.length = (ps.drop k).length := by rw [← hm]; simp
          refine ⟨vs.length, H₃, ?_, gs₃, { m₂ with a0 := ms' }, _, _, rfl, hg₃, L₃, ?_, s₂.trans (s₂'.more fun i hi => by simp at hi ⊢; exact .inl hi), by (first | lia | omega), h73, by rw [hml]; (first | lia | omega), hB1⟩
          · refine (Ex.weak (ρ' := (Str.ofString "at", .int vs.length) :: (Str.ofString "target", .ref px.a0) :: [(Str.ofString "at", .int (k : Int)), (Str.ofString "counter", .ref ix.ct), (Str.ofString "targets", .ref t), (Str.ofString "values", .ref l)]) ?_ (.cons rfl (.cons rfl (.cons rfl (.cons rfl .nil)))))
            have hl₃ : H₃[l]? = some (.list vs) := s₂'.at hl₂ (fun m => x3l₂ hl₂ (by simp at m ⊢; exact .inl m)) zl
            refine' ex_cons (ex1_ifT (H₁ := H₂) ?hx1 ?hy1) ex_nil
            case hx1 => exact tr_or (b := true) (by walk_at "m_tr") (fun e => by cases e) (fun _ => ⟨rfl, rfl⟩)
            case hy1 =>
              refine' ex_cons (ex1_expr (ev_call (eva_cons (ev_name rfl) (eva_cons (ev_name rfl) (eva_cons (ev_slice (lo := some k) (hi := none) (ev_name rfl) (ev_name rfl) trivial hl₂ rfl (by walk_at "m_d")) eva_nil))) f3 (g_fill_whole P) (kp_fill_whole P) rfl rfl rfl) rfl) ?rr1
              walk_at "m_st"
              exact ex_nil
          · rw [← ea]
            show asg gs₃ (MS.abs { m₂ with a0 := ms' }) (ps.drop vs.length) = asg (5 :: gs₃) m₂.abs (ps.drop k)
            rw [drop_n]
            simp only [MS.abs, hm]
            rfl
        · -- the second array
          rw [tg.2.1]
          obtain ⟨n, c, wk, it, ha, hit, zit⟩ := L₂.arr1
          have hC : Core ix (H₂ ++ [O.list (vs.drop k)]) last₂ ((m₂.sc ++ (m₂.a0 ++ hms m₂.ht)) ++ m₂.a1) zs₂ := C₃.perm (by
            unfold MS.live
            rw [List.append_assoc, List.append_assoc]
            exact List.Perm.append_left _ (List.Perm.append_left _ List.perm_append_comm))
          refine FnP.run (c_fill_whole_arr (d := d - 1) P (by walk_at "m_d") hC (at_old ha) L₂.n1 (at_old hit) zit (by walk_at "m_d") hs z₂ hvd (by simp; (first | lia | omega)) (by walk_at "m_d") fun H₃ it' ms' a₃ i₃ z₃ C₄ s₃ hm => fun f3 => ?_)
          have s₂' : SubX ix [px.a1] H₂ H₃ := (Sub.push.x).trans s₃
          have x1 : ∀ i ∈ [px.a1], ∃ C fs, H₂[i]? = some (.inst C fs) := fun i hi => x3₂ i (by simp at hi ⊢; exact .inr (.inl hi))
          have C₅ : Core ix H₃ (last₂ + (ps.drop k).length) (MS.live { m₂ with a1 := ms' }) (zs₂ ++ m₂.a1) := C₄.perm (by
            unfold MS.live
            rw [List.append_assoc, List.append_assoc]
            exact List.Perm.append_left _ (List.Perm.append_left _ List.perm_append_comm))
          have L₃ : LSt ix px H₃ (last₂ + (ps.drop k).length) { m₂ with a1 := ms' } (zs₂ ++ m₂.a1) := {
            core := C₅
            ids := L₂.ids
            five := L₂.five
            arr0 := L₂.arr0.sub s₂' (by simpa using L₂.n01) L₂.n0 x1
            arr1 := ⟨n, c, wk, it', a₃, i₃, z₃⟩
            hash := L₂.hash.sub s₂' (by simpa using Ne.symm L₂.h0.2) x1
            nd := L₂.nd
            n0 := L₂.n0
            n1 := L₂.n1
            n01 := L₂.n01 }
          have hml : ms'.length = (ps.drop k).length := by rw [← hm]; simp
          refine ⟨vs.length, H₃, ?_, gs₃, { m₂ with a1 := ms' }, _, _, rfl, hg₃, L₃, ?_, s₂.trans (s₂'.more fun i hi => by simp at hi ⊢; exact .inr (.inl hi)), by (first | lia | omega), h73, hB0, by rw [hml]; (first | lia | omega)⟩
          · refine (Ex.weak (ρ' := (Str.ofString "at", .int vs.length) :: (Str.ofString "target", .ref px.a1) :: [(Str.ofString "at", .int (k : Int)), (Str.ofString "counter", .ref ix.ct), (Str.ofString "targets", .ref t), (Str.ofString "values", .ref l)]) ?_ (.cons rfl (.cons rfl (.cons rfl (.cons rfl .nil)))))
            have hl₃ : H₃[l]? = some (.list vs) := s₂'.at hl₂ (fun m => x3l₂ hl₂ (by simp at m ⊢; exact .inr (.inl m))) zl
            refine' ex_cons (ex1_ifT (H₁ := H₂) ?hx2 ?hy2) ex_nil
            case hx2 => exact tr_or (b := true) (by walk_at "m_tr") (fun e => by cases e) (fun _ => ⟨rfl, rfl⟩)
            case hy2 =>
              refine' ex_cons (ex1_expr (ev_call (eva_cons (ev_name rfl) (eva_cons (ev_name rfl) (eva_cons (ev_slice (lo := some k) (hi := none) (ev_name rfl) (ev_name rfl) trivial hl₂ rfl (by walk_at "m_d")) eva_nil))) f3 (g_fill_whole P) (kp_fill_whole P) rfl rfl rfl) rfl) ?rr2
              walk_at "m_st"
              exact ex_nil
          · rw [← ea]
            show asg gs₃ (MS.abs { m₂ with a1 := ms' }) (ps.drop vs.length) = asg (6 :: gs₃) m₂.abs (ps.drop k)
            rw [drop_n]
            simp only [MS.abs, hm]
            rfl
        · -- the hash
          rw [tg.2.2.1]
          obtain ⟨n, c, wk, tb, ep, hh, htb⟩ := L₂.hash
          have hC : Core ix (H₂ ++ [O.list (vs.drop k)]) last₂ ((m₂.sc ++ (m₂.a0 ++ m₂.a1)) ++ hms m₂.ht) zs₂ := C₃.perm (by
            unfold MS.live
            simp only [List.append_assoc]
            exact List.Perm.refl _)
          refine FnP.run (c_fill_whole_hash (d := d - 1) P (by walk_at "m_d") hC (at_old hh) (at_old htb) L₂.nd hs z₂ hvd (fun p hpp => ⟨h72 (.head _) p (List.mem_of_mem_drop hpp), hp p (List.mem_of_mem_drop hpp)⟩) (by simp; (first | lia | omega)) (by walk_at "m_d") fun H₃ tb' ep' ht₂' a₃ i₃ nd₃ C₄ s₃ hm hlen => fun f3 => ?_)
          have s₂' : SubX ix [px.hh] H₂ H₃ := (Sub.push.x).trans s₃
          have x1 : ∀ i ∈ [px.hh], ∃ C fs, H₂[i]? = some (.inst C fs) := fun i hi => x3₂ i (by simp at hi ⊢; exact .inr (.inr hi))
          have C₅ : Core ix H₃ (last₂ + ht₂'.length) (MS.live { m₂ with ht := ht₂' }) (zs₂ ++ hms m₂.ht) := C₄.perm (by
            unfold MS.live
            simp only [List.append_assoc]
            exact List.Perm.refl _)
          have L₃ : LSt ix px H₃ (last₂ + ht₂'.length) { m₂ with ht := ht₂' } (zs₂ ++ hms m₂.ht) := {
            core := C₅
            ids := L₂.ids
            five := L₂.five
            arr0 := L₂.arr0.sub s₂' (by simpa using L₂.h0.1) L₂.n0 x1
            arr1 := L₂.arr1.sub s₂' (by simpa using L₂.h0.2) L₂.n1 x1
            hash := ⟨n, c, wk, tb', ep', a₃, i₃⟩
            nd := nd₃
            n0 := L₂.n0
            n1 := L₂.n1
            n01 := L₂.n01 }
          refine ⟨vs.length, H₃, ?_, gs₃, { m₂ with ht := ht₂' }, _, _, rfl, hg₃, L₃, ?_, s₂.trans (s₂'.more fun i hi => by simp at hi ⊢; exact .inr (.inr hi)), by (first | lia | omega), h73, hB0, hB1⟩
          · refine (Ex.weak (ρ' := (Str.ofString "at", .int vs.length) :: (Str.ofString "target", .ref px.hh) :: [(Str.ofString "at", .int (k : Int)), (Str.ofString "counter", .ref ix.ct), (Str.ofString "targets", .ref t), (Str.ofString "values", .ref l)]) ?_ (.cons rfl (.cons rfl (.cons rfl (.cons rfl .nil)))))
            have hl₃ : H₃[l]? = some (.list vs) := s₂'.at hl₂ (fun m => x3l₂ hl₂ (by simp at m ⊢; exact .inr (.inr m))) zl
            refine' ex_cons (ex1_ifT (H₁ := H₂) ?hx3 ?hy3) ex_nil
            case hx3 => exact tr_or (b := false) (by walk_at "m_tr") (fun _ => tr_or (b := true) (by walk_at "m_tr") (fun e => by cases e) (fun _ => ⟨rfl, rfl⟩)) (fun e => by cases e)
            case hy3 =>
              refine' ex_cons (ex1_expr (ev_call (eva_cons (ev_name rfl) (eva_cons (ev_name rfl) (eva_cons (ev_slice (lo := some k) (hi := none) (ev_name rfl) (ev_name rfl) trivial hl₂ rfl (by walk_at "m_d")) eva_nil))) f3 (g_fill_whole P) (kp_fill_whole P) rfl rfl rfl) rfl) ?rr3
              walk_at "m_st"
              exact ex_nil
          · rw [← ea]
            show asg gs₃ (MS.abs { m₂ with ht := ht₂' }) (ps.drop vs.length) = asg (7 :: gs₃) m₂.abs (ps.drop k)
            rw [drop_n]
            simp only [MS.abs, hm]
            rfl
        · -- undef
          rw [tg.2.2.2]
          refine ⟨k + 1, H₂, ?_, gs₃, m₂, zs₂, last₂, rfl, hg₃, L₂, ?_, s₂, by (first | lia | omega), h73, hB0, hB1⟩
          · refine (Ex.weak (ρ' := (Str.ofString "at", .int (k + 1)) :: (Str.ofString "target", .none) :: [(Str.ofString "at", .int (k : Int)), (Str.ofString "counter", .ref ix.ct), (Str.ofString "targets", .ref t), (Str.ofString "values", .ref l)]) ?_ (.cons rfl (.cons rfl (.cons rfl (.cons rfl .nil)))))
            refine' ex_cons (ex1_ifF (H₁ := H₂) ?hx4 ?hy4) ex_nil
            case hx4 => exact tr_or (b := false) (by walk_at "m_tr") (fun _ => tr_or (b := false) (by walk_at "m_tr") (fun _ => tr_or_nil) (fun e => by cases e)) (fun e => by cases e)
            case hy4 =>
              have cn : CmpR W (d - 1) H₂ .IsNot .none .none false := cmp_isnot_none.to rfl
              walk_at "m_ifF"
              walk_at "m_st"
              exact ex_nil
          · rw [← ea]
            show asg gs₃ m₂.abs (ps.drop (k + 1)) = asg gs₃ m₂.abs (ps.drop k).tail
            rw [List.tail_drop]
  · rintro k H₂ ⟨gs₂, m₂, zs₂, last₂, e, hg₂, L₂, ea, s₂, hb₂, h72, hB0, hB1⟩
    refine ⟨s₂.at ht (x3l ht) zt, ?_⟩
    cases gs₂ with
    | cons g gs₃ => cases e
    | nil =>
      have hl₂ : H₂[l]? = some (.list vs) := s₂.at hl (x3l hl) zl
      refine exP_ret (v := .int vs.length) (H' := H₂) (by walk_at "m_ev") ?_
      have := hT H₂ last₂ m₂ zs₂ L₂ s₂ ea (by simpa using hb₂) hB0 hB1
      rw [← pl]
      exact this
end
noncomputable abbrev Ext (H H' : List O) : Prop := Chg [] H H'
theorem Ext.get {H H' : List O} {i : Nat} {o : O} (x : Ext H H') (e : H[i]? = some o) : H'[i]? = some o := x.2 i o (by simp) e
theorem Ext.tr {H H₁ H' : List O} (x : Ext H H₁) (y : Ext H₁ H') : Ext H H' := (x.trans y)
theorem Ext.pushR {H H' : List O} {o : O} (x : Ext H H') : Ext H (H' ++ [o]) := Chg.push' x
theorem Ext.sub {H H' : List O} (x : Ext H H') (ix : Ix) : Sub ix H H' := ⟨x.1, fun _ _ e _ => x.get e⟩
theorem Core.ext {ix : Ix} {H H' : List O} {last : Int} {live zs : List M} (C : Core ix H last live zs) (x : Ext H H') : Core ix H' last live zs := C.mono (fun _ _ e _ => x.get e) (x.sub ix)
theorem LSt.ext {ix : Ix} {px : Px} {H H' : List O} {last : Int} {m : MS} {zs : List M} (L : LSt ix px H last m zs) (x : Ext H H') : LSt ix px H' last m zs := L.sub (x.sub ix) (L.core.ext x) L.ids rfl rfl rfl
theorem IsV.ext {th : Nat} {H H' : List O} {p : PV} {v : V} (h : IsV th H p v) (x : Ext H H') : IsV th H' p v := by
  cases p with
  | ref => obtain ⟨r, e, q⟩ := h; exact ⟨r, e, x.get q⟩
  | _ => exact h
theorem MV.ext {ix : Ix} {H H' : List O} {live : List M} {p : PV} {v : V} (h : MV ix H live p v) (x : Ext H H') : MV ix H' live p v := h.imp (fun q => q.ext x) fun q => q
noncomputable def TV (H : List O) : PV → V → Prop
  | .none, v => v = .none
  | .int i, v => v = .int i
  | .str x, v => v = .str x
  | .ref, v => ∃ t, v = .ref t ∧ H[t]? = some (.tup [.str (Str.ofString "ref"), .int 1])
theorem TV.ext {H H' : List O} {p : PV} {v : V} (h : TV H p v) (x : Ext H H') : TV H' p v := by
  cases p with
  | ref => obtain ⟨r, e, q⟩ := h; exact ⟨r, e, x.get q⟩
  | _ => exact h
noncomputable def pyd : PV → PyData
  | .none => .none
  | .int i => .int i
  | .str x => .str x
  | .ref => .tuple [.str (Str.ofString "ref"), .int 1]
theorem TV.rd {H : List O} {p : PV} {v : V} (h : TV H p v) : Rd H v (pyd p) := by
  cases p with
  | none => subst h; exact .none
  | int i => subst h; exact .int i
  | str x => subst h; exact .str x
  | ref => obtain ⟨t, rfl, h⟩ := h; exact .tup h (.cons (.str _) (.cons (.int _) .nil))
theorem TV.rda {H : List O} {ps : List PV} {vs : List V} (h : All2 (TV H) ps vs) : RdA H vs (ps.map pyd) := by
  induction h with
  | nil => exact .nil
  | cons a _ ih => exact .cons a.rd ih
noncomputable def flatP (hs : List (Str × PV)) : List PV := hs.flatMap fun p => [.str p.1, p.2]
noncomputable def memP (S : PS) (g : Nat) : List PV := if g < 5 then [S.sc[g]?.getD .none] else if g = 5 then S.a0 else if g = 6 then S.a1 else if g = 7 then flatP S.hs else [.none]
theorem flat_len (ht : List (Str × M)) : (flat ht).length = 2 * ht.length := by
  induction ht with
  | nil => rfl
  | cons p r ih => unfold flat at ih ⊢; rw [List.flatMap_cons, List.length_append, ih]; simp only [List.length_cons, List.length_nil]; (first | lia | omega)
theorem flat_mv {ix : Ix} {H : List O} {live : List M} : ∀ {ht : List (Str × M)}, (∀ m ∈ hms ht, m ∈ live) → All2 (MV ix H live) (flatP (hval ht)) (flat ht)
  | [], _ => .nil
  | (k, m) :: r, h => by
    have ih := @flat_mv ix H live r fun x hx => h x (by simp at hx ⊢; exact .inr hx)
    have : flatP (hval ((k, m) :: r)) = PV.str k :: m.val :: flatP (hval r) := rfl
    rw [this]
    have : flat ((k, m) :: r) = V.str k :: V.ref m.id :: flat r := rfl
    rw [this]
    exact .cons (.inl rfl) (.cons (.inr ⟨m, h m (by simp), rfl, rfl⟩) ih)
theorem mref_mv {ix : Ix} {H : List O} {live : List M} : ∀ {ms : List M}, (∀ m ∈ ms, m ∈ live) → All2 (MV ix H live) (ms.map (·.val)) (mref ms)
  | [], _ => .nil
  | m :: r, h => .cons (.inr ⟨m, h m (.head _), rfl, rfl⟩) (mref_mv fun x hx => h x (.tail _ hx))
structure IMem (ix : Ix) (px : Px) (H : List O) (m : MS) (gs : List Nat) (B : Nat) (H₂ : List O) (rest : List V) (gs₁ gs₂ : List Nat) (ws : List V) : Prop where
  f0 : gs = gs₁ ++ gs₂
  f1 : rest = gs₂.map (tgt px)
  f2 : Ext H H₂
  f3 : H₂[H.length]? = some (.list ws)
  f4 : All2 (MV ix H m.live) (gs₁.flatMap (memP m.abs)) ws
  f5 : ws.length ≤ gs₁.length * B
section
variable {W : Wd} {d : Nat} {H : List O} (P : PF W.K)
include P
theorem r_told {ix : Ix} {last : Int} {live zs : List M} {p : PV} {v : V} (hd : 1 ≤ d) (C : Core ix H last live zs) (hv : IsV ix.th H p v) : ∃ w H', Fn W d H (.ref f_law_told) [v] w H' ∧ Ext H H' ∧ TV H' p w := by
  cases p with
  | ref =>
    obtain ⟨r, rfl, hr⟩ := hv
    have hth := C.th
    refine ⟨.ref H.length, H ++ [.tup [.str (Str.ofString "ref"), .int 1]], ?_, Chg.push, ⟨H.length, rfl, at_new⟩⟩
    refine' fn_law_told (o := some _) P ?x (by walk_at "m_hv") (by walk_at "m_d")
    case x =>
      conv => arg 6; whnf
      exact ex_ret (ex1_return (ev_ifT (H₁ := H) (by walk_at "m_tr") (by walk_at "m_ev")))
  | none =>
    subst hv
    refine ⟨_, H, ?_, Chg.refl _ _, rfl⟩
    refine' fn_law_told (o := some _) P ?x (by walk_at "m_hv") (by walk_at "m_d")
    case x =>
      conv => arg 6; whnf
      exact ex_ret (ex1_return (ev_ifF (H₁ := H) (by walk_at "m_tr") (by walk_at "m_ev")))
  | int i =>
    subst hv
    refine ⟨_, H, ?_, Chg.refl _ _, rfl⟩
    refine' fn_law_told (o := some _) P ?x (by walk_at "m_hv") (by walk_at "m_d")
    case x =>
      conv => arg 6; whnf
      exact ex_ret (ex1_return (ev_ifF (H₁ := H) (by walk_at "m_tr") (by walk_at "m_ev")))
  | str x =>
    subst hv
    refine ⟨_, H, ?_, Chg.refl _ _, rfl⟩
    refine' fn_law_told (o := some _) P ?x (by walk_at "m_hv") (by walk_at "m_d")
    case x =>
      conv => arg 6; whnf
      exact ex_ret (ex1_return (ev_ifF (H₁ := H) (by walk_at "m_tr") (by walk_at "m_ev")))
theorem c_law_all {ix : Ix} {last : Int} {live zs : List M} {l : Nat} {ps : List PV} {vs : List V} {T : V → List O → Prop} (hd : 3 ≤ d) (C : Core ix H last live zs) (hl : H[l]? = some (.list vs)) (hv : All2 (IsV ix.th H) ps vs) (hz : vs.length ≤ sizeLine)
    (hT : ∀ H' id ys, H'[id]? = some (.list ys) → H.length ≤ id → Ext H H' → All2 (TV H') ps ys → T (.ref id) H') : FnP W d H (.ref f_law_all) [.ref l] T := by
  refine fnP_law_all P (by walk_at "m_d") ?_
  conv => arg 6; whnf
  refine exP_retP (evP_comp (ev_name rfl) (iterL W l vs) hl ?_ (by decide +kernel) hz rfl)
  refine compP_gen (fun H₁ rest ys => ∃ ps₁ ps₂, ps = ps₁ ++ ps₂ ∧ Ext H H₁ ∧ All2 (TV H₁) ps₁ ys ∧ All2 (IsV ix.th H) ps₂ rest) ⟨[], ps, rfl, Chg.refl _ _, .nil, hv⟩ ?_ ?_
  · rintro H₁ v rest ys ⟨ps₁, ps₂, e, x, h1, h2⟩
    cases h2 with
    | @cons p _ ps₃ _ hp h3 =>
      obtain ⟨w, H₂, f, x₂, tv⟩ := r_told (d := d - 1) P (by walk_at "m_d") (C.ext x) (hp.ext x)
      refine ⟨x.get hl, w, H₂, ?_, ps₁ ++ [p], ps₃, by simp [e], x.tr x₂, (h1.imp fun _ _ q => q.ext x₂).append (.cons tv .nil), h3⟩
      walk_at "m_ev"
  · rintro H₁ ys ⟨ps₁, ps₂, e, x, h1, h2⟩
    cases h2
    rw [List.append_nil] at e
    subst e
    exact ⟨x.get hl, hT _ _ ys at_new x.1 x.pushR (h1.imp fun _ _ q => q.ext Chg.push)⟩
theorem c_assigned_members {ix : Ix} {px : Px} {last : Int} {m : MS} {zs : List M} {t : Nat} {gs : List Nat} {B : Nat} {T : V → List O → Prop} (hd : 20 ≤ d) (L : LSt ix px H last m zs) (ht : H[t]? = some (.list (gs.map (tgt px)))) (hg : ∀ g ∈ gs, g ≤ 8)
    (hB : B ≤ 100000) (h0 : m.a0.length ≤ B) (h1 : m.a1.length ≤ B) (h2 : 2 * m.ht.length ≤ B) (hB1 : 1 ≤ B) (hgl : gs.length ≤ 4)
    (hT : ∀ H' id ws, H'[id]? = some (.list ws) → H.length ≤ id → Ext H H' → All2 (MV ix H' m.live) (gs.flatMap (memP m.abs)) ws → ws.length ≤ 4 * B → T (.ref id) H') :
    FnP W d H (.ref f_assigned_members) [.ref t] T := by
  refine fnP_assigned_members P (by walk_at "m_d") ?_
  conv => arg 6; whnf
  have sl := sizeLine_eq
  refine exP_cons (ρ₁ := [(Str.ofString "found", .ref H.length), (Str.ofString "targets", .ref t)]) (H₁ := H ++ [.list []]) (by walk_at "m_s1") ?_
  refine exP_for (ev_name rfl) (iterL W t (gs.map (tgt px))) (at_old ht) ?_ (.inl rfl) rfl
  refine forP_gen (fun (_ : Unit) => [(Str.ofString "found", .ref H.length), (Str.ofString "targets", .ref t)])
    (fun _ H₂ rest => ∃ gs₁ gs₂ ws, IMem ix px H m gs B H₂ rest gs₁ gs₂ ws)
    () (fun _ _ e => e) ⟨[], gs, [], rfl, rfl, Chg.push, at_new, .nil, by simp⟩ ?_ ?_
  · rintro _ H₂ v rest ⟨gs₁, gs₂, ws, e, e1, x, hf, hw, hwl⟩
    refine ⟨x.get ht, ?_⟩
    cases gs₂ with
    | nil => cases e1
    | cons g gs₃ =>
      rw [List.map_cons] at e1
      injection e1 with e1 e2
      subst e1 e2
      have g8 := hg g (by rw [e]; simp)
      have L₂ := L.ext x
      have tg := tgt_at L.five'
      have gl1 : gs₁.length ≤ 3 := by have := congrArg List.length e; simp at this; (first | lia | omega)
      have wz : ws.length ≤ 3 * B := Nat.le_trans hwl (Nat.mul_le_mul_right _ gl1)
      have fin : ∀ H₃ us, Ext H H₃ → H₃[H.length]? = some (.list (ws ++ us)) → All2 (MV ix H m.live) (memP m.abs g) us → us.length ≤ B →
          ∃ gs₁ gs₂ ws, IMem ix px H m gs B H₃ (gs₃.map (tgt px)) gs₁ gs₂ ws := fun H₃ us x₃ h3 hu hul => by
        refine ⟨gs₁ ++ [g], gs₃, ws ++ us, by simp [e], rfl, x₃, h3, ?_, ?_⟩
        · rw [List.flatMap_append]
          exact hw.append (by simpa using hu)
        · have : (gs₁ ++ [g]).length * B = gs₁.length * B + B := by simp [Nat.add_mul]
          rw [List.length_append, this]; (first | lia | omega)
      have wz' : ws.length ≤ sizeLine := by (first | lia | omega)
      by_cases g5 : g < 5
      · obtain ⟨s₁, y, s₃, ems, es, et⟩ := tgt_sc L g5
        rw [et]
        obtain ⟨wk, vo, hx, _⟩ := L₂.core.liv y (by unfold MS.live; rw [ems]; simp)
        refine ⟨(), _, ?_, fin (H₂.set H.length (.list (ws ++ [.ref y.id]))) [.ref y.id] (Chg.setN (Nat.le_refl _) x) (at_same hf) ?_ (by simpa using hB1)⟩
        · refine (Ex.weak (ρ' := (Str.ofString "target", .ref y.id) :: [(Str.ofString "found", .ref H.length), (Str.ofString "targets", .ref t)]) ?_ (.cons rfl (.cons rfl .nil)))
          walk_at "m_ifE"
          case y =>
            walk_at "m_ifE"
            case y => walk_at "m_st"; exact ex_nil
            exact ex_nil
          exact ex_nil
        · unfold memP
          rw [if_pos g5]
          refine .cons (.inr ⟨y, by unfold MS.live; rw [ems]; simp, rfl, ?_⟩) .nil
          simp [MS.abs, ems, ← es]
      · have gc : g = 5 ∨ g = 6 ∨ g = 7 ∨ g = 8 := by (first | lia | omega)
        rcases gc with rfl | rfl | rfl | rfl
        · rw [tg.1]
          obtain ⟨n, c, wk, it, ha, hit, zit⟩ := L₂.arr0
          have z1 : ws.length + (mref m.a0).length ≤ sizeLine := by simp; (first | lia | omega)
          refine ⟨(), _, ?_, fin (H₂.set H.length (.list (ws ++ mref m.a0))) (mref m.a0) (Chg.setN (Nat.le_refl _) x) (at_same hf) ?_ (by simpa using h0)⟩
          · refine (Ex.weak (ρ' := (Str.ofString "target", .ref px.a0) :: [(Str.ofString "found", .ref H.length), (Str.ofString "targets", .ref t)]) ?_ (.cons rfl (.cons rfl .nil)))
            walk_at "m_ifT"
            case y => walk_at "m_st"; exact ex_nil
            exact ex_nil
          · exact mref_mv fun x hx => by unfold MS.live; simp; exact .inr (.inl hx)
        · rw [tg.2.1]
          obtain ⟨n, c, wk, it, ha, hit, zit⟩ := L₂.arr1
          have z1 : ws.length + (mref m.a1).length ≤ sizeLine := by simp; (first | lia | omega)
          refine ⟨(), _, ?_, fin (H₂.set H.length (.list (ws ++ mref m.a1))) (mref m.a1) (Chg.setN (Nat.le_refl _) x) (at_same hf) ?_ (by simpa using h1)⟩
          · refine (Ex.weak (ρ' := (Str.ofString "target", .ref px.a1) :: [(Str.ofString "found", .ref H.length), (Str.ofString "targets", .ref t)]) ?_ (.cons rfl (.cons rfl .nil)))
            walk_at "m_ifT"
            case y => walk_at "m_st"; exact ex_nil
            exact ex_nil
          · exact mref_mv fun x hx => by unfold MS.live; simp; exact .inr (.inr (.inl hx))
        · rw [tg.2.2.1]
          obtain ⟨n, c, wk, tb, ep, hh, htb⟩ := L₂.hash
          have fl := flat_len m.ht
          have z1 : ws.length + (flat m.ht).length ≤ sizeLine := by (first | lia | omega)
          have f1 := c_flat_hash (d := d - 1) P (by walk_at "m_d") hh htb L.nd (by walk_at "m_d")
          have hf' : (H₂ ++ [O.list (flat m.ht)])[H.length]? = some (.list ws) := at_old hf
          refine ⟨(), _, ?_, fin ((H₂ ++ [O.list (flat m.ht)]).set H.length (.list (ws ++ flat m.ht))) (flat m.ht) (Chg.setN (Nat.le_refl _) x.pushR) (at_same hf') ?_ (by walk_at "m_d")⟩
          · refine (Ex.weak (ρ' := (Str.ofString "target", .ref px.hh) :: [(Str.ofString "found", .ref H.length), (Str.ofString "targets", .ref t)]) ?_ (.cons rfl (.cons rfl .nil)))
            walk_at "m_ifE"
            case y =>
              walk_at "m_ifT"
              case y => walk_at "m_st"; exact ex_nil
              exact ex_nil
            exact ex_nil
          · exact flat_mv fun x hx => by unfold MS.live; simp only [List.mem_append]; exact .inr (.inr (.inr hx))
        · rw [tg.2.2.2]
          refine ⟨(), _, ?_, fin (H₂.set H.length (.list (ws ++ [.none]))) [.none] (Chg.setN (Nat.le_refl _) x) (at_same hf) (.cons (.inl rfl) .nil) (by simpa using hB1)⟩
          refine (Ex.weak (ρ' := (Str.ofString "target", .none) :: [(Str.ofString "found", .ref H.length), (Str.ofString "targets", .ref t)]) ?_ (.cons rfl (.cons rfl .nil)))
          walk_at "m_ifE"
          case y =>
            walk_at "m_ifE"
            case y => walk_at "m_st"; exact ex_nil
            exact ex_nil
          exact ex_nil
  · rintro _ H₂ ⟨gs₁, gs₂, ws, e, e1, x, hf, hw, hwl⟩
    refine ⟨x.get ht, ?_⟩
    cases gs₂ with
    | cons g gs₃ => cases e1
    | nil =>
      rw [List.append_nil] at e
      subst e
      exact exP_ret (ev_name rfl) (hT H₂ _ ws hf (Nat.le_refl _) x (hw.imp fun _ _ q => q.ext x) (Nat.le_trans hwl (Nat.mul_le_mul_right _ hgl)))
end
noncomputable def ok : PV → Prop
  | .int i => -9 ≤ i ∧ i ≤ 9
  | .str x => PyData.strOk x = true
  | _ => True
theorem ok.small {p : PV} (h : ok p) : small p := by cases p <;> first | exact h | trivial
theorem ok.lay {p : PV} (h : ok p) : (pyd p).canLay0 = true := by
  cases p with
  | str x => exact h
  | ref => decide +kernel
  | _ => rfl
theorem okAll.lay : ∀ {ps : List PV}, (∀ p ∈ ps, ok p) → PyData.canLayAll0 (ps.map pyd) = true
  | [], _ => rfl
  | p :: r, h => by
    simp only [List.map_cons, PyData.canLayAll0, Bool.and_eq_true]
    exact ⟨(h p (.head _)).lay, okAll.lay fun x hx => h x (.tail _ hx)⟩
theorem ok_txt {p : PV} (h : ok p) : PyData.strOk (txt p) = true := by
  cases p with
  | none => decide +kernel
  | ref => decide +kernel
  | str x => exact h
  | int i =>
    have all : ∀ k : Fin 19, PyData.strOk (Str.ofString (toString ((k.val : Int) - 9))) = true := by decide +kernel
    have := all ⟨(i + 9).toNat, by have := h.1; have := h.2; (first | lia | omega)⟩
    have e : (((i + 9).toNat : Nat) : Int) - 9 = i := by have := h.1; (first | lia | omega)
    show PyData.strOk (Str.ofString (toString i)) = true
    rw [← e]; exact this
theorem dep_pyd (p : PV) : (pyd p).depth ≤ 90 := by cases p <;> simp [pyd, PyData.depth, PyData.depthAll]
theorem any_str (l : List Str) (k : Str) : ((l.map PyData.str).any fun z => PyData.eqv z (.str k)) = l.any fun x => decide (x = k) := by
  rw [List.any_map]
  congr 1
section
variable {W : Wd} {d : Nat} {sc : Scope} {ρ : Loc} {H H₁ H' : List O}
noncomputable def TrP (W : Wd) (d : Nat) (sc : Scope) (ρ : Loc) (H : List O) (e : PySem.Expr) (U : Bool → List O → Prop) : Prop := ∃ b H', Tr W d sc ρ H e b H' ∧ U b H'
theorem trP_cmp {l r : PySem.Expr} {op : CmpOp} {p : Pos} {U : Bool → List O → Prop} (x : EvP W d sc ρ H l fun a H₁ => EvP W d sc ρ H₁ r fun b H₂ => ∃ c, CmpR W d H₂ op a b c ∧ U c H₂) (hm : behindInMarks op r = false := by rfl) : TrP W d sc ρ H (.Compare l [op] [r] p) U := by
  obtain ⟨a, H₁, x, b, H₂, y, c, z, u⟩ := x
  exact ⟨c, H₂, tr_cmp x y z hm, u⟩
theorem exP_ifP {test : PySem.Expr} {body orelse ss : List Stmt} {p : Pos} {T : Out → Loc → List O → Prop} (x : TrP W d sc ρ H test fun b H₁ => ExP W d sc ρ H₁ (if b then body else orelse) fun o ρ' H' => o = none ∧ ExP W d sc ρ' H' ss T) : ExP W d sc ρ H (.If test body orelse p :: ss) T := by
  obtain ⟨b, H₁, x, y⟩ := x
  exact exP_if x y
theorem ExP.step {α : Type} {body : List Stmt} {R : α → Loc} {Inv : α → List O → Prop} (x : ExP W d sc ρ H body fun o ρ' H' => o = none ∧ ∃ a', Le (R a') ρ' ∧ Inv a' H') : ∃ a' H', Ex W d sc ρ H body none (R a') H' ∧ Inv a' H' := by
  obtain ⟨o, ρ', H', e, rfl, a', l, i⟩ := x
  exact ⟨a', H', e.weak l, i⟩
theorem call_list {i : Nat} {vs : List V} (ho : H[i]? = some (.list vs)) (hz : vs.length ≤ sizeLine) : CallR W d H (.type "list") [.ref i] (.ref H.length) (H ++ [.list vs]) :=
  fun A h t σ φ vs' Q E rm R y k => by
    obtain ⟨x, rfl, y1⟩ := VsR.one y
    obtain ⟨a, vs', n, rfl, ea, hl, yv⟩ := R.lst ho y1
    have e := yv.length
    refine call_list_seq (s := St σ h t) a (.inl rfl) hl rfl rfl (fun h' c' hk hD => ?_) (by simp; (first | lia | omega))
    have n1 : h.get? h.objs.size = none := get_none_of_ge (Nat.le_refl _)
    refine k _ h' t (φ ++ [(h.objs.size, h.objs.size)]) (.ref (d := h.objs.size) ?_) (R.push (p := (h.objs.size, h.objs.size)) ⟨rfl, vs', c', hD, yv.mono ⟨_, rfl⟩⟩ hk n1 n1) (Kp.push hk n1 n1)
    rw [← R.len]
    simp
end
noncomputable def PairOf (H : List O) (q : Str × PV) (v : V) : Prop := ∃ j v', v = .ref j ∧ H[j]? = some (.list [.str q.1, v']) ∧ TV H q.2 v' ∧ 2 < j
noncomputable def PairsAt (H : List O) (i : Nat) (hs : List (Str × PV)) : Prop := ∃ rs, H[i]? = some (.list rs) ∧ All2 (PairOf H) hs rs
theorem PairOf.ext {H H' : List O} {q : Str × PV} {v : V} (h : PairOf H q v) (x : Ext H H') : PairOf H' q v := by
  obtain ⟨j, v', e, a, b, c⟩ := h
  exact ⟨j, v', e, x.get a, b.ext x, c⟩
theorem PairsAt.ext {H H' : List O} {i : Nat} {hs : List (Str × PV)} (h : PairsAt H i hs) (x : Ext H H') : PairsAt H' i hs := by
  obtain ⟨rs, a, b⟩ := h
  exact ⟨rs, x.get a, b.imp fun _ _ q => q.ext x⟩
theorem TV.setL {H : List O} {i : Nat} {rs : List V} {o' : O} {p : PV} {v : V} (h : TV H p v) (e : H[i]? = some (.list rs)) : TV (H.set i o') p v := by
  cases p with
  | ref => obtain ⟨t, a, b⟩ := h; exact ⟨t, a, at_ne (fun q => by subst q; rw [e] at b; cases b) b⟩
  | _ => exact h
noncomputable def refsOnly (rs : List V) : Prop := ∀ v ∈ rs, ∃ j, v = .ref j
theorem PairOf.refs {H : List O} {hs : List (Str × PV)} {rs : List V} (h : All2 (PairOf H) hs rs) : refsOnly rs := by
  induction h with
  | nil => intro v h; cases h
  | cons a _ ih =>
    intro v hv
    rcases List.mem_cons.mp hv with rfl | hv
    · obtain ⟨j, _, e, _⟩ := a; exact ⟨j, e⟩
    · exact ih v hv
theorem PairOf.setL {H : List O} {i : Nat} {rs : List V} {o' : O} {q : Str × PV} {v : V} (h : PairOf H q v) (e : H[i]? = some (.list rs)) (r : refsOnly rs) : PairOf (H.set i o') q v := by
  obtain ⟨j, v', e', a, b, c⟩ := h
  refine ⟨j, v', e', at_ne (fun z => ?_) a, b.setL e, c⟩
  subst z
  rw [e] at a
  cases a
  obtain ⟨j, hj⟩ := r (.str q.1) (.head _)
  cases hj
structure IPair (H : List O) (n : Nat) (ps : List PV) (i : Nat) (H₂ : List O) (rest : List V) (j : Nat) (hs : List (Str × PV)) : Prop where
  f0 : rest = (ran 0 n 2).drop j
  f1 : Ext H H₂
  f2 : H.length ≤ i
  f3 : PairsAt H₂ i hs
  f4 : pairs (ps.drop (2 * j)) hs = pairs ps []
  f5 : hs.length ≤ j
  f6 : (∀ q ∈ hs, PyData.strOk q.1 = true)
structure IFlat (H : List O) (hs : List (Str × PV)) (f : Nat) (H₂ : List O) (rest : List V) (hs₁ hs₂ : List (Str × PV)) (ws : List V) : Prop where
  f0 : hs = hs₁ ++ hs₂
  f1 : Ext H H₂
  f2 : H.length ≤ f
  f3 : H₂[f]? = some (.list ws)
  f4 : All2 (TV H₂) (flatP hs₁) ws
  f5 : All2 (PairOf H) hs₂ rest
  f6 : ws.length = 2 * hs₁.length
section
variable {W : Wd} {d : Nat} {H : List O} (P : PF W.K)
include P
theorem r_law_text {p : PV} {v : V} (hd : 1 ≤ d) (h : TV H p v) (hp : p ≠ .ref) (hs : ok p) : Fn W d H (.ref f_law_text) [v] (.str (txt p)) H := by
  cases p with
  | ref => exact absurd rfl hp
  | none =>
    subst h
    show Fn W d H (.ref f_law_text) [.none] (.str (Str.ofString "")) H
    refine' fn_law_text (o := some _) P ?x (by walk_at "m_hv") (by walk_at "m_d")
    case x =>
      conv => arg 6; whnf
      walk_at "m_ifR"
      walk_at "m_st"
  | str x =>
    subst h
    refine' fn_law_text (o := some _) P ?x (by walk_at "m_hv") (by walk_at "m_d")
    case x =>
      conv => arg 6; whnf
      walk_at "m_ifF"
      exact ex_ret (ex1_return (ev_ifF (H₁ := H) (by walk_at "m_tr") (by walk_at "m_ev")))
  | int i =>
    subst h
    have hl : i.natAbs.log2 < 1920 := by
      have := hs.1; have := hs.2
      have h9 : i.natAbs ≤ 9 := by (first | lia | omega)
      exact Nat.lt_of_le_of_lt (Nat.log2_le_self _) (by walk_at "m_d")
    show Fn W d H (.ref f_law_text) [.int i] (.str (Str.ofString (toString i))) H
    refine' fn_law_text (o := some _) P ?x (by walk_at "m_hv") (by walk_at "m_d")
    case x =>
      conv => arg 6; whnf
      walk_at "m_ifF"
      exact ex_ret (ex1_return (ev_ifT (H₁ := H) (by walk_at "m_tr") (by walk_at "m_ev")))
theorem c_law_paired {l : Nat} {ps : List PV} {vs : List V} {T : V → List O → Prop} (hd : 6 ≤ d) (hl : H[l]? = some (.list vs)) (hv : All2 (TV H) ps vs) (hp : ∀ p ∈ ps, p ≠ .ref ∧ ok p) (hz : vs.length ≤ 1000000) (h2 : 2 < H.length)
    (hT : ∀ H' id, PairsAt H' id (pairs ps []) → H.length ≤ id → Ext H H' → T (.ref id) H') : FnP W d H (.ref f_law_paired) [.ref l] T := by
  refine fnP_law_paired P (by walk_at "m_d") ?_
  conv => arg 6; whnf
  have sl := sizeLine_eq
  have pl := hv.length
  have hz2 : vs.length < 2 ^ 62 := by (first | lia | omega)
  have hz3 : vs.length + [V.none].length ≤ sizeLine := by simp; (first | lia | omega)
  refine exP_cons (ρ₁ := [(Str.ofString "pairs", .ref H.length), (Str.ofString "values", .ref l)]) (H₁ := H ++ [.list []]) (by walk_at "m_s1") ?_
  have hl0 : (H ++ [O.list []])[l]? = some (.list vs) := at_old hl
  refine exP_for (H₁ := (H ++ [.list []]) ++ [.rng 0 vs.length 2]) (src := .ref (H ++ [O.list []]).length) ?_ (iterR W (H ++ [O.list []]).length 0 vs.length 2 (small_range (by walk_at "m_d") (by walk_at "m_d")).1) at_new ?_ (.inl rfl) rfl
  · walk_at "m_ev"
  have x0 : Ext H ((H ++ [.list []]) ++ [.rng 0 vs.length 2]) := (Chg.push' Chg.push)
  have m0 : ((H ++ [O.list []]) ++ [O.rng 0 vs.length 2])[H.length]? = some (.list []) := at_old at_new
  generalize (H ++ [O.list []]) ++ [O.rng 0 vs.length 2] = H₀ at *
  refine forP_gen (fun (i : Nat) => [(Str.ofString "pairs", .ref i), (Str.ofString "values", .ref l)])
    (fun i H₂ rest => ∃ (j : Nat) (hs : List (Str × PV)), IPair H vs.length ps i H₂ rest j hs)
    H.length (fun _ _ e => e) ⟨0, [], rfl, x0, Nat.le_refl _, ⟨[], m0, .nil⟩, rfl, Nat.le_refl _, fun q h => by cases h⟩ ?_ ?_
  · rintro i H₂ v rest ⟨j, hs, e, x, hi, ⟨rs, hpr, hrs⟩, pe, jl, hk⟩
    refine ⟨trivial, ?_⟩
    have hv0 : (ran 0 vs.length 2)[j]? = some v := drop_hd e
    have e' : rest = (ran 0 vs.length 2).drop (j + 1) := drop_tl e
    obtain ⟨lt, rfl⟩ := ran_at hv0
    have jn : 2 * j < vs.length := by
      unfold Builtin.Range.rangeSize at lt
      simp at lt
      split at lt <;> (first | lia | omega)
    have ev2 : (0 : Int) + (j : Int) * 2 = ((2 * j : Nat) : Int) := by push_cast; (first | lia | omega)
    rw [ev2]
    obtain ⟨kv, hkv⟩ : ∃ kv, vs[2 * j]? = some kv := ⟨_, List.getElem?_eq_getElem jn⟩
    obtain ⟨k, hk1, ik⟩ := hv.get' hkv
    have kp := hp k (List.mem_of_getElem? hk1)
    have hl₂ := x.get hl
    have f1 := r_law_text (d := d - 1) P (by walk_at "m_d") (ik.ext x) kp.1 kp.2
    have b1 : (0 : Int) ≤ ((2 * j : Nat) : Int) := by (first | lia | omega)
    have b2 : ((2 * j : Nat) : Int) < 2 ^ 63 := by (first | lia | omega)
    have hkv' : vs[((2 * j : Nat) : Int).toNat]? = some kv := hkv
    obtain ⟨vv, hvv, tvv⟩ : ∃ vv, (vs ++ [V.none])[(((2 * j : Nat) : Int) + 1).toNat]? = some vv ∧ TV H (ps[2 * j + 1]?.getD .none) vv := by
      have et : (((2 * j : Nat) : Int) + 1).toNat = 2 * j + 1 := by (first | lia | omega)
      rw [et]
      by_cases q : 2 * j + 1 < vs.length
      · obtain ⟨vv, hvv⟩ : ∃ vv, vs[2 * j + 1]? = some vv := ⟨_, List.getElem?_eq_getElem q⟩
        obtain ⟨p, hp1, ip⟩ := hv.get' hvv
        exact ⟨vv, by rw [List.getElem?_append_left q]; exact hvv, by rw [hp1]; exact ip⟩
      · refine ⟨.none, ?_, ?_⟩
        · have : 2 * j + 1 = vs.length := by (first | lia | omega)
          rw [this]; simp
        · have : ps[2 * j + 1]? = none := List.getElem?_eq_none (by walk_at "m_d")
          rw [this]; rfl
    have b3 : (0 : Int) ≤ ((2 * j : Nat) : Int) + 1 := by (first | lia | omega)
    have b4 : ((2 * j : Nat) : Int) + 1 < 2 ^ 63 := by (first | lia | omega)
    have rl := hrs.length
    have rz : rs.length ≤ sizeLine := by (first | lia | omega)
    have step : ∀ i₃ H₃ hs', Ext H H₃ → H.length ≤ i₃ → PairsAt H₃ i₃ hs' → hs' = putD hs (txt k) (ps[2 * j + 1]?.getD .none) →
        ∃ (j : Nat) (hs : List (Str × PV)), IPair H vs.length ps i₃ H₃ rest j hs := by
      rintro i₃ H₃ hs' x₃ hi₃ pa rfl
      refine ⟨j + 1, _, e', x₃, hi₃, pa, by rw [← pairs_drop hk1]; exact pe, ?_, ?_⟩
      · unfold putD
        split
        · simpa using Nat.le_succ_of_le jl
        · simpa using jl
      · intro q hq
        unfold putD at hq
        split at hq
        · obtain ⟨q', hq', rfl⟩ := List.mem_map.mp hq
          split
          · exact hk q' hq'
          · exact hk q' hq'
        · rcases List.mem_append.mp hq with hq | hq
          · exact hk q hq
          · simp at hq
            subst hq
            exact ok_txt kp.2
    apply ExP.step (R := fun (i : Nat) => [(Str.ofString "pairs", .ref i), (Str.ofString "values", .ref l)])
    refine exP_cons (ρ₁ := [(Str.ofString "key", .str (txt k)), (Str.ofString "at", .int ((2 * j : Nat) : Int)), (Str.ofString "pairs", .ref i), (Str.ofString "values", .ref l)]) (H₁ := H₂) (by walk_at "m_s1") ?_
    refine exP_cons (ρ₁ := [(Str.ofString "value", vv), (Str.ofString "key", .str (txt k)), (Str.ofString "at", .int ((2 * j : Nat) : Int)), (Str.ofString "pairs", .ref i), (Str.ofString "values", .ref l)]) (H₁ := (H₂ ++ [.list [.none]]) ++ [.list (vs ++ [.none])]) (by walk_at "m_s1") ?_
    have xy : Ext H₂ ((H₂ ++ [.list [.none]]) ++ [.list (vs ++ [.none])]) := Chg.push' Chg.push
    generalize (H₂ ++ [O.list [.none]]) ++ [O.list (vs ++ [.none])] = Hy at *
    have hpy := xy.get hpr
    have hry : All2 (PairOf Hy) hs rs := hrs.imp fun _ _ q => q.ext xy
    have tvy : TV Hy (ps[2 * j + 1]?.getD .none) vv := (tvv.ext x).ext xy
    have xHy : Ext H Hy := x.tr xy
    refine exP_ifP (trP_cmp (evP_of (H' := Hy) (ev_name rfl) (evP_comp (ev_name rfl) (iterL W i rs) hpy ?_ (by decide +kernel) rz rfl)) rfl)
    refine compP_gen (fun H₁ rest ys => H₁ = Hy ∧ ∃ hs₁ hs₂, hs = hs₁ ++ hs₂ ∧ ys = hs₁.map (fun q => V.str q.1) ∧ All2 (PairOf Hy) hs₂ rest) ⟨rfl, [], hs, rfl, rfl, hry⟩ ?_ ?_
    · rintro H₁ v rest ys ⟨rfl, hs₁, hs₂, e1, rfl, h2⟩
      cases h2 with
      | @cons q _ hs₃ _ hq h3 =>
        obtain ⟨jj, v', rfl, hj, _⟩ := hq
        refine ⟨hpy, .str q.1, H₁, by walk_at "m_ev", rfl, hs₁ ++ [q], hs₃, by simp [e1], by simp, h3⟩
    rintro H₁ ys ⟨rfl, hs₁, hs₂, e1, rfl, h2⟩
    cases h2
    rw [List.append_nil] at e1
    subst e1
    refine ⟨hpy, ?_⟩
    have rda : RdA (H₁ ++ [O.list (hs.map fun q => V.str q.1)]) (hs.map fun q => V.str q.1) ((hs.map (·.1)).map PyData.str) := by
      clear hry hrs hpy step rl rz jl pe
      generalize H₁ ++ [O.list (hs.map fun q => V.str q.1)] = Hz
      clear hk
      induction hs with
      | nil => exact .nil
      | cons q r ih => exact .cons (.str _) ih
    have lay : PyData.canLayAll0 ((hs.map (·.1)).map PyData.str) = true := by
      clear hry hrs hpy step rl rz jl pe rda
      induction hs with
      | nil => rfl
      | cons q r ih =>
        simp only [List.map_cons, PyData.canLayAll0, Bool.and_eq_true]
        exact ⟨hk q (.head _), ih fun x hx => hk x (.tail _ hx)⟩
    refine ⟨_, cmp_in (.str _) (.list at_new rda) (ok_txt kp.2) lay (by simp [PyData.depth]), ?_⟩
    rw [any_str, List.any_map]
    have x1 : Ext H₁ (H₁ ++ [O.list (hs.map fun q => V.str q.1)]) := Chg.push
    generalize H₁ ++ [O.list (hs.map fun q => V.str q.1)] = Hz at *
    have hpz := x1.get hpy
    have hrz : All2 (PairOf Hz) hs rs := hry.imp fun _ _ q => q.ext x1
    have tvz := tvy.ext x1
    have xHz : Ext H Hz := xHy.tr x1
    by_cases an : hs.any (fun kv => decide (kv.1 = txt k)) = true
    · have an' : hs.any ((fun x => decide (x = txt k)) ∘ fun x => x.fst) = true := an
      rw [an', if_pos rfl]
      refine exP_assign_comp (ev_name rfl) (iterL W i rs) hpz ?_ (by decide +kernel) rz (.inl rfl) rfl
      refine compP_gen (fun H₁ rest ys => Ext Hz H₁ ∧ ∃ hs₁ hs₂, hs = hs₁ ++ hs₂ ∧ All2 (PairOf H₁) (hs₁.map fun kv => if kv.1 = txt k then (kv.1, ps[2 * j + 1]?.getD .none) else kv) ys ∧ All2 (PairOf Hz) hs₂ rest) ⟨Chg.refl _ _, [], hs, rfl, .nil, hrz⟩ ?_ ?_
      · rintro H₃ v rest ys ⟨x₃, hs₁, hs₂, e1, h1, h2⟩
        refine ⟨x₃.get hpz, ?_⟩
        cases h2 with
        | @cons q _ hs₃ _ hq h3 =>
          have hq' := hq.ext x₃
          obtain ⟨jj, v', rfl, hj, tq, jb⟩ := hq'
          by_cases qk : q.1 = txt k
          · have c1 : CmpR W (d - 1) H₃ .Eq (.str q.1) (.str (txt k)) true := cmp_eq_str.to (by simpa using qk)
            refine ⟨.ref H₃.length, H₃ ++ [.list [.str (txt k), vv]], ev_ifT (H₁ := H₃) (by walk_at "m_tr") (by walk_at "m_ev"), x₃.pushR, hs₁ ++ [q], hs₃, by simp [e1], ?_, h3⟩
            rw [List.map_append]
            refine (h1.imp fun _ _ q => q.ext Chg.push).append (.cons ?_ .nil)
            simp only [if_pos qk]
            exact ⟨_, vv, rfl, by rw [qk]; exact at_new, (tvz.ext x₃).ext Chg.push, Nat.lt_of_lt_of_le h2 (xHz.tr x₃).1⟩
          · have c1 : CmpR W (d - 1) H₃ .Eq (.str q.1) (.str (txt k)) false := cmp_eq_str.to (by simpa using qk)
            refine ⟨.ref jj, H₃, ev_ifF (H₁ := H₃) (by walk_at "m_tr") (by walk_at "m_ev"), x₃, hs₁ ++ [q], hs₃, by simp [e1], ?_, h3⟩
            rw [List.map_append]
            refine h1.append (.cons ?_ .nil)
            simp only [if_neg qk]
            exact ⟨jj, v', rfl, hj, tq, jb⟩
      · rintro H₃ ys ⟨x₃, hs₁, hs₂, e1, h1, h2⟩
        cases h2
        rw [List.append_nil] at e1
        subst e1
        refine ⟨x₃.get hpz, exP_nil ⟨rfl, exP_nil ⟨rfl, H₃.length, .cons rfl (.cons rfl .nil), step _ _ _ (xHz.tr x₃).pushR (Nat.le_trans xHz.1 x₃.1) ⟨ys, at_new, h1.imp fun _ _ q => q.ext Chg.push⟩ ?_⟩⟩⟩
        unfold putD
        rw [if_pos an]
    · have an' : hs.any ((fun x => decide (x = txt k)) ∘ fun x => x.fst) = false := by
        have := Bool.eq_false_iff.mpr an
        exact this
      rw [an', if_neg (by decide)]
      have zi : i < Hz.length := at_lt hpz
      refine exP_cons (ρ₁ := [(Str.ofString "value", vv), (Str.ofString "key", .str (txt k)), (Str.ofString "at", .int ((2 * j : Nat) : Int)), (Str.ofString "pairs", .ref i), (Str.ofString "values", .ref l)]) (H₁ := (Hz ++ [O.list [.str (txt k), vv]]).set i (O.list (rs ++ [.ref Hz.length]))) (by walk_at "m_s1") (exP_nil ⟨rfl, exP_nil ⟨rfl, i, .cons rfl (.cons rfl .nil), step _ _ _ (Chg.setN hi xHz.pushR) hi ⟨_, at_same (at_old hpz), ?_⟩ rfl⟩⟩)
      have e1 : putD hs (txt k) (ps[2 * j + 1]?.getD .none) = hs ++ [(txt k, ps[2 * j + 1]?.getD .none)] := by
        unfold putD
        rw [if_neg an]
      rw [e1]
      have ro := PairOf.refs hrz
      refine ((hrz.imp fun _ _ q => (q.ext Chg.push).setL (at_old hpz) ro).append (.cons ?_ .nil))
      exact ⟨Hz.length, vv, rfl, at_ne (Nat.ne_of_lt zi) at_new, (tvz.ext Chg.push).setL (at_old hpz), Nat.lt_of_lt_of_le h2 xHz.1⟩
  · rintro i H₂ ⟨j, hs, e, x, hi, pa, pe, jl, hk⟩
    refine ⟨trivial, ?_⟩
    have jn : ¬ 2 * j < vs.length := fun q => by
      have l0 := congrArg List.length e
      rw [List.length_drop] at l0
      unfold ran at l0
      rw [List.length_map, List.length_range, ran2_len] at l0
      simp at l0
      (first | lia | omega)
    rw [List.drop_eq_nil_of_le (by walk_at "m_d")] at pe
    have pe' : hs = pairs ps [] := pe
    subst pe'
    exact exP_ret (ev_name rfl) (hT H₂ i pa hi x)
theorem c_law_flat {i : Nat} {hs : List (Str × PV)} {T : V → List O → Prop} (hd : 3 ≤ d) (h : PairsAt H i hs) (hz : hs.length ≤ 100000)
    (hT : ∀ H' id ws, H'[id]? = some (.list ws) → H.length ≤ id → Ext H H' → All2 (TV H') (flatP hs) ws → T (.ref id) H') : FnP W d H (.ref f_law_flat) [.ref i] T := by
  refine fnP_law_flat P (by walk_at "m_d") ?_
  conv => arg 6; whnf
  have sl := sizeLine_eq
  obtain ⟨rs, hpr, hrs⟩ := h
  refine exP_cons (ρ₁ := [(Str.ofString "found", .ref H.length), (Str.ofString "pairs", .ref i)]) (H₁ := H ++ [.list []]) (by walk_at "m_s1") ?_
  refine exP_for (ev_name rfl) (iterL W i rs) (at_old hpr) ?_ (.inl rfl) rfl
  refine forP_gen (fun (f : Nat) => [(Str.ofString "found", .ref f), (Str.ofString "pairs", .ref i)])
    (fun f H₂ rest => ∃ hs₁ hs₂ ws, IFlat H hs f H₂ rest hs₁ hs₂ ws)
    H.length (fun _ _ e => e) ⟨[], hs, [], rfl, Chg.push, Nat.le_refl _, at_new, .nil, hrs, rfl⟩ ?_ ?_
  · rintro f H₂ v rest ⟨hs₁, hs₂, ws, e, x, hf, hw, tw, hr, hwl⟩
    refine ⟨x.get hpr, ?_⟩
    cases hr with
    | @cons q _ hs₃ _ hq h3 =>
      obtain ⟨jj, v', rfl, hj, tq, _⟩ := hq.ext x
      have el := congrArg List.length e
      simp at el
      have z1 : ws.length + [V.str q.1, v'].length ≤ sizeLine := by simp; (first | lia | omega)
      refine ⟨H₂.length, H₂ ++ [.list (ws ++ [.str q.1, v'])], ?_, hs₁ ++ [q], hs₃, ws ++ [.str q.1, v'], by simp [e], x.pushR, x.1, at_new, ?_, h3, by simp [hwl]; (first | lia | omega)⟩
      · refine (Ex.weak (ρ' := (Str.ofString "found", .ref H₂.length) :: (Str.ofString "pair", .ref jj) :: [(Str.ofString "found", .ref f), (Str.ofString "pairs", .ref i)]) ?_ (.cons rfl (.cons rfl .nil)))
        walk_at "m_st"
        exact ex_nil
      · have : flatP (hs₁ ++ [q]) = flatP hs₁ ++ [.str q.1, q.2] := by simp [flatP]
        rw [this]
        exact (tw.imp fun _ _ q => q.ext Chg.push).append (.cons rfl (.cons (tq.ext Chg.push) .nil))
  · rintro f H₂ ⟨hs₁, hs₂, ws, e, x, hf, hw, tw, hr, hwl⟩
    cases hr
    rw [List.append_nil] at e
    subst e
    exact ⟨x.get hpr, exP_ret (ev_name rfl) (hT H₂ f ws hw hf x tw)⟩
end
noncomputable def fm (a b : Int) : Nat := (a.fmod b).toNat
theorem fm_lt {a b : Int} (h : 0 < b) : (fm a b : Int) < b := by
  have h0 := Int.fmod_nonneg_of_pos a h
  have h1 := Int.fmod_lt_of_pos a h
  unfold fm; (first | lia | omega)
theorem fm_eq {a b : Int} (h : 0 < b) : a.fmod b = (fm a b : Int) := by
  have h0 := Int.fmod_nonneg_of_pos a h
  unfold fm; (first | lia | omega)
theorem i63 {k n : Nat} (h : k < n) (e : Nat.ble n 1000000 = true) : (k : Int) < 2 ^ 63 := Int.lt_trans (Int.ofNat_lt.mpr (Nat.lt_of_lt_of_le h (Nat.le_of_ble_eq_true e))) (by decide)
theorem fmod63 {a b : Int} (h : 0 < b) (h2 : b ≤ 2 ^ 63) : a.fmod b < 2 ^ 63 := Int.lt_of_lt_of_le (Int.fmod_lt_of_pos a h) h2
theorem lt_two {k : Nat} (h : (k : Int) < 2) : k = 0 ∨ k = 1 := by (first | lia | omega)
theorem lt_five {k : Nat} (h : (k : Int) < 5) : k = 0 ∨ k = 1 ∨ k = 2 ∨ k = 3 ∨ k = 4 := by (first | lia | omega)
theorem pow_pos9 (b : Int) (h : 0 < b) (k : Nat) : 0 < b ^ k := Int.pow_pos h
noncomputable def tg (n : Int) (k : Nat) : Nat := fm (n.fdiv (9 ^ k)) 9
noncomputable def tgs (n : Int) : List Nat := (List.range (fm (n.fdiv 5) 5)).map (tg n)
theorem tgs_le {n : Int} : (∀ g ∈ tgs n, g ≤ 8) ∧ (tgs n).length ≤ 4 := by
  constructor
  · intro g hg
    obtain ⟨k, _, rfl⟩ := List.mem_map.mp hg
    have := fm_lt (a := n.fdiv (9 ^ k)) (b := 9) (by decide)
    unfold tg; (first | lia | omega)
  · have := fm_lt (a := n.fdiv 5) (b := 5) (by decide)
    simp [tgs]; (first | lia | omega)
noncomputable abbrev intsV (gs : List Nat) : List V := gs.map fun (g : Nat) => V.int (g : Int)
theorem ran1_len (n : Nat) : ((Builtin.Range.rangeSize 0 n 1).toNat) = n := by
  unfold Builtin.Range.rangeSize
  simp
  split <;> (first | lia | omega)
theorem pow_small {b : Int} {k : Nat} (h : b = 9 ∨ b = 5) (hk : k ≤ 4) : (b ^ k).natAbs < 1073741824 ∧ b ^ k ≠ 0 ∧ (Builtin.Int.intBits b : Int) * (k : Int) ≤ 2 ^ 27 := by
  have : k = 0 ∨ k = 1 ∨ k = 2 ∨ k = 3 ∨ k = 4 := lt_five (Int.ofNat_lt.mpr (Nat.lt_succ_of_le hk))
  rcases h with rfl | rfl <;> rcases this with rfl | rfl | rfl | rfl | rfl <;> decide +kernel
noncomputable def OkS (S : PS) : Prop := (∀ p ∈ S.sc, ok p) ∧ (∀ p ∈ S.a0, ok p) ∧ (∀ p ∈ S.a1, ok p) ∧ ∀ q ∈ S.hs, PyData.strOk q.1 = true ∧ ok q.2
theorem OkS.flat {hs : List (Str × PV)} (h : ∀ q ∈ hs, PyData.strOk q.1 = true ∧ ok q.2) : ∀ p ∈ flatP hs, ok p := by
  intro p hp
  obtain ⟨q, hq, h'⟩ := List.mem_flatMap.mp hp
  simp at h'
  rcases h' with rfl | rfl
  · exact (h q hq).1
  · exact (h q hq).2
theorem OkS.mem {S : PS} (h : OkS S) (g : Nat) : ∀ p ∈ memP S g, ok p := by
  intro p hp
  unfold memP at hp
  split at hp
  · simp at hp
    subst hp
    cases q : S.sc[g]? with
    | none => trivial
    | some x => exact h.1 x (List.mem_of_getElem? q)
  · split at hp
    · exact h.2.1 p hp
    · split at hp
      · exact h.2.2.1 p hp
      · split at hp
        · exact OkS.flat h.2.2.2 p hp
        · simp at hp; subst hp; trivial
structure ISrc (ix : Ix) (H : List O) (m : MS) (n : Int) (B : Nat) (f : Nat) (H₂ : List O) (rest : List V) (j : Nat) (qs : List PV) (ws : List V) : Prop where
  f0 : rest = (ran 0 (fm n 6 : Nat) 1).drop j
  f1 : Ext H H₂
  f2 : H.length ≤ f
  f3 : H₂[f]? = some (.list ws)
  f4 : All2 (MV ix H₂ m.live) qs ws
  f5 : (∀ p ∈ qs, ok p)
  f6 : ws.length ≤ j * B
  f7 : j ≤ 5
section
variable {W : Wd} {d : Nat} {H : List O} (P : PF W.K)
include P
theorem r_law_targets {n : Int} (hd : 2 ≤ d) : FnP W d H (.ref f_law_targets) [.int n] fun v H' => ∃ id, v = .ref id ∧ H'[id]? = some (.list (intsV (tgs n))) ∧ H.length ≤ id ∧ Ext H H' := by
  refine fnP_law_targets P (by walk_at "m_d") ?_
  conv => arg 6; whnf
  have e5 := fm_eq (a := n.fdiv 5) (b := 5) (by decide)
  have l5 := fm_lt (a := n.fdiv 5) (b := 5) (by decide)
  refine exP_retP (evP_comp (H₁ := H ++ [.rng 0 (fm (n.fdiv 5) 5 : Nat) 1]) (src := .ref H.length) ?_ (iterR W H.length 0 (fm (n.fdiv 5) 5 : Nat) 1 (small_range (by walk_at "m_d") (by walk_at "m_d")).2) at_new ?_ (by decide +kernel) ?_ rfl)
  · rw [← e5]; walk_at "m_ev"
  · refine compP_gen (fun H₁ rest ys => H₁ = H ++ [.rng 0 (fm (n.fdiv 5) 5 : Nat) 1] ∧ ∃ j, rest = (ran 0 (fm (n.fdiv 5) 5 : Nat) 1).drop j ∧ ys = intsV ((List.range j).map (tg n)) ∧ j ≤ fm (n.fdiv 5) 5) ⟨rfl, 0, rfl, rfl, by (first | lia | omega)⟩ ?_ ?_
    · rintro H₁ v rest ys ⟨rfl, j, e, rfl, hj⟩
      refine ⟨trivial, ?_⟩
      have hv0 : (ran 0 (fm (n.fdiv 5) 5 : Nat) 1)[j]? = some v := drop_hd e
      have e' : rest = (ran 0 (fm (n.fdiv 5) 5 : Nat) 1).drop (j + 1) := drop_tl e
      obtain ⟨lt, rfl⟩ := ran_at hv0
      rw [ran1_len] at lt
      have ev : (0 : Int) + (j : Int) * 1 = (j : Int) := by (first | lia | omega)
      rw [ev]
      obtain ⟨p1, p2, p3⟩ := pow_small (b := 9) (k := j) (.inl rfl) (by walk_at "m_d")
      refine ⟨.int (tg n j : Nat), _, ?_, rfl, j + 1, e', by simp [List.range_succ], by (first | lia | omega)⟩
      have et : V.int ((tg n j : Nat) : Int) = .int ((n.fdiv (9 ^ (j : Int).toNat)).fmod 9) := by
        rw [fm_eq (by decide)]; rfl
      rw [et]
      exact ev_mod (ev_div (ev_name rfl) (ev_pow ev_int (ev_name rfl) (by walk_at "m_d") p3) p2 p1) ev_int (by decide)
    · rintro H₁ ys ⟨rfl, j, e, rfl, hj⟩
      refine ⟨trivial, ?_⟩
      have hjn : j = fm (n.fdiv 5) 5 := by
        have l0 := congrArg List.length e
        rw [List.length_drop] at l0
        unfold ran at l0
        rw [List.length_map, List.length_range, ran1_len] at l0
        simp at l0
        (first | lia | omega)
      subst hjn
      exact ⟨_, rfl, at_new, by simp, Chg.push' Chg.push⟩
  · unfold ran
    rw [List.length_map, List.length_range, ran1_len]
    have := sizeLine_eq
    (first | lia | omega)
theorem r_Ref_init {s : Nat} {v : V} (hd : 1 ≤ d) (h : H[s]? = some (.inst cRef [])) : Fn W d H (.ref f_Ref_init) [.ref s, v] .none (H.set s (.inst cRef [(Str.ofString "target", v), (Str.ofString "is_weak", .bool false)])) := by
  refine' Fn.to (fn_Ref_init (o := none) P ?x (by walk_at "m_hv") (by walk_at "m_d")) ?e
  case x =>
    conv => arg 6; whnf
    iterate 3 walk_at "m_st"
  case e => rw [List.set_set]; rfl
theorem r_Ref_new {th : Nat} (hd : 1 ≤ d) : Fn W d (H ++ [.inst cRef []]) (.ref f_Ref_init) [.ref H.length, .ref th] .none (H ++ [oRef th]) := Fn.to (r_Ref_init P hd at_new) set_last
theorem c_law_sources {ix : Ix} {px : Px} {last : Int} {m : MS} {zs : List M} {tt sl al : Nat} {n : Int} {B : Nat} {T : V → List O → Prop} (hd : 20 ≤ d) (L : LSt ix px H last m zs) (htt : H[tt]? = some (.tup [.ref sl, .ref al, .ref px.hh])) (hsl : H[sl]? = some (.list (px.ids.map .ref))) (hal : H[al]? = some (.list [.ref px.a0, .ref px.a1]))
    (hok : OkS m.abs) (hB : B ≤ 100000) (h0 : m.a0.length ≤ B) (h1 : m.a1.length ≤ B) (h2 : 2 * m.ht.length ≤ B) (hB1 : 1 ≤ B)
    (hT : ∀ H' id ps vs, H'[id]? = some (.list vs) → H.length ≤ id → Ext H H' → All2 (IsV ix.th H') ps vs → (∀ p ∈ ps, ok p) → vs.length ≤ 5 * B → T (.ref id) H') :
    FnP W d H (.ref f_law_sources) [.int n, .ref tt, .ref ix.th] T := by
  refine fnP_law_sources P (by walk_at "m_d") ?_
  conv => arg 6; whnf
  have szl := sizeLine_eq
  have e6 := fm_eq (a := n) (b := 6) (by decide)
  have l6 := fm_lt (a := n) (b := 6) (by decide)
  refine exP_cons (ρ₁ := [(Str.ofString "table", .ref px.hh), (Str.ofString "arrays", .ref al), (Str.ofString "scalars", .ref sl), (Str.ofString "n", .int n), (Str.ofString "things", .ref tt), (Str.ofString "thing", .ref ix.th)]) (H₁ := H) (ex1_unpack3 rfl htt (by walk_at "m_lc") (by walk_at "m_lc") (by walk_at "m_lc")) ?_
  refine exP_cons (ρ₁ := [(Str.ofString "found", .ref H.length), (Str.ofString "table", .ref px.hh), (Str.ofString "arrays", .ref al), (Str.ofString "scalars", .ref sl), (Str.ofString "n", .int n), (Str.ofString "things", .ref tt), (Str.ofString "thing", .ref ix.th)]) (H₁ := H ++ [.list []]) (by walk_at "m_s1") ?_
  refine exP_for (H₁ := (H ++ [.list []]) ++ [.rng 0 (fm n 6 : Nat) 1]) (src := .ref (H ++ [O.list []]).length) ?_ (iterR W (H ++ [O.list []]).length 0 (fm n 6 : Nat) 1 (small_range (by walk_at "m_d") (by walk_at "m_d")).2) at_new ?_ (.inl rfl) rfl
  · rw [← e6]; walk_at "m_ev"
  refine forP_gen (fun (f : Nat) => [(Str.ofString "found", .ref f), (Str.ofString "table", .ref px.hh), (Str.ofString "arrays", .ref al), (Str.ofString "scalars", .ref sl), (Str.ofString "n", .int n), (Str.ofString "things", .ref tt), (Str.ofString "thing", .ref ix.th)])
    (fun f H₂ rest => ∃ (j : Nat) (qs : List PV) (ws : List V), ISrc ix H m n B f H₂ rest j qs ws)
    H.length (fun _ _ e => e) ⟨0, [], [], rfl, Chg.push' Chg.push, Nat.le_refl _, at_old at_new, .nil, (fun p h => by cases h), by simp, by (first | lia | omega)⟩ ?_ ?_
  · rintro f H₂ v rest ⟨j, qs, ws, e, x, hf, hw, mv, hq, hwl, hj⟩
    refine ⟨trivial, ?_⟩
    have hv0 : (ran 0 (fm n 6 : Nat) 1)[j]? = some v := drop_hd e
    have e' : rest = (ran 0 (fm n 6 : Nat) 1).drop (j + 1) := drop_tl e
    obtain ⟨lt, rfl⟩ := ran_at hv0
    rw [ran1_len] at lt
    have ev : (0 : Int) + (j : Int) * 1 = (j : Int) := by (first | lia | omega)
    rw [ev]
    obtain ⟨p1, p2, p3⟩ := pow_small (b := 9) (k := j) (.inl rfl) (by walk_at "m_d")
    obtain ⟨r1, r2, r3⟩ := pow_small (b := 5) (k := j) (.inr rfl) (by walk_at "m_d")
    have L₂ := L.ext x
    have five := L.five'
    have hsl₂ := x.get hsl
    have hal₂ := x.get hal
    have jB : ws.length ≤ 4 * B := Nat.le_trans hwl (Nat.mul_le_mul_right _ (by walk_at "m_d"))
    have fin : ∀ f₃ H₃ rs us, Ext H H₃ → H.length ≤ f₃ → H₃[f₃]? = some (.list (ws ++ us)) → All2 (MV ix H₃ m.live) qs ws → All2 (MV ix H₃ m.live) rs us → (∀ p ∈ rs, ok p) → us.length ≤ B →
        ∃ (j : Nat) (qs : List PV) (ws : List V), ISrc ix H m n B f₃ H₃ rest j qs ws := by
      intro f₃ H₃ rs us x₃ hf₃ hw₃ m1 m2 ho hl
      refine ⟨j + 1, qs ++ rs, ws ++ us, e', x₃, hf₃, hw₃, m1.append m2, fun p hp => ?_, ?_, by (first | lia | omega)⟩
      · rcases List.mem_append.mp hp with h | h
        · exact hq p h
        · exact ho p h
      · have : (j + 1) * B = j * B + B := by rw [Nat.add_mul]; (first | lia | omega)
        rw [List.length_append, this]; (first | lia | omega)
    have setMV : ∀ {H₃ : List O} {i : Nat} {a b : List V} {p : PV} {v : V}, H₃[i]? = some (.list a) → MV ix H₃ m.live p v → MV ix (H₃.set i (.list b)) m.live p v := by
      intro H₃ i a b p v hi h
      refine h.imp (fun q => ?_) fun q => q
      cases p with
      | ref => obtain ⟨r, e1, e2⟩ := q; exact ⟨r, e1, at_ne (fun z => by subst z; rw [hi] at e2; cases e2) e2⟩
      | _ => exact q
    have ew := fm_eq (a := ((n.fdiv 6).fdiv (9 ^ j))) (b := 9) (by decide)
    have lw := fm_lt (a := ((n.fdiv 6).fdiv (9 ^ j))) (b := 9) (by decide)
    generalize hway : fm ((n.fdiv 6).fdiv (9 ^ j)) 9 = way at ew lw
    apply ExP.step (R := fun (f : Nat) => [(Str.ofString "found", .ref f), (Str.ofString "table", .ref px.hh), (Str.ofString "arrays", .ref al), (Str.ofString "scalars", .ref sl), (Str.ofString "n", .int n), (Str.ofString "things", .ref tt), (Str.ofString "thing", .ref ix.th)])
    refine exP_cons (ρ₁ := (Str.ofString "way", .int (way : Nat)) :: (Str.ofString "k", .int (j : Int)) :: [(Str.ofString "found", .ref f), (Str.ofString "table", .ref px.hh), (Str.ofString "arrays", .ref al), (Str.ofString "scalars", .ref sl), (Str.ofString "n", .int n), (Str.ofString "things", .ref tt), (Str.ofString "thing", .ref ix.th)]) (H₁ := H₂) ?_ ?_
    · rw [← ew]
      exact ex1_assign (ev_mod (ev_div (ev_div (ev_name rfl) ev_int (by decide) (by decide)) (ev_pow ev_int (ev_name rfl) (by walk_at "m_d") p3) p2 p1) ev_int (by decide)) (by walk_at "m_lc") rfl
    have le : ∀ f₃, Le [(Str.ofString "found", V.ref f₃), (Str.ofString "table", .ref px.hh), (Str.ofString "arrays", .ref al), (Str.ofString "scalars", .ref sl), (Str.ofString "n", .int n), (Str.ofString "things", .ref tt), (Str.ofString "thing", .ref ix.th)]
      ((Str.ofString "found", V.ref f₃) :: (Str.ofString "way", .int (way : Nat)) :: (Str.ofString "k", .int (j : Int)) :: [(Str.ofString "found", .ref f), (Str.ofString "table", .ref px.hh), (Str.ofString "arrays", .ref al), (Str.ofString "scalars", .ref sl), (Str.ofString "n", .int n), (Str.ofString "things", .ref tt), (Str.ofString "thing", .ref ix.th)]) :=
      fun f₃ => .cons rfl (.cons rfl (.cons rfl (.cons rfl (.cons rfl (.cons rfl (.cons rfl .nil))))))
    have le0 : Le [(Str.ofString "found", V.ref f), (Str.ofString "table", .ref px.hh), (Str.ofString "arrays", .ref al), (Str.ofString "scalars", .ref sl), (Str.ofString "n", .int n), (Str.ofString "things", .ref tt), (Str.ofString "thing", .ref ix.th)]
      ((Str.ofString "way", .int (way : Nat)) :: (Str.ofString "k", .int (j : Int)) :: [(Str.ofString "found", .ref f), (Str.ofString "table", .ref px.hh), (Str.ofString "arrays", .ref al), (Str.ofString "scalars", .ref sl), (Str.ofString "n", .int n), (Str.ofString "things", .ref tt), (Str.ofString "thing", .ref ix.th)]) :=
      .cons rfl (.cons rfl (.cons rfl (.cons rfl (.cons rfl (.cons rfl (.cons rfl .nil))))))
    have b0 : (0 : Int) ≤ (way : Nat) := Int.natCast_nonneg _
    have b63 : ((way : Nat) : Int) < 2 ^ 63 := Int.lt_trans lw (by decide)
    by_cases w5 : way < 5
    · have c1 : CmpR W (d - 1) H₂ .Lt (.int (way : Nat)) (.int 5) true := cmp_lt.to (decide_eq_true (Int.ofNat_lt.mpr w5))
      have hid : (px.ids.map V.ref)[((way : Nat) : Int).toNat]? = some (.ref px.ids[way]) := by simp
      refine cps fun G hG => ?_
      obtain ⟨s₁, y, s₃, ems, es, et⟩ := tgt_sc L w5
      refine hG ?_
      clear hG
      have ey : px.ids[way] = y.id := by
        have : px.ids = m.sc.map (·.id) := L.ids.symm
        simp only [this, ems, ← es]
        simp
      rw [ey] at hid
      have wz : ws.length ≤ sizeLine := by (first | lia | omega)
      refine exP_if (b := true) (H₁ := H₂) (by walk_at "m_tr") ?_
      refine exP_cons (ρ₁ := (Str.ofString "way", .int (way : Nat)) :: (Str.ofString "k", .int (j : Int)) :: [(Str.ofString "found", .ref f), (Str.ofString "table", .ref px.hh), (Str.ofString "arrays", .ref al), (Str.ofString "scalars", .ref sl), (Str.ofString "n", .int n), (Str.ofString "things", .ref tt), (Str.ofString "thing", .ref ix.th)]) (H₁ := H₂.set f (.list (ws ++ [.ref y.id]))) (by walk_at "m_s1") (exP_nil ⟨rfl, exP_nil ⟨rfl, f, le0, ?_⟩⟩)
      refine fin f _ (memP m.abs way) [.ref y.id] (Chg.setN hf x) hf (at_same hw) (mv.imp fun _ _ q => setMV hw q) ?_ (hok.mem way) (by simpa using hB1)
      unfold memP
      rw [if_pos w5]
      refine .cons (.inr ⟨y, by unfold MS.live; rw [ems]; simp, rfl, ?_⟩) .nil
      simp [MS.abs, ems, ← es]
    · have c1 : CmpR W (d - 1) H₂ .Lt (.int (way : Nat)) (.int 5) false := cmp_lt.to (decide_eq_false fun q => w5 (Int.ofNat_lt.mp q))
      refine exP_if (b := false) (H₁ := H₂) (by walk_at "m_tr") ?_
      by_cases w5' : way = 5
      · have c2 : CmpR W (d - 1) H₂ .Eq (.int (way : Nat)) (.int 5) true := cmp_eq_int.to (by rw [w5']; rfl)
        refine exP_if (b := true) (H₁ := H₂) (by walk_at "m_tr") ?_
        have e2 := fm_eq (a := n) (b := 2) (by decide)
        have l2 := fm_lt (a := n) (b := 2) (by decide)
        have q0 : (0 : Int) ≤ n.fmod 2 := Int.fmod_nonneg_of_pos n (by decide)
        have q63 : n.fmod 2 < 2 ^ 63 := fmod63 (by decide) (by decide)
        obtain ⟨a, ms, ha, hit, hlen, hms, hmo⟩ : ∃ a ms, [V.ref px.a0, V.ref px.a1][(n.fmod 2).toNat]? = some (.ref a) ∧ ArrAt ix H₂ a ms ∧ ms.length ≤ B ∧ (∀ x ∈ ms, x ∈ m.live) ∧ ∀ p ∈ ms.map (·.val), ok p := by
          have : fm n 2 = 0 ∨ fm n 2 = 1 := lt_two l2
          rw [e2]
          rcases this with q | q <;> rw [q]
          · exact ⟨px.a0, m.a0, rfl, L₂.arr0, h0, fun x hx => by unfold MS.live; simp; exact .inr (.inl hx), hok.2.1⟩
          · exact ⟨px.a1, m.a1, rfl, L₂.arr1, h1, fun x hx => by unfold MS.live; simp; exact .inr (.inr (.inl hx)), hok.2.2.1⟩
        obtain ⟨nn, c, wk, it, hao, hitl, zit⟩ := hit
        have z1 : ws.length + (mref ms).length ≤ sizeLine := by simp; (first | lia | omega)
        refine exP_cons (ρ₁ := (Str.ofString "found", .ref H₂.length) :: (Str.ofString "way", .int (way : Nat)) :: (Str.ofString "k", .int (j : Int)) :: [(Str.ofString "found", .ref f), (Str.ofString "table", .ref px.hh), (Str.ofString "arrays", .ref al), (Str.ofString "scalars", .ref sl), (Str.ofString "n", .int n), (Str.ofString "things", .ref tt), (Str.ofString "thing", .ref ix.th)]) (H₁ := H₂ ++ [.list (ws ++ mref ms)]) (by walk_at "m_s1") (exP_nil ⟨rfl, exP_nil ⟨rfl, exP_nil ⟨rfl, H₂.length, le _, ?_⟩⟩⟩)
        exact fin H₂.length _ (ms.map (·.val)) (mref ms) x.pushR x.1 at_new (mv.imp fun _ _ q => q.ext Chg.push) (mref_mv hms) hmo (by simpa using hlen)
      · have c2 : CmpR W (d - 1) H₂ .Eq (.int (way : Nat)) (.int 5) false := cmp_eq_int.to (beq_eq_false_iff_ne.mpr fun q => w5' (Int.ofNat.inj q))
        refine exP_if (b := false) (H₁ := H₂) (by walk_at "m_tr") ?_
        by_cases w6 : way = 6
        · have c3 : CmpR W (d - 1) H₂ .Eq (.int (way : Nat)) (.int 6) true := cmp_eq_int.to (by rw [w6]; rfl)
          refine exP_if (b := true) (H₁ := H₂) (by walk_at "m_tr") ?_
          obtain ⟨nn, c, wk, tb, ep, hh, htb⟩ := L₂.hash
          have fl := flat_len m.ht
          have z1 : ws.length + (flat m.ht).length ≤ sizeLine := by (first | lia | omega)
          have f1 := c_flat_hash (d := d - 1) P (by walk_at "m_d") hh htb L.nd (by walk_at "m_d")
          have hw' : (H₂ ++ [O.list (flat m.ht)])[f]? = some (.list ws) := at_old hw
          refine exP_cons (ρ₁ := (Str.ofString "found", .ref (H₂ ++ [O.list (flat m.ht)]).length) :: (Str.ofString "way", .int (way : Nat)) :: (Str.ofString "k", .int (j : Int)) :: [(Str.ofString "found", .ref f), (Str.ofString "table", .ref px.hh), (Str.ofString "arrays", .ref al), (Str.ofString "scalars", .ref sl), (Str.ofString "n", .int n), (Str.ofString "things", .ref tt), (Str.ofString "thing", .ref ix.th)]) (H₁ := (H₂ ++ [O.list (flat m.ht)]) ++ [.list (ws ++ flat m.ht)]) (by walk_at "m_s1") (exP_nil ⟨rfl, exP_nil ⟨rfl, exP_nil ⟨rfl, exP_nil ⟨rfl, _, le _, ?_⟩⟩⟩⟩)
          have hf' : H.length ≤ (H₂ ++ [O.list (flat m.ht)]).length := by have := x.1; simp; (first | lia | omega)
          exact fin _ _ (flatP (hval m.ht)) (flat m.ht) x.pushR.pushR hf' at_new (mv.imp fun _ _ q => (q.ext Chg.push).ext Chg.push) (flat_mv fun x hx => by unfold MS.live; simp only [List.mem_append]; exact .inr (.inr (.inr hx))) (OkS.flat hok.2.2.2) (by walk_at "m_d")
        · have c3 : CmpR W (d - 1) H₂ .Eq (.int (way : Nat)) (.int 6) false := cmp_eq_int.to (beq_eq_false_iff_ne.mpr fun q => w6 (Int.ofNat.inj q))
          refine exP_if (b := false) (H₁ := H₂) (by walk_at "m_tr") ?_
          have e7 := fm_eq (a := n) (b := 7) (by decide)
          have l7 := fm_lt (a := n) (b := 7) (by decide)
          have ek := fm_eq (a := n.fdiv (5 ^ j)) (b := 5) (by decide)
          have lk := fm_lt (a := n.fdiv (5 ^ j)) (b := 5) (by decide)
          have f1 := r_Ref_new (d := d - 1 - 1) (H := H₂) (th := ix.th) P (by walk_at "m_d")
          obtain ⟨p, w, hpw, hmv, hpo⟩ : ∃ p w, [V.int (n.fmod 7 - 3), .str (Str.ofString "ab"), .none, .ref H₂.length, .str (Str.ofString "a")][(n.fdiv (5 ^ j)).fmod 5 |>.toNat]? = some w ∧ IsV ix.th (H₂ ++ [oRef ix.th]) p w ∧ ok p := by
            have : fm (n.fdiv (5 ^ j)) 5 = 0 ∨ fm (n.fdiv (5 ^ j)) 5 = 1 ∨ fm (n.fdiv (5 ^ j)) 5 = 2 ∨ fm (n.fdiv (5 ^ j)) 5 = 3 ∨ fm (n.fdiv (5 ^ j)) 5 = 4 := lt_five lk
            rw [ek]
            rcases this with q | q | q | q | q <;> rw [q]
            · exact ⟨.int (n.fmod 7 - 3), _, rfl, rfl, by rw [e7]; constructor <;> (first | lia | omega)⟩
            · exact ⟨.str (Str.ofString "ab"), _, rfl, rfl, by show PyData.strOk _ = true; decide +kernel⟩
            · exact ⟨.none, _, rfl, rfl, trivial⟩
            · exact ⟨.ref, _, rfl, ⟨_, rfl, at_new⟩, trivial⟩
            · exact ⟨.str (Str.ofString "a"), _, rfl, rfl, by show PyData.strOk _ = true; decide +kernel⟩
          have wz : ws.length ≤ sizeLine := by (first | lia | omega)
          have q0 : (0 : Int) ≤ (n.fdiv (5 ^ (j : Int).toNat)).fmod 5 := Int.fmod_nonneg_of_pos _ (by decide)
          have q63 : (n.fdiv (5 ^ (j : Int).toNat)).fmod 5 < 2 ^ 63 := fmod63 (by decide) (by decide)
          have hw1 : ((H₂ ++ [oRef ix.th]) ++ [O.list [V.int (n.fmod 7 - 3), .str (Str.ofString "ab"), .none, .ref H₂.length, .str (Str.ofString "a")]])[f]? = some (.list ws) := at_old (at_old hw)
          refine exP_cons (ρ₁ := (Str.ofString "way", .int (way : Nat)) :: (Str.ofString "k", .int (j : Int)) :: [(Str.ofString "found", .ref f), (Str.ofString "table", .ref px.hh), (Str.ofString "arrays", .ref al), (Str.ofString "scalars", .ref sl), (Str.ofString "n", .int n), (Str.ofString "things", .ref tt), (Str.ofString "thing", .ref ix.th)])
            (H₁ := ((H₂ ++ [oRef ix.th]) ++ [O.list [V.int (n.fmod 7 - 3), .str (Str.ofString "ab"), .none, .ref H₂.length, .str (Str.ofString "a")]]).set f (.list (ws ++ [w])))
            (ex1_expr (ev_bmeth (id := "list.append") (ev_name rfl) hw rfl PySem.F.plainAttrs_list PySem.F.slot_list_append PySem.F.type_list_append
              (eva_cons (ev_item (k := (n.fdiv (5 ^ (j : Int).toNat)).fmod 5) (ev_list (by walk_at "m_eva") (Nat.le_of_ble_eq_true rfl)) (ev_mod (ev_div (ev_name rfl) (ev_pow ev_int (ev_name rfl) (by walk_at "m_d") r3) r2 r1) ev_int (by decide)) at_new q0 q63 hpw rfl) eva_nil)
              (call_append hw1 wz) (by show "list" ≠ ""; decide) rfl rfl rfl rfl) rfl)
            (exP_nil ⟨rfl, exP_nil ⟨rfl, exP_nil ⟨rfl, exP_nil ⟨rfl, f, le0, ?_⟩⟩⟩⟩)
          refine fin f _ [p] [w] (Chg.setN hf x.pushR.pushR) hf (at_same hw1) (mv.imp fun _ _ q => setMV hw1 ((q.ext Chg.push).ext Chg.push)) (.cons (setMV hw1 (MV.ext (ix := ix) (live := m.live) (Or.inl hmv) Chg.push)) .nil) (fun q hq => by simp at hq; subst hq; exact hpo) (by simpa using hB1)
  · rintro f H₂ ⟨j, qs, ws, e, x, hf, hw, mv, hq, hwl, hj⟩
    refine ⟨trivial, ?_⟩
    have w5 : ws.length ≤ 5 * B := Nat.le_trans hwl (Nat.mul_le_mul_right _ hj)
    refine exP_retP (evP_call (evaP_cons (evP_of (H' := H₂) (ev_name rfl) (evaP_nil (c_plain_values (d := d - 1) P (by walk_at "m_d") (L.core.ext x) hw mv (by walk_at "m_d") fun ys hy => ?_))) rfl) (g_plain_values P) (kp_plain_values P) rfl rfl rfl)
    exact hT _ _ qs ys at_new x.1 x.pushR (hy.imp fun _ _ q => q.ext Chg.push) hq (by rw [← hy.length, mv.length]; exact w5)
end
structure StB (H : List O) (st : Nat) (S : PS) (vs : List V) (l5 l6 l7 : Nat) (ws5 ws6 : List V) : Prop where
  row : H[st]? = some (.list (vs ++ [.ref l5, .ref l6, .ref l7]))
  five : vs.length = 5
  sc : All2 (TV H) S.sc vs
  e5 : H[l5]? = some (.list ws5)
  a0 : All2 (TV H) S.a0 ws5
  e6 : H[l6]? = some (.list ws6)
  a1 : All2 (TV H) S.a1 ws6
  hs : PairsAt H l7 S.hs
  n5 : l5 ≠ st
  n6 : l6 ≠ st
  n7 : l7 ≠ st
  b5 : 2 < l5
  b6 : 2 < l6
  b7 : 2 < l7
inductive StAt (H : List O) (st : Nat) (S : PS) : Prop
  | mk (vs : List V) (l5 l6 l7 : Nat) (ws5 ws6 : List V) (b : StB H st S vs l5 l6 l7 ws5 ws6) : StAt H st S
theorem StB.ext {H H' : List O} {st : Nat} {S : PS} {vs : List V} {l5 l6 l7 : Nat} {ws5 ws6 : List V} (h : StB H st S vs l5 l6 l7 ws5 ws6) (x : Ext H H') : StB H' st S vs l5 l6 l7 ws5 ws6 where
  row := x.get h.row
  five := h.five
  sc := h.sc.imp fun _ _ q => q.ext x
  e5 := x.get h.e5
  a0 := h.a0.imp fun _ _ q => q.ext x
  e6 := x.get h.e6
  a1 := h.a1.imp fun _ _ q => q.ext x
  hs := h.hs.ext x
  n5 := h.n5
  n6 := h.n6
  n7 := h.n7
  b5 := h.b5
  b6 := h.b6
  b7 := h.b7
theorem StAt.ext {H H' : List O} {st : Nat} {S : PS} (h : StAt H st S) (x : Ext H H') : StAt H' st S := by
  obtain ⟨vs, l5, l6, l7, ws5, ws6, h⟩ := h
  exact ⟨vs, l5, l6, l7, ws5, ws6, h.ext x⟩
theorem PairOf.set8 {H : List O} {i : Nat} {rs : List V} {o' : O} {q : Str × PV} {v : V} (h : PairOf H q v) (e : H[i]? = some (.list rs)) (r : rs.length = 8) : PairOf (H.set i o') q v := by
  obtain ⟨j, v', e', a, b, c⟩ := h
  refine ⟨j, v', e', at_ne (fun z => ?_) a, b.setL e, c⟩
  subst z
  rw [e] at a
  cases a
  cases r
theorem PairsAt.set8 {H : List O} {i l : Nat} {rs : List V} {o' : O} {hs : List (Str × PV)} (h : PairsAt H l hs) (e : H[i]? = some (.list rs)) (r : rs.length = 8) (n : l ≠ i) : PairsAt (H.set i o') l hs := by
  obtain ⟨ts, a, b⟩ := h
  exact ⟨ts, at_ne (Ne.symm n) a, b.imp fun _ _ q => q.set8 e r⟩
theorem All2.setAt {α β : Type} {R : α → β → Prop} {l : List α} {m : List β} (h : All2 R l m) (i : Nat) {a : α} {b : β} (r : R a b) : All2 R (l.set i a) (m.set i b) := h.set i r
theorem StB.turn {H : List O} {st : Nat} {S : PS} {vs : List V} {l5 l6 l7 : Nat} {ws5 ws6 : List V} (h : StB H st S vs l5 l6 l7 ws5 ws6) {S' : PS} {vs' : List V} {l5' l6' l7' : Nat} {ws5' ws6' : List V} (five : vs'.length = 5) (sc : All2 (TV H) S'.sc vs') (e5 : H[l5']? = some (.list ws5')) (a0 : All2 (TV H) S'.a0 ws5')
    (e6 : H[l6']? = some (.list ws6')) (a1 : All2 (TV H) S'.a1 ws6') (hs : PairsAt H l7' S'.hs) (n5 : l5' ≠ st) (n6 : l6' ≠ st) (n7 : l7' ≠ st) (b5 : 2 < l5') (b6 : 2 < l6') (b7 : 2 < l7') :
    StB (H.set st (.list (vs' ++ [.ref l5', .ref l6', .ref l7']))) st S' vs' l5' l6' l7' ws5' ws6' where
  row := at_same h.row
  five := five
  sc := sc.imp fun _ _ q => q.setL h.row
  e5 := at_ne (Ne.symm n5) e5
  a0 := a0.imp fun _ _ q => q.setL h.row
  e6 := at_ne (Ne.symm n6) e6
  a1 := a1.imp fun _ _ q => q.setL h.row
  hs := hs.set8 h.row (by simp [h.five]) n7
  n5 := n5
  n6 := n6
  n7 := n7
  b5 := b5
  b6 := b6
  b7 := b7
theorem set_at {vs : List V} {a b c x : V} (h : vs.length = 5) : (vs ++ [a, b, c]).set 5 x = vs ++ [x, b, c] ∧ (vs ++ [a, b, c]).set 6 x = vs ++ [a, x, c] ∧ (vs ++ [a, b, c]).set 7 x = vs ++ [a, b, x] ∧ (∀ g, g < 5 → (vs ++ [a, b, c]).set g x = vs.set g x ++ [a, b, c]) ∧
    (vs ++ [a, b, c])[5]? = some a ∧ (vs ++ [a, b, c])[6]? = some b ∧ (vs ++ [a, b, c])[7]? = some c := by
  obtain ⟨_, _, _, _, _, rfl⟩ := len5 h
  refine ⟨rfl, rfl, rfl, fun g hg => ?_, rfl, rfl, rfl⟩
  rw [List.set_append_left _ _ (by simpa using hg)]
theorem dep_all (L : List PV) : PyData.depthAll (L.map pyd) ≤ 5 := by
  induction L with
  | nil => simp [PyData.depthAll]
  | cons p r ih =>
    simp only [List.map_cons, PyData.depthAll]
    have : (pyd p).depth ≤ 5 := by cases p <;> simp [pyd, PyData.depth, PyData.depthAll]
    (first | lia | omega)
theorem dep_list (L : List PV) : (PyData.list (L.map pyd)).depth ≤ 90 := by
  have := dep_all L
  simp only [PyData.depth]; (first | lia | omega)
theorem tv_setAt {H : List O} {i : Nat} {rs ws : List V} {o' : O} {ps : List PV} (h : All2 (TV H) ps ws) (e : H[i]? = some (.list rs)) : All2 (TV (H.set i o')) ps ws := h.imp fun _ _ q => q.setL e
structure ILaw (st : Nat) (H : List O) (gs : List Nat) (S : PS) (ps : List PV) (f : Nat) (H₂ : List O) (rest : List V) (gs₂ : List Nat) (S₂ : PS) (L : List PV) (ws : List V) : Prop where
  f0 : rest = intsV gs₂
  f1 : (∀ g ∈ gs₂, g ≤ 8)
  f2 : Chg [st] H H₂
  f3 : H.length ≤ f
  f4 : H₂[f]? = some (.list ws)
  f5 : All2 (TV H₂) L ws
  f6 : StAt H₂ st S₂
  f7 : asg gs₂ S₂ L = asg gs S ps
  f8 : (∀ p ∈ L, ok p)
  f9 : (7 ∈ gs₂ → ∀ p ∈ L, p ≠ .ref)
  f10 : ws.length ≤ 1000000
section
variable {W : Wd} {d : Nat} {H : List O} (P : PF W.K)
include P
theorem c_law_assigned {st g l : Nat} {S : PS} {gs : List Nat} {ps : List PV} {vs : List V} {T : V → List O → Prop} (hd : 10 ≤ d) (hst : StAt H st S) (hgl : H[g]? = some (.list (intsV gs))) (hg : ∀ g ∈ gs, g ≤ 8) (ng : g ≠ st)
    (hl : H[l]? = some (.list vs)) (hv : All2 (TV H) ps vs) (hp : ∀ p ∈ ps, ok p) (h7 : 7 ∈ gs → ∀ p ∈ ps, p ≠ .ref) (hz : vs.length ≤ 1000000) (hgz : gs.length ≤ 4)
    (hT : ∀ H', StAt H' st (asg gs S ps) → Chg [st] H H' → (∃ cs, cs.length = 8 ∧ H'[st]? = some (.list cs)) → T .none H') : FnP W d H (.ref f_law_assigned) [.ref st, .ref g, .ref l] T := by
  refine fnP_law_assigned P (by walk_at "m_d") ?_
  conv => arg 6; whnf
  have szl := sizeLine_eq
  have hst0 : st < H.length := by obtain ⟨_, _, _, _, _, _, h⟩ := hst; exact at_lt h.row
  have pl := hv.length
  have vz : vs.length ≤ sizeLine := by (first | lia | omega)
  refine exP_cons (ρ₁ := [(Str.ofString "left", .ref H.length), (Str.ofString "state", .ref st), (Str.ofString "goals", .ref g), (Str.ofString "values", .ref l)]) (H₁ := H ++ [.list vs])
    (ex1_assign (ev_builtin (eva_cons (ev_name rfl) eva_nil) (call_list hl vz) (g_list P) rfl b_list (by decide) (fun _ q => by cases q) rfl rfl) (by walk_at "m_lc") rfl) ?_
  refine exP_for (ev_name rfl) (iterL W g (intsV gs)) (at_old hgl) ?_ (.inl rfl) rfl
  refine forP_gen (fun (f : Nat) => [(Str.ofString "left", .ref f), (Str.ofString "state", .ref st), (Str.ofString "goals", .ref g), (Str.ofString "values", .ref l)])
    (fun f H₂ rest => ∃ (gs₂ : List Nat) (S₂ : PS) (L : List PV) (ws : List V), ILaw st H gs S ps f H₂ rest gs₂ S₂ L ws)
    H.length (fun _ _ e => e) ⟨gs, S, ps, vs, rfl, hg, Chg.push' (Chg.refl _ _), Nat.le_refl _, at_new, hv.imp fun _ _ q => q.ext Chg.push, hst.ext Chg.push, rfl, hp, h7, hz⟩ ?_ ?_
  · rintro f H₂ v rest ⟨gs₂, S₂, L, ws, e, hg₂, x, hf, hw, tw, ⟨cs, l5, l6, l7, ws5, ws6, sb⟩, ea, hp₂, h72, hz₂⟩
    have hg₂' : H₂[g]? = some (.list (intsV gs)) := x.at hgl (by simpa using ng)
    refine ⟨hg₂', ?_⟩
    cases gs₂ with
    | nil => cases e
    | cons q gs₃ =>
      rw [intsV, List.map_cons] at e
      injection e with e1 e2
      subst e1 e2
      have g8 := hg₂ q (.head _)
      have hg₃ : ∀ g ∈ gs₃, g ≤ 8 := fun x h => hg₂ x (.tail _ h)
      have nf : f ≠ st := fun z => by (first | lia | omega)
      have h2 : 2 < H.length := by obtain ⟨_, _, _, _, _, _, h⟩ := hst; exact Nat.lt_of_le_of_lt (Nat.le_of_lt h.b5) (at_lt h.e5)
      have h2' : 2 < H₂.length := Nat.lt_of_lt_of_le h2 x.1
      have f2 : 2 < f := by (first | lia | omega)
      have sa := fun {a b c x : V} => set_at (a := a) (b := b) (c := c) (x := x) sb.five
      have s8 : (cs ++ [V.ref l5, V.ref l6, V.ref l7]).length = 8 := by simp [sb.five]
      apply ExP.step (R := fun (f : Nat) => [(Str.ofString "left", .ref f), (Str.ofString "state", .ref st), (Str.ofString "goals", .ref g), (Str.ofString "values", .ref l)])
      have le0 : ∀ f', Le [(Str.ofString "left", V.ref f'), (Str.ofString "state", .ref st), (Str.ofString "goals", .ref g), (Str.ofString "values", .ref l)] ((Str.ofString "left", V.ref f') :: (Str.ofString "goal", .int (q : Nat)) :: [(Str.ofString "left", .ref f), (Str.ofString "state", .ref st), (Str.ofString "goals", .ref g), (Str.ofString "values", .ref l)]) := fun f' => .cons rfl (.cons rfl (.cons rfl (.cons rfl .nil)))
      have q63 : ((q : Nat) : Int) < 2 ^ 63 := by (first | lia | omega)
      have q0 : (0 : Int) ≤ (q : Nat) := by (first | lia | omega)
      by_cases w7 : q = 7
      · subst w7
        have c1 : CmpR W (d - 1) H₂ .Eq (.int ((7 : Nat) : Int)) (.int 7) true := cmp_eq_int.to (by decide)
        refine exP_if (b := true) (H₁ := H₂) (by walk_at "m_tr") ?_
        refine FnP.run (c_law_paired (d := d - 1) P (by walk_at "m_d") hw tw (fun p hpp => ⟨h72 (.head _) p hpp, hp₂ p hpp⟩) hz₂ h2' fun H₃ id pa hid x₃ => fun f1 => ?_)
        have sb₃ := sb.ext x₃
        have nid : id ≠ st := fun z => by have := x.1; (first | lia | omega)
        have turn := sb₃.turn (S' := { S₂ with hs := pairs L [] }) sb₃.five sb₃.sc sb₃.e5 sb₃.a0 sb₃.e6 sb₃.a1 pa sb₃.n5 sb₃.n6 nid sb₃.b5 sb₃.b6 (Nat.lt_of_lt_of_le h2' hid)
        rw [← (sa (a := .ref l5) (b := .ref l6) (c := .ref l7)).2.2.1] at turn
        refine exP_cons (ρ₁ := (Str.ofString "goal", .int ((7 : Nat) : Int)) :: [(Str.ofString "left", .ref f), (Str.ofString "state", .ref st), (Str.ofString "goals", .ref g), (Str.ofString "values", .ref l)]) (H₁ := H₃.set st (.list ((cs ++ [V.ref l5, V.ref l6, V.ref l7]).set 7 (.ref id))))
          (ex1_setitem (k := 7) (ev_call (eva_cons (ev_name rfl) eva_nil) f1 (g_law_paired P) (kp_law_paired P) rfl rfl rfl) (ev_name rfl) ev_int sb₃.row (by decide) (by decide) (by rw [s8]; decide) rfl) ?_
        refine exP_cons (ρ₁ := (Str.ofString "left", .ref (H₃.set st (.list ((cs ++ [V.ref l5, V.ref l6, V.ref l7]).set 7 (.ref id)))).length) :: (Str.ofString "goal", .int ((7 : Nat) : Int)) :: [(Str.ofString "left", .ref f), (Str.ofString "state", .ref st), (Str.ofString "goals", .ref g), (Str.ofString "values", .ref l)]) (H₁ := H₃.set st (.list ((cs ++ [V.ref l5, V.ref l6, V.ref l7]).set 7 (.ref id))) ++ [.list []]) (by walk_at "m_s1")
          (exP_nil ⟨rfl, exP_nil ⟨rfl, _, le0 _, gs₃, { S₂ with hs := pairs L [] }, [], [], rfl, hg₃, ?_, ?_, at_new, .nil, StAt.ext (S := { S₂ with hs := pairs L [] }) ⟨_, _, _, _, _, _, turn⟩ Chg.push, ea, (fun p hp => by cases hp), (fun _ p hp => by cases hp), by simp⟩⟩)
        · exact Chg.push' (Chg.set' (by simp) ((x.trans x₃).sub fun i hi => .inl (by simpa using hi)))
        · have := x.1; have := x₃.1; simp; (first | lia | omega)
      · have c1 : CmpR W (d - 1) H₂ .Eq (.int (q : Nat)) (.int 7) false := cmp_eq_int.to (by simp; (first | lia | omega))
        refine exP_if (b := false) (H₁ := H₂) (by walk_at "m_tr") ?_
        have ci := cmp_int (W := W) (d := d - 1) (H := H₂ ++ [O.tup [.int 5, .int 6]]) (a := .int (q : Nat)) (b := .ref H₂.length) (.int _) (.tup at_new (.cons (.int 5) (.cons (.int 6) .nil))) rfl rfl (by simp [PyData.depth])
        have xt : Ext H₂ (H₂ ++ [O.tup [.int 5, .int 6]]) := Chg.push
        generalize hHt : H₂ ++ [O.tup [.int 5, .int 6]] = Ht at *
        have hwt := xt.get hw
        have twt : All2 (TV Ht) L ws := tw.imp fun _ _ q => q.ext xt
        have sbt := sb.ext xt
        have xHt : Chg [st] H Ht := (x.trans xt).sub fun i hi => .inl (by simpa using hi)
        by_cases w56 : q = 5 ∨ q = 6
        · have ci : CmpR W (d - 1) Ht .In (.int (q : Nat)) (.ref H₂.length) true := ci.to (by rcases w56 with rfl | rfl <;> decide)
          refine exP_if (b := true) (H₁ := Ht) ?_ ?_
          · refine tr_cmp (ev_name rfl) ?_ ci rfl
            rw [← hHt]
            walk_at "m_ev"
          obtain ⟨S', sa', ea'⟩ : ∃ S', StAt (Ht.set st (.list ((cs ++ [V.ref l5, V.ref l6, V.ref l7]).set q (.ref f)))) st S' ∧ asg gs₃ S' [] = asg gs S ps := by
            rcases w56 with rfl | rfl
            · refine ⟨{ S₂ with a0 := L }, ?_, ea⟩
              have turn := sbt.turn (S' := { S₂ with a0 := L }) sbt.five sbt.sc hwt twt sbt.e6 sbt.a1 sbt.hs nf sbt.n6 sbt.n7 f2 sbt.b6 sbt.b7
              rw [← (sa (a := .ref l5) (b := .ref l6) (c := .ref l7)).1] at turn
              exact ⟨_, _, _, _, _, _, turn⟩
            · refine ⟨{ S₂ with a1 := L }, ?_, ea⟩
              have turn := sbt.turn (S' := { S₂ with a1 := L }) sbt.five sbt.sc sbt.e5 sbt.a0 hwt twt sbt.hs sbt.n5 nf sbt.n7 sbt.b5 f2 sbt.b7
              rw [← (sa (a := .ref l5) (b := .ref l6) (c := .ref l7)).2.1] at turn
              exact ⟨_, _, _, _, _, _, turn⟩
          refine exP_cons (ρ₁ := (Str.ofString "goal", .int (q : Nat)) :: [(Str.ofString "left", .ref f), (Str.ofString "state", .ref st), (Str.ofString "goals", .ref g), (Str.ofString "values", .ref l)]) (H₁ := Ht.set st (.list ((cs ++ [V.ref l5, V.ref l6, V.ref l7]).set ((q : Nat) : Int).toNat (.ref f))))
            (ex1_setitem (k := (q : Nat)) (ev_name rfl) (ev_name rfl) (ev_name rfl) sbt.row q0 q63 (by rw [s8]; (first | lia | omega)) rfl) ?_
          refine exP_cons (ρ₁ := (Str.ofString "left", .ref (Ht.set st (.list ((cs ++ [V.ref l5, V.ref l6, V.ref l7]).set q (.ref f)))).length) :: (Str.ofString "goal", .int (q : Nat)) :: [(Str.ofString "left", .ref f), (Str.ofString "state", .ref st), (Str.ofString "goals", .ref g), (Str.ofString "values", .ref l)]) (H₁ := Ht.set st (.list ((cs ++ [V.ref l5, V.ref l6, V.ref l7]).set q (.ref f))) ++ [.list []])
            (by show Ex1 W (d - 1) _ _ (Ht.set st (.list ((cs ++ [V.ref l5, V.ref l6, V.ref l7]).set q (.ref f)))) _ _ _ _; walk_at "m_s1")
            (exP_nil ⟨rfl, exP_nil ⟨rfl, exP_nil ⟨rfl, _, le0 _, gs₃, S', [], [], rfl, hg₃, ?_, ?_, at_new, .nil, sa'.ext Chg.push, ea', (fun p hp => by cases hp), (fun _ p hp => by cases hp), by simp⟩⟩⟩)
          · exact Chg.push' (Chg.set' (by simp) xHt)
          · have := xHt.1; simp; (first | lia | omega)
        · have w58 : q < 5 ∨ q = 8 := by (first | lia | omega)
          have ci : CmpR W (d - 1) Ht .In (.int (q : Nat)) (.ref H₂.length) false := ci.to (by
            have : q = 0 ∨ q = 1 ∨ q = 2 ∨ q = 3 ∨ q = 4 ∨ q = 8 := by (first | lia | omega)
            rcases this with rfl | rfl | rfl | rfl | rfl | rfl <;> decide)
          refine exP_if (b := false) (H₁ := Ht) ?_ ?_
          · refine tr_cmp (ev_name rfl) ?_ ci rfl
            rw [← hHt]
            walk_at "m_ev"
          have xu : Ext Ht (Ht ++ [O.list []]) := Chg.push
          have dl : (PyData.list (L.map pyd)).depth ≤ 90 := dep_list L
          have cn := cmp_ne (W := W) (d := d - 1) (H := Ht ++ [O.list []]) (a := .ref f) (b := .ref Ht.length) (.list (at_old hwt) (TV.rda (twt.imp fun _ _ q => q.ext Chg.push))) (.list at_new .nil) (by simpa [PyData.canLay0] using okAll.lay hp₂) rfl dl
          have hwu := xu.get hwt
          have wz₂ : ws.length ≤ sizeLine := by (first | lia | omega)
          obtain ⟨vv, tvv, evv⟩ : ∃ vv, TV Ht (L.head?.getD .none) vv ∧ ((ws[((0 : Int)).toNat]? = some vv ∧ CmpR W (d - 1) (Ht ++ [O.list []]) .NotEq (.ref f) (.ref Ht.length) true) ∨ (vv = .none ∧ CmpR W (d - 1) (Ht ++ [O.list []]) .NotEq (.ref f) (.ref Ht.length) false)) := by
            cases twt with
            | nil => exact ⟨.none, rfl, .inr ⟨rfl, cn.to (by rfl)⟩⟩
            | @cons p v L' ws' tp _ => exact ⟨v, tp, .inl ⟨rfl, cn.to (by rfl)⟩⟩
          refine exP_cons (ρ₁ := (Str.ofString "value", vv) :: (Str.ofString "goal", .int (q : Nat)) :: [(Str.ofString "left", .ref f), (Str.ofString "state", .ref st), (Str.ofString "goals", .ref g), (Str.ofString "values", .ref l)]) (H₁ := Ht ++ [O.list []]) (ex1_assign ?_ (by walk_at "m_lc") rfl) ?_
          · rcases evv with ⟨h1, h2⟩ | ⟨rfl, h2⟩
            · exact ev_ifT (H₁ := Ht ++ [O.list []]) (tr_cmp (ev_name rfl) (ev_list eva_nil (Nat.le_of_ble_eq_true rfl)) h2 rfl) (ev_item (ev_name rfl) ev_int hwu (by decide) (by decide) h1 rfl)
            · exact ev_ifF (H₁ := Ht ++ [O.list []]) (tr_cmp (ev_name rfl) (ev_list eva_nil (Nat.le_of_ble_eq_true rfl)) h2 rfl) ev_none
          refine exP_cons (ρ₁ := (Str.ofString "left", .ref (Ht ++ [O.list []]).length) :: (Str.ofString "value", vv) :: (Str.ofString "goal", .int (q : Nat)) :: [(Str.ofString "left", .ref f), (Str.ofString "state", .ref st), (Str.ofString "goals", .ref g), (Str.ofString "values", .ref l)]) (H₁ := (Ht ++ [O.list []]) ++ [O.list (ws.drop 1)])
            (ex1_assign (ev_slice (lo := some 1) (hi := none) (ev_name rfl) ev_int trivial hwu rfl wz₂) (by walk_at "m_lc") rfl) ?_
          have x2 : Ext Ht ((Ht ++ [O.list []]) ++ [O.list (ws.drop 1)]) := Chg.push' Chg.push
          have hw3 : ((Ht ++ [O.list []]) ++ [O.list (ws.drop 1)])[(Ht ++ [O.list []]).length]? = some (.list (ws.drop 1)) := at_new
          have lf : H.length ≤ (Ht ++ [O.list []]).length := by have := xHt.1; simp; (first | lia | omega)
          generalize hlf : (Ht ++ [O.list []]).length = lf' at *
          generalize (Ht ++ [O.list []]) ++ [O.list (ws.drop 1)] = Hv at *
          have sbv := sbt.ext x2
          have xHv : Chg [st] H Hv := (xHt.trans x2).sub fun i hi => .inl (by simpa using hi)
          have twv : All2 (TV Hv) (L.drop 1) (ws.drop 1) := (twt.imp fun _ _ q => q.ext x2).drop 1
          have hp3 : ∀ p ∈ L.drop 1, ok p := fun p hp => hp₂ p (List.mem_of_mem_drop hp)
          have h73 : 7 ∈ gs₃ → ∀ p ∈ L.drop 1, p ≠ .ref := fun h p hp => h72 (.tail _ h) p (List.mem_of_mem_drop hp)
          have wz3 : (ws.drop 1).length ≤ 1000000 := by simp; (first | lia | omega)
          have tl : L.drop 1 = L.tail := List.drop_one
          have le1 : Le [(Str.ofString "left", V.ref lf'), (Str.ofString "state", .ref st), (Str.ofString "goals", .ref g), (Str.ofString "values", .ref l)] ((Str.ofString "left", V.ref lf') :: (Str.ofString "value", vv) :: (Str.ofString "goal", .int (q : Nat)) :: [(Str.ofString "left", .ref f), (Str.ofString "state", .ref st), (Str.ofString "goals", .ref g), (Str.ofString "values", .ref l)]) := .cons rfl (.cons rfl (.cons rfl (.cons rfl .nil)))
          by_cases w5 : q < 5
          · have c5 : CmpR W (d - 1) Hv .Lt (.int (q : Nat)) (.int 5) true := cmp_lt.to (by simp; (first | lia | omega))
            refine exP_if (b := true) (H₁ := Hv) (by walk_at "m_tr") ?_
            have turn := sbv.turn (S' := { S₂ with sc := S₂.sc.set q (L.head?.getD .none) }) (vs' := cs.set q vv) (by simpa using sbv.five) (sbv.sc.setAt q (tvv.ext x2)) sbv.e5 sbv.a0 sbv.e6 sbv.a1 sbv.hs sbv.n5 sbv.n6 sbv.n7 sbv.b5 sbv.b6 sbv.b7
            rw [← (sa (a := .ref l5) (b := .ref l6) (c := .ref l7)).2.2.2.1 q w5] at turn
            refine exP_cons (ρ₁ := (Str.ofString "left", V.ref lf') :: (Str.ofString "value", vv) :: (Str.ofString "goal", .int (q : Nat)) :: [(Str.ofString "left", .ref f), (Str.ofString "state", .ref st), (Str.ofString "goals", .ref g), (Str.ofString "values", .ref l)]) (H₁ := Hv.set st (.list ((cs ++ [V.ref l5, V.ref l6, V.ref l7]).set ((q : Nat) : Int).toNat vv)))
              (ex1_setitem (k := (q : Nat)) (ev_name rfl) (ev_name rfl) (ev_name rfl) sbv.row q0 q63 (by rw [s8]; (first | lia | omega)) rfl)
              (exP_nil ⟨rfl, exP_nil ⟨rfl, exP_nil ⟨rfl, exP_nil ⟨rfl, lf', le1, gs₃, { S₂ with sc := S₂.sc.set q (L.head?.getD .none) }, L.drop 1, ws.drop 1, rfl, hg₃, Chg.set' (by simp) xHv, lf, at_ne (by walk_at "m_d") hw3, tv_setAt twv sbv.row, ⟨_, _, _, _, _, _, turn⟩, ?_, hp3, h73, wz3⟩⟩⟩⟩)
            rw [← ea, tl]
            show _ = asg gs₃ (step1 q S₂ L).1 (step1 q S₂ L).2
            unfold step1
            rw [if_pos w5]
          · have w8 : q = 8 := by (first | lia | omega)
            subst w8
            have c5 : CmpR W (d - 1) Hv .Lt (.int ((8 : Nat) : Int)) (.int 5) false := cmp_lt.to (by decide)
            refine exP_if (b := false) (H₁ := Hv) (by walk_at "m_tr") ?_
            refine exP_nil ⟨rfl, exP_nil ⟨rfl, exP_nil ⟨rfl, exP_nil ⟨rfl, lf', le1, gs₃, S₂, L.drop 1, ws.drop 1, rfl, hg₃, xHv, lf, hw3, twv, ⟨_, _, _, _, _, _, sbv⟩, ?_, hp3, h73, wz3⟩⟩⟩⟩
            rw [← ea, tl]
            rfl
  · rintro f H₂ ⟨gs₂, S₂, L, ws, e, hg₂, x, hf, hw, tw, sa, ea, hp₂, h72, hz₂⟩
    have hg₂' : H₂[g]? = some (.list (intsV gs)) := x.at hgl (by simpa using ng)
    refine ⟨hg₂', ?_⟩
    cases gs₂ with
    | cons q gs₃ => cases e
    | nil =>
      have ea' : S₂ = asg gs S ps := ea
      refine exP_nil ?_
      refine hT H₂ (ea' ▸ sa) x ?_
      refine cps fun G hG => ?_
      obtain ⟨cs, l5, l6, l7, ws5, ws6, sb⟩ := sa
      refine hG ?_
      clear hG
      exact ⟨_, by simp [sb.five], sb.row⟩
end
theorem flatP_len (hs : List (Str × PV)) : (flatP hs).length = 2 * hs.length := by
  induction hs with
  | nil => rfl
  | cons p r ih => unfold flatP at ih ⊢; rw [List.flatMap_cons, List.length_append, ih]; simp only [List.length_cons, List.length_nil]; (first | lia | omega)
structure ILMem (H : List O) (S : PS) (gs : List Nat) (B : Nat) (f : Nat) (H₂ : List O) (rest : List V) (gs₁ gs₂ : List Nat) (ws : List V) : Prop where
  f0 : gs = gs₁ ++ gs₂
  f1 : rest = intsV gs₂
  f2 : Ext H H₂
  f3 : H.length ≤ f
  f4 : H₂[f]? = some (.list ws)
  f5 : All2 (TV H₂) (gs₁.flatMap (memP S)) ws
  f6 : ws.length ≤ gs₁.length * B
section
variable {W : Wd} {d : Nat} {H : List O} (P : PF W.K)
include P
theorem c_law_members {st g : Nat} {S : PS} {gs : List Nat} {B : Nat} {T : V → List O → Prop} (hd : 10 ≤ d) (hst : StAt H st S) (hgl : H[g]? = some (.list (intsV gs))) (hg : ∀ g ∈ gs, g ≤ 8)
    (hB : B ≤ 100000) (h0 : S.a0.length ≤ B) (h1 : S.a1.length ≤ B) (h2 : 2 * S.hs.length ≤ B) (hB1 : 1 ≤ B) (hgz : gs.length ≤ 4)
    (hT : ∀ H' id ws, H'[id]? = some (.list ws) → H.length ≤ id → Ext H H' → All2 (TV H') (gs.flatMap (memP S)) ws → T (.ref id) H') : FnP W d H (.ref f_law_members) [.ref st, .ref g] T := by
  refine fnP_law_members P (by walk_at "m_d") ?_
  conv => arg 6; whnf
  have szl := sizeLine_eq
  obtain ⟨cs, l5, l6, l7, ws5, ws6, sb0⟩ := hst
  refine exP_cons (ρ₁ := [(Str.ofString "found", .ref H.length), (Str.ofString "state", .ref st), (Str.ofString "goals", .ref g)]) (H₁ := H ++ [.list []]) (by walk_at "m_s1") ?_
  refine exP_for (ev_name rfl) (iterL W g (intsV gs)) (at_old hgl) ?_ (.inl rfl) rfl
  refine forP_gen (fun (f : Nat) => [(Str.ofString "found", .ref f), (Str.ofString "state", .ref st), (Str.ofString "goals", .ref g)])
    (fun f H₂ rest => ∃ gs₁ gs₂ ws, ILMem H S gs B f H₂ rest gs₁ gs₂ ws)
    H.length (fun _ _ e => e) ⟨[], gs, [], rfl, rfl, Chg.push, Nat.le_refl _, at_new, .nil, by simp⟩ ?_ ?_
  · rintro f H₂ v rest ⟨gs₁, gs₂, ws, e, e1, x, hf, hw, tw, hwl⟩
    refine ⟨x.get hgl, ?_⟩
    cases gs₂ with
    | nil => cases e1
    | cons q gs₃ =>
      rw [intsV, List.map_cons] at e1
      injection e1 with e1 e2
      subst e1 e2
      have g8 := hg q (by rw [e]; simp)
      have gl1 : gs₁.length ≤ 3 := by have := congrArg List.length e; simp at this; (first | lia | omega)
      have wz : ws.length ≤ 3 * B := Nat.le_trans hwl (Nat.mul_le_mul_right _ gl1)
      have wz' : ws.length ≤ sizeLine := by (first | lia | omega)
      have sb := sb0.ext x
      have sa := fun {x : V} => set_at (a := .ref l5) (b := .ref l6) (c := .ref l7) (x := x) sb.five
      have q63 : ((q : Nat) : Int) < 2 ^ 63 := by (first | lia | omega)
      have q0 : (0 : Int) ≤ (q : Nat) := by (first | lia | omega)
      have fin : ∀ f₃ H₃ us, Ext H H₃ → H.length ≤ f₃ → H₃[f₃]? = some (.list (ws ++ us)) → All2 (TV H₃) (gs₁.flatMap (memP S)) ws → All2 (TV H₃) (memP S q) us → us.length ≤ B →
          ∃ gs₁ gs₂ ws, ILMem H S gs B f₃ H₃ (intsV gs₃) gs₁ gs₂ ws := fun f₃ H₃ us x₃ hf₃ h3 t1 hu hul => by
        refine ⟨gs₁ ++ [q], gs₃, ws ++ us, by simp [e], rfl, x₃, hf₃, h3, ?_, ?_⟩
        · rw [List.flatMap_append]
          exact t1.append (by simpa using hu)
        · have : (gs₁ ++ [q]).length * B = gs₁.length * B + B := by simp [Nat.add_mul]
          rw [List.length_append, this]; (first | lia | omega)
      apply ExP.step (R := fun (f : Nat) => [(Str.ofString "found", .ref f), (Str.ofString "state", .ref st), (Str.ofString "goals", .ref g)])
      have le0 : Le [(Str.ofString "found", V.ref f), (Str.ofString "state", .ref st), (Str.ofString "goals", .ref g)] ((Str.ofString "goal", .int (q : Nat)) :: [(Str.ofString "found", .ref f), (Str.ofString "state", .ref st), (Str.ofString "goals", .ref g)]) := .cons rfl (.cons rfl (.cons rfl .nil))
      have le1 : ∀ f', Le [(Str.ofString "found", V.ref f'), (Str.ofString "state", .ref st), (Str.ofString "goals", .ref g)] ((Str.ofString "found", V.ref f') :: (Str.ofString "goal", .int (q : Nat)) :: [(Str.ofString "found", .ref f), (Str.ofString "state", .ref st), (Str.ofString "goals", .ref g)]) := fun f' => .cons rfl (.cons rfl (.cons rfl .nil))
      by_cases w5 : q < 5
      · have c1 : CmpR W (d - 1) H₂ .Lt (.int (q : Nat)) (.int 5) true := cmp_lt.to (by simp; (first | lia | omega))
        refine exP_if (b := true) (H₁ := H₂) (by walk_at "m_tr") ?_
        have lq : q < cs.length := by rw [sb.five]; exact w5
        obtain ⟨v, hv⟩ : ∃ v, cs[q]? = some v := ⟨_, List.getElem?_eq_getElem lq⟩
        obtain ⟨p, hp, tp⟩ := sb.sc.get' hv
        have hv' : (cs ++ [V.ref l5, V.ref l6, V.ref l7])[((q : Nat) : Int).toNat]? = some v := by
          show (cs ++ [V.ref l5, V.ref l6, V.ref l7])[q]? = some v
          rw [List.getElem?_append_left lq]; exact hv
        have hrow := sb.row
        refine exP_cons (ρ₁ := (Str.ofString "goal", .int (q : Nat)) :: [(Str.ofString "found", .ref f), (Str.ofString "state", .ref st), (Str.ofString "goals", .ref g)]) (H₁ := H₂.set f (.list (ws ++ [v]))) (by walk_at "m_s1") (exP_nil ⟨rfl, exP_nil ⟨rfl, f, le0, ?_⟩⟩)
        refine fin f _ [v] (Chg.setN hf x) hf (at_same hw) (tv_setAt tw hw) ?_ (by simpa using hB1)
        unfold memP
        rw [if_pos w5, hp]
        exact .cons (tp.setL hw) .nil
      · have c1 : CmpR W (d - 1) H₂ .Lt (.int (q : Nat)) (.int 5) false := cmp_lt.to (by simp; (first | lia | omega))
        refine exP_if (b := false) (H₁ := H₂) (by walk_at "m_tr") ?_
        by_cases w7 : q < 7
        · have c2 : CmpR W (d - 1) H₂ .Lt (.int (q : Nat)) (.int 7) true := cmp_lt.to (by simp; (first | lia | omega))
          refine exP_if (b := true) (H₁ := H₂) (by walk_at "m_tr") ?_
          obtain ⟨a, us, ha, hu, tu, hul⟩ : ∃ a us, (cs ++ [V.ref l5, V.ref l6, V.ref l7])[((q : Nat) : Int).toNat]? = some (.ref a) ∧ H₂[a]? = some (.list us) ∧ All2 (TV H₂) (memP S q) us ∧ us.length ≤ B := by
            have : q = 5 ∨ q = 6 := by (first | lia | omega)
            rcases this with rfl | rfl
            · exact ⟨l5, ws5, (sa (x := .none)).2.2.2.2.1, sb.e5, sb.a0, by rw [← sb.a0.length]; exact h0⟩
            · exact ⟨l6, ws6, (sa (x := .none)).2.2.2.2.2.1, sb.e6, sb.a1, by rw [← sb.a1.length]; exact h1⟩
          have hrow := sb.row
          have z1 : ws.length + us.length ≤ sizeLine := by (first | lia | omega)
          refine exP_cons (ρ₁ := (Str.ofString "found", .ref H₂.length) :: (Str.ofString "goal", .int (q : Nat)) :: [(Str.ofString "found", .ref f), (Str.ofString "state", .ref st), (Str.ofString "goals", .ref g)]) (H₁ := H₂ ++ [.list (ws ++ us)]) (by walk_at "m_s1") (exP_nil ⟨rfl, exP_nil ⟨rfl, exP_nil ⟨rfl, _, le1 _, ?_⟩⟩⟩)
          exact fin _ _ us x.pushR x.1 at_new (tw.imp fun _ _ q => q.ext Chg.push) (tu.imp fun _ _ q => q.ext Chg.push) hul
        · have c2 : CmpR W (d - 1) H₂ .Lt (.int (q : Nat)) (.int 7) false := cmp_lt.to (by simp; (first | lia | omega))
          refine exP_if (b := false) (H₁ := H₂) (by walk_at "m_tr") ?_
          have : q = 7 ∨ q = 8 := by (first | lia | omega)
          rcases this with rfl | rfl
          · have c3 : CmpR W (d - 1) H₂ .Eq (.int ((7 : Nat) : Int)) (.int 7) true := cmp_eq_int.to (by decide)
            refine exP_if (b := true) (H₁ := H₂) (by walk_at "m_tr") ?_
            refine FnP.run (c_law_flat (d := d - 1) P (by walk_at "m_d") sb.hs (by walk_at "m_d") fun H₃ id us hid hil x₃ tu => fun f1 => ?_)
            have ul := tu.length
            have fl := flatP_len S.hs
            have z1 : ws.length + us.length ≤ sizeLine := by (first | lia | omega)
            have hw₃ := x₃.get hw
            have h77 : (cs ++ [V.ref l5, V.ref l6, V.ref l7])[(7 : Int).toNat]? = some (.ref l7) := (sa (x := .none)).2.2.2.2.2.2
            have hrow := sb.row
            refine exP_cons (ρ₁ := (Str.ofString "found", .ref H₃.length) :: (Str.ofString "goal", .int ((7 : Nat) : Int)) :: [(Str.ofString "found", .ref f), (Str.ofString "state", .ref st), (Str.ofString "goals", .ref g)]) (H₁ := H₃ ++ [.list (ws ++ us)])
              (ex1_assign (ev_addl (ev_name rfl) (ev_call (eva_cons (ev_item (ev_name rfl) ev_int hrow (by decide) (by decide) h77 rfl) eva_nil) f1 (g_law_flat P) (kp_law_flat P) rfl rfl rfl) hw₃ hid z1) (by walk_at "m_lc") rfl) (exP_nil ⟨rfl, exP_nil ⟨rfl, exP_nil ⟨rfl, exP_nil ⟨rfl, _, le1 _, ?_⟩⟩⟩⟩)
            exact fin _ _ us (x.tr x₃).pushR (Nat.le_trans x.1 x₃.1) at_new ((tw.imp fun _ _ q => q.ext x₃).imp fun _ _ q => q.ext Chg.push) (tu.imp fun _ _ q => q.ext Chg.push) (by walk_at "m_d")
          · have c3 : CmpR W (d - 1) H₂ .Eq (.int ((8 : Nat) : Int)) (.int 7) false := cmp_eq_int.to (by decide)
            refine exP_if (b := false) (H₁ := H₂) (by walk_at "m_tr") ?_
            refine exP_cons (ρ₁ := (Str.ofString "goal", .int ((8 : Nat) : Int)) :: [(Str.ofString "found", .ref f), (Str.ofString "state", .ref st), (Str.ofString "goals", .ref g)]) (H₁ := H₂.set f (.list (ws ++ [.none]))) (by walk_at "m_s1") (exP_nil ⟨rfl, exP_nil ⟨rfl, exP_nil ⟨rfl, exP_nil ⟨rfl, f, le0, ?_⟩⟩⟩⟩)
            exact fin f _ [.none] (Chg.setN hf x) hf (at_same hw) (tv_setAt tw hw) (.cons rfl .nil) (by simpa using hB1)
  · rintro f H₂ ⟨gs₁, gs₂, ws, e, e1, x, hf, hw, tw, hwl⟩
    refine ⟨x.get hgl, ?_⟩
    cases gs₂ with
    | cons q gs₃ => cases e1
    | nil =>
      rw [List.append_nil] at e
      subst e
      exact exP_ret (ev_name rfl) (hT H₂ f ws hw hf x tw)
end
theorem pairs_ok : ∀ (L : List PV) (acc : List (Str × PV)), (∀ p ∈ L, ok p) → (∀ q ∈ acc, PyData.strOk q.1 = true ∧ ok q.2) → ∀ q ∈ pairs L acc, PyData.strOk q.1 = true ∧ ok q.2
  | [], acc, _, h => h
  | [k], acc, hL, h => by
    unfold pairs
    exact put k .none acc (hL k (.head _)) trivial h
  | k :: v :: r, acc, hL, h => by
    unfold pairs
    exact pairs_ok r _ (fun p hp => hL p (.tail _ (.tail _ hp))) (put k v acc (hL k (.head _)) (hL v (.tail _ (.head _))) h)
where
  put (k v : PV) (acc : List (Str × PV)) (hk : ok k) (hv : ok v) (h : ∀ q ∈ acc, PyData.strOk q.1 = true ∧ ok q.2) : ∀ q ∈ putD acc (txt k) v, PyData.strOk q.1 = true ∧ ok q.2 := by
    intro q hq
    unfold putD at hq
    split at hq
    · obtain ⟨q', hq', rfl⟩ := List.mem_map.mp hq
      split
      · exact ⟨(h q' hq').1, hv⟩
      · exact h q' hq'
    · rcases List.mem_append.mp hq with hq | hq
      · exact h q hq
      · simp at hq; subst hq; exact ⟨ok_txt hk, hv⟩
theorem asg_ok : ∀ (gs : List Nat) (S : PS) (L : List PV), OkS S → (∀ p ∈ L, ok p) → OkS (asg gs S L)
  | [], S, L, h, _ => h
  | g :: gs, S, L, h, hL => by
    unfold asg
    have hd : ok (L.head?.getD .none) := by
      cases L with
      | nil => trivial
      | cons p r => exact hL p (.head _)
    have ht : ∀ p ∈ L.tail, ok p := fun p hp => hL p (List.mem_of_mem_tail hp)
    have hn : ∀ p ∈ ([] : List PV), ok p := fun p hp => by cases hp
    unfold step1
    split
    · refine asg_ok gs _ _ ⟨fun p hp => ?_, h.2.1, h.2.2.1, h.2.2.2⟩ ht
      rcases List.mem_or_eq_of_mem_set hp with hp | rfl
      · exact h.1 p hp
      · exact hd
    split
    · exact asg_ok gs _ _ ⟨h.1, hL, h.2.2.1, h.2.2.2⟩ hn
    split
    · exact asg_ok gs _ _ ⟨h.1, h.2.1, hL, h.2.2.2⟩ hn
    split
    · exact asg_ok gs _ _ ⟨h.1, h.2.1, h.2.2.1, pairs_ok L [] hL fun q hq => by cases hq⟩ hn
    · exact asg_ok gs _ _ h ht
theorem asg_len : ∀ (gs : List Nat) (S : PS) (L : List PV) (n : Nat), 2 * S.hs.length ≤ n → L.length + 1 ≤ n → 2 * (asg gs S L).hs.length ≤ n
  | [], S, L, n, h, _ => h
  | g :: gs, S, L, n, h, hL => by
    unfold asg
    have ht : L.tail.length + 1 ≤ n := by rw [List.length_tail]; (first | lia | omega)
    have hn : ([] : List PV).length + 1 ≤ n := by simp; (first | lia | omega)
    unfold step1
    split
    · exact asg_len gs _ _ n h ht
    split
    · exact asg_len gs _ _ n h hn
    split
    · exact asg_len gs _ _ n h hn
    split
    · refine asg_len gs _ _ n ?_ hn
      have := pairs_len L []
      simp at this
      show 2 * (pairs L []).length ≤ n
      (first | lia | omega)
    · exact asg_len gs _ _ n h ht
theorem CoreC.chg {ix : Ix} {X : List Nat} {H H' : List O} {last c : Int} {live zs : List M} (C : CoreC ix H last live zs c) (x : Chg X H H') (n : ∀ i ∈ X, i ≠ ix.z ∧ ∃ r rs, H[i]? = some (.list (r :: rs))) : CoreC ix H' last live zs c := by
  have k : ∀ (i : Nat) (o : O), (∀ r rs, o ≠ .list (r :: rs)) → H[i]? = some o → H'[i]? = some o := fun i o no e => x.at e fun m => by
    obtain ⟨_, r, rs, q⟩ := n i m
    rw [q] at e; cases e; exact no _ _ rfl
  have val : ∀ p v, IsV ix.th H p v → IsV ix.th H' p v := fun p v h => by
    cases p with
    | ref => obtain ⟨r, e, q⟩ := h; exact ⟨r, e, k _ _ (fun _ _ q => by cases q) q⟩
    | _ => exact h
  have mem : ∀ c m, MemAt ix H c m → MemAt ix H' c m := fun c m h => by
    obtain ⟨wk, v, a, b, w, l⟩ := h
    exact ⟨wk, v, k _ _ (fun _ _ q => by cases q) a, val _ _ b, k _ _ (fun _ _ q => by cases q) w, l⟩
  exact {
    ct := k _ _ (fun _ _ q => by cases q) C.ct
    pl := k _ _ (fun _ _ q => by cases q) C.pl
    hp := k _ _ (fun _ _ q => by cases q) C.hp
    z := x.at C.z fun m => (n _ m).1 rfl
    th := k _ _ (fun _ _ q => by cases q) C.th
    liv := fun m h => mem 1 m (C.liv m h)
    ded := fun m h => mem 0 m (C.ded m h)
    ids := C.ids
    nums := C.nums
    numle := C.numle
    cnt := C.cnt }
theorem StB.cons {H : List O} {st : Nat} {S : PS} {vs : List V} {l5 l6 l7 : Nat} {ws5 ws6 : List V} (h : StB H st S vs l5 l6 l7 ws5 ws6) : ∃ r rs, H[st]? = some (.list (r :: rs)) := by
  have r := h.row
  have f := h.five
  match vs, f with
  | v :: vs, _ => exact ⟨_, _, r⟩
theorem ArrAt.chg {ix : Ix} {H H' : List O} {a st : Nat} {ms live : List M} {last c : Int} {zs : List M} {S : PS} (A : ArrAt ix H a ms) (C : CoreC ix H last live zs c) (hm : ∀ m ∈ ms, m ∈ live) (S₁ : StAt H st S) (x : Chg [st] H H') : ArrAt ix H' a ms := by
  obtain ⟨vs, l5, l6, l7, ws5, ws6, sb⟩ := S₁
  obtain ⟨n, c, wk, it, h1, h2, h3⟩ := A
  refine ⟨n, c, wk, it, x.at h1 fun m => ?_, x.at h2 fun m => ?_, h3⟩
  · rw [List.mem_singleton.mp m, sb.row] at h1; cases h1
  · rw [List.mem_singleton.mp m, sb.row] at h2
    have e : vs ++ [V.ref l5, V.ref l6, V.ref l7] = mref ms := by injection h2 with h2; injection h2
    have : V.ref l5 ∈ mref ms := by rw [← e]; simp
    obtain ⟨y, hy, q⟩ := List.mem_map.mp this
    injection q with q
    obtain ⟨_, _, s, _⟩ := C.liv y (hm y hy)
    rw [q, sb.e5] at s; cases s
theorem LSt.chgS {ix : Ix} {px : Px} {H H' : List O} {last : Int} {m : MS} {zs : List M} {st : Nat} {S : PS} (L : LSt ix px H last m zs) (S₁ : StAt H st S) (x : Chg [st] H H') (b : st ≠ ix.z) : LSt ix px H' last m zs where
  core := CoreC.chg L.core x fun i hi => by rw [List.mem_singleton.mp hi]; obtain ⟨_, _, _, _, _, _, sb⟩ := S₁; exact ⟨b, sb.cons⟩
  ids := L.ids
  five := L.five
  arr0 := L.arr0.chg L.core (fun y hy => by unfold MS.live; simp; exact .inr (.inl hy)) S₁ x
  arr1 := L.arr1.chg L.core (fun y hy => by unfold MS.live; simp; exact .inr (.inr (.inl hy))) S₁ x
  hash := by
    obtain ⟨n, c, wk, tb, ep, h1, h2⟩ := L.hash
    obtain ⟨_, _, _, _, _, _, sb⟩ := S₁
    exact ⟨n, c, wk, tb, ep, x.at h1 (fun m => by rw [List.mem_singleton.mp m, sb.row] at h1; cases h1), x.at h2 (fun m => by rw [List.mem_singleton.mp m, sb.row] at h2; cases h2)⟩
  nd := L.nd
  n0 := L.n0
  n1 := L.n1
  n01 := L.n01
theorem TV.subx {ix : Ix} {X : List Nat} {H H' : List O} {p : PV} {v : V} (h : TV H p v) (s : SubX ix X H H') (hX : ∀ i ∈ X, ∃ C fs, H[i]? = some (.inst C fs)) : TV H' p v := by
  cases p with
  | ref => obtain ⟨t, a, b⟩ := h; exact ⟨t, a, s.at b (fun m => by obtain ⟨_, _, e⟩ := hX _ m; rw [b] at e; cases e) trivial⟩
  | _ => exact h
theorem StAt.subx {ix : Ix} {X : List Nat} {H H' : List O} {st : Nat} {S : PS} (h : StAt H st S) (s : SubX ix X H H') (hX : ∀ i ∈ X, ∃ C fs, H[i]? = some (.inst C fs)) (zz : ix.z = 2) (b : 2 < st) : StAt H' st S := by
  obtain ⟨vs, l5, l6, l7, ws5, ws6, sb⟩ := h
  have k : ∀ (i : Nat) (rs : List V), 2 < i → H[i]? = some (.list rs) → H'[i]? = some (.list rs) := fun i rs l e => s.at e (fun m => by obtain ⟨_, _, q⟩ := hX _ m; rw [e] at q; cases q) (by show ix.z < i; rw [zz]; exact l)
  exact ⟨vs, l5, l6, l7, ws5, ws6, {
    row := k _ _ b sb.row
    five := sb.five
    sc := sb.sc.imp fun _ _ q => q.subx s hX
    e5 := k _ _ sb.b5 sb.e5
    a0 := sb.a0.imp fun _ _ q => q.subx s hX
    e6 := k _ _ sb.b6 sb.e6
    a1 := sb.a1.imp fun _ _ q => q.subx s hX
    hs := by
      obtain ⟨rs, a, c⟩ := sb.hs
      refine ⟨rs, k _ _ sb.b7 a, c.imp fun _ _ q => ?_⟩
      obtain ⟨j, v', e, a, t, l⟩ := q
      exact ⟨j, v', e, k _ _ l a, t.subx s hX, l⟩
    n5 := sb.n5
    n6 := sb.n6
    n7 := sb.n7
    b5 := sb.b5
    b6 := sb.b6
    b7 := sb.b7 }⟩
theorem comp_map {α : Type} {W : Wd} {d : Nat} {csc : Scope} {x : Str} {ρc : Loc} {elt : PySem.Expr} {S : List O → Prop} {H : List O} {f g : α → V} (s : S H) : ∀ (zs : List α), (∀ m ∈ zs, Ev W d csc ((x, f m) :: ρc) H elt (g m) H) → CompR W d csc x ρc elt [] S H (zs.map f) (zs.map g) H
  | [], _ => .done s
  | m :: r, h => .take s ⟨rfl, rfl⟩ (h m (.head _)) (comp_map s r fun m hm => h m (.tail _ hm))
theorem comp_noref {W : Wd} {d : Nat} {csc : Scope} {x : Str} {ρc : Loc} {elt test : PySem.Expr} {S : List O → Prop} {H : List O} {th : Nat} (s : S H) (he : ∀ v, Ev W d csc ((x, v) :: ρc) H elt v H) (ht : ∀ p v, IsV th H p v → Tr W d csc ((x, v) :: ρc) H test (decide (p ≠ .ref)) H) :
    ∀ {ps : List PV} {vs : List V}, All2 (IsV th H) ps vs → ∃ ys, CompR W d csc x ρc elt [test] S H vs ys H ∧ All2 (IsV th H) (ps.filter fun p => decide (p ≠ .ref)) ys := by
  intro ps vs h
  induction h with
  | nil => exact ⟨[], .done s, .nil⟩
  | @cons p v ps vs hp _ ih =>
    obtain ⟨ys, r, a⟩ := ih
    have t := ht p v hp
    rw [List.filter_cons]
    cases q : decide (p ≠ .ref) with
    | true => rw [q] at t; exact ⟨v :: ys, .take s t (he v) r, .cons hp a⟩
    | false => rw [q] at t; exact ⟨ys, .skip s t r, a⟩
theorem ints_rda {H : List O} (gs : List Nat) : RdA H (intsV gs) (gs.map fun (g : Nat) => PyData.int (g : Int)) := by
  induction gs with
  | nil => exact .nil
  | cons g r ih => exact .cons (.int _) ih
theorem cmp_in7 {W : Wd} {d : Nat} {H : List O} {i : Nat} {gs : List Nat} (h : H[i]? = some (.list (intsV gs))) : CmpR W d H .In (.int 7) (.ref i) (decide (7 ∈ gs)) := by
  refine (cmp_in (.int 7) (.list h (ints_rda gs)) rfl ?_ (by simp [PyData.depth])).to ?_
  · clear h
    induction gs with
    | nil => rfl
    | cons g r ih => simp only [List.map_cons, PyData.canLayAll0, Bool.and_eq_true]; exact ⟨rfl, ih⟩
  · clear h
    induction gs with
    | nil => rfl
    | cons g r ih =>
      rw [List.map_cons, List.any_cons, ih]
      have : PyData.eqv (.int (g : Int)) (.int 7) = decide ((g : Int) = 7) := rfl
      rw [this]
      simp only [List.mem_cons, Bool.decide_or]
      congr 1
      rw [decide_eq_decide]
      (first | lia | omega)
section
variable {W : Wd} {d : Nat} {sc : Scope} {ρ : Loc} {H : List O} {ss : List Stmt} {T : Out → Loc → List O → Prop}
theorem exP_seq {s : Stmt} (P : Loc → List O → Prop) (x : ∃ ρ' H', Ex1 W d sc ρ H s none ρ' H' ∧ P ρ' H') (y : ∀ ρ' H', P ρ' H' → ExP W d sc ρ' H' ss T) : ExP W d sc ρ H (s :: ss) T := by
  obtain ⟨ρ', H', x, p⟩ := x
  exact exP_cons x (y ρ' H' p)
theorem ExP.gen {F : (Out → Loc → List O → Prop) → Prop} (hT : F T) (h : ∀ T, F T → ExP W d sc ρ H ss T) : ExP W d sc ρ H ss T := h T hT
theorem ExP.more {ρ₂ : Loc} (x : ExP W d sc ρ₂ H ss T) (l : Le ρ₂ ρ) : ExP W d sc ρ H ss T := by
  obtain ⟨o, ρ', H', e, t⟩ := x
  exact ⟨o, ρ', H', e.more l, t⟩
theorem ex1_if_noref {testIf elt iter test : PySem.Expr} {x y : Str} {px py pos q p : Pos} {scope : Scope} {th i : Nat} {ps : List PV} {vs : List V} {Q : Loc → List O → Prop} (c : Tr W d sc ρ H testIf true H) (a : Ev W d sc ρ H iter (.ref i) H) (hi : H[i]? = some (.list vs))
    (he : ∀ v, Ev W d (relabelS scope sc) ((x, v) :: cap scope ρ) H elt v H) (ht : ∀ p v, IsV th H p v → Tr W d (relabelS scope sc) ((x, v) :: cap scope ρ) H test (decide (p ≠ .ref)) H) (hv : All2 (IsV th H) ps vs) (hc : compOk scope sc x = true) (hz : vs.length ≤ sizeLine)
    (hy : sc.names.lookup y = some .local ∨ sc.names.lookup y = some .cell) (hn : noSet iter = true) (k : ∀ ys, All2 (IsV th H) (ps.filter fun p => decide (p ≠ .ref)) ys → Q ((y, .ref H.length) :: ρ) (H ++ [.list ys])) :
    ∃ ρ' H', Ex1 W d sc ρ H (.If testIf [.Assign [.Name y py] (.ListComp elt [⟨.Name x px, iter, [test], 0⟩] scope pos) q] [] p) none ρ' H' ∧ Q ρ' H' := by
  obtain ⟨ys, r, ay⟩ := comp_noref (S := fun H => H[i]? = some (.list vs)) hi he ht hv
  exact ⟨_, _, ex1_ifT c (ex_cons (ex1_assign_comp a (iterL W i vs) hi r hc hz hy hn) ex_nil), k ys ay⟩
theorem trP_or2 {e₁ e₂ : PySem.Expr} {p : Pos} {U : Bool → List O → Prop} (x : TrP W d sc ρ H e₁ fun b H₁ => b = false ∧ TrP W d sc ρ H₁ e₂ fun b' H₂ => b' = false ∧ U false H₂) : TrP W d sc ρ H (.BoolOp .Or [e₁, e₂] p) U := by
  obtain ⟨b, H₁, x, rfl, b', H₂, y, rfl, u⟩ := x
  exact ⟨false, H₂, tr_or (b := false) x (fun _ => tr_or (b := false) y (fun _ => tr_or_nil) fun e => by cases e) (fun e => by cases e), u⟩
theorem compP_nil {csc : Scope} {x : Str} {ρc : Loc} {elt : PySem.Expr} {ifs : List PySem.Expr} {S : List O → Prop} {Z : List V → List O → Prop} (s : S H) (z : Z [] H) : CompP W d csc x ρc elt ifs S H [] Z := ⟨_, _, .done s, z⟩
theorem compP_cons {csc : Scope} {x : Str} {ρc : Loc} {elt : PySem.Expr} {S : List O → Prop} {Z : List V → List O → Prop} {v : V} {vs : List V} (s : S H) (e : EvP W d csc ((x, v) :: ρc) H elt fun y H' => CompP W d csc x ρc elt [] S H' vs fun ys H'' => Z (y :: ys) H'') : CompP W d csc x ρc elt [] S H (v :: vs) Z := by
  obtain ⟨y, H', e, ys, H'', r, z⟩ := e
  exact ⟨_, _, .take s ⟨rfl, rfl⟩ e r, z⟩
theorem compP_map {α : Type} {csc : Scope} {x : Str} {ρc : Loc} {elt : PySem.Expr} {S : List O → Prop} {Z : List V → List O → Prop} {f g : α → V} {zs : List α} (s : S H) (h : ∀ m ∈ zs, Ev W d csc ((x, f m) :: ρc) H elt (g m) H) (z : Z (zs.map g) H) : CompP W d csc x ρc elt [] S H (zs.map f) Z := ⟨_, _, comp_map s zs h, z⟩
theorem compP_vals {csc : Scope} {x : Str} {ρc : Loc} {elt : PySem.Expr} {S : List O → Prop} {Z : List V → List O → Prop} {th : Nat} {ms : List M} (s : S H) (h : ∀ m ∈ ms, ∃ v, Ev W d csc ((x, .ref m.id) :: ρc) H elt v H ∧ IsV th H m.val v) (z : ∀ ys, All2 (IsV th H) (ms.map (·.val)) ys → Z ys H) : CompP W d csc x ρc elt [] S H (mref ms) Z := by
  have : ∃ ys, CompR W d csc x ρc elt [] S H (mref ms) ys H ∧ All2 (IsV th H) (ms.map (·.val)) ys := by
    clear z
    induction ms with
    | nil => exact ⟨[], .done s, .nil⟩
    | cons m r ih =>
      obtain ⟨ys, c, a⟩ := ih fun y hy => h y (.tail _ hy)
      obtain ⟨v, e, i⟩ := h m (.head _)
      exact ⟨v :: ys, .take s ⟨rfl, rfl⟩ e c, .cons i a⟩
  obtain ⟨ys, r, a⟩ := this
  exact ⟨ys, H, r, z ys a⟩
end
theorem Rd.ext {H H' : List O} (x : Ext H H') {v : V} {d : PyData} (r : Rd H v d) : Rd H' v d :=
  Rd.rec (motive_1 := fun v d _ => Rd H' v d) (motive_2 := fun vs ds _ => RdA H' vs ds) .none .bool .int .str (fun h _ a => .list (x.get h) a) (fun h _ a => .tup (x.get h) a) .nil (fun _ _ a b => .cons a b) r
noncomputable def dat (S : PS) : PyData := .tuple [.list (S.sc.map pyd), .list [.list (S.a0.map pyd), .list (S.a1.map pyd)]]
theorem dat_lay {S : PS} (h : OkS S) : (dat S).canLay0 = true := by
  have a := okAll.lay h.1
  have b := okAll.lay h.2.1
  have c := okAll.lay h.2.2.1
  simp only [dat, PyData.canLay0, PyData.canLayAll0, a, b, c, Bool.and_true]
theorem list_lay {ps : List PV} (h : ∀ p ∈ ps, ok p) : (PyData.list (ps.map pyd)).canLay0 = true := by
  have := okAll.lay h
  simp only [PyData.canLay0, this]
theorem cmp_rows {W : Wd} {d : Nat} {H : List O} {i j : Nat} {ps : List PV} {vs ws : List V} (h : ∀ p ∈ ps, ok p) (hi : H[i]? = some (.list vs)) (a : All2 (TV H) ps vs) (hj : H[j]? = some (.list ws)) (b : All2 (TV H) ps ws) : CmpR W d H .NotEq (.ref i) (.ref j) false :=
  (cmp_ne (.list hi (TV.rda a)) (.list hj (TV.rda b)) (list_lay h) (list_lay h) (dep_list ps)).to (by rw [SeqAt.eqv_refl _ (list_lay h)]; rfl)
theorem tgt_plc {px : Px} {g : Nat} (h : px.ids.length = 5) (hg : g ≤ 8) : (plc px)[g]? = some (tgt px g) := by
  have : g < (plc px).length := by simp [plc]; (first | lia | omega)
  unfold tgt
  rw [List.getElem?_eq_getElem this]
  rfl
theorem dat_dep (S : PS) : (dat S).depth ≤ 90 := by
  have a := dep_all S.sc
  have b := dep_all S.a0
  have c := dep_all S.a1
  simp only [dat, PyData.depth, PyData.depthAll]
  (first | lia | omega)
section
variable {W : Wd} {d : Nat} {sc : Scope} {ρ : Loc} {H : List O} (P : PF W.K)
include P
theorem evP_told_arr {ix : Ix} {last : Int} {live zs ms : List M} {a it wk : Nat} {n k : Int} {x : Str} {np p np' p' op : Pos} {U : V → List O → Prop} (hd : 5 ≤ d) (C : Core ix H last live zs) (ha : H[a]? = some (oArray n k wk it)) (hl : H[it]? = some (.list (mref ms))) (hm : ∀ m ∈ ms, m ∈ live) (hz : ms.length ≤ sizeLine)
    (hx : ρ.lookup x = some (.ref a)) (h1 : sc.names.lookup (Str.ofString "_law_all") = some .globalImplicit) (h2 : sc.names.lookup (Str.ofString "array_values") = some .globalImplicit) (hd' : (x == ("__debug__" : Str)) = false)
    (hT : ∀ H' id ys, H'[id]? = some (.list ys) → Ext H H' → All2 (TV H') (ms.map (·.val)) ys → U (.ref id) H') :
    EvP W d sc ρ H (.Call (.Name (Str.ofString "_law_all") np) [.Call (.Name (Str.ofString "array_values") np') [.Name x op] [] p'] [] p) U := by
  refine evP_call (evaP_cons (evP_call (evaP_cons (evP_of (ev_name hx hd') (evaP_nil ?_)) rfl) (g_array_values P) (kp_array_values P) h2 rfl (by decide)) rfl) (g_law_all P) (kp_law_all P) h1 rfl (by decide)
  refine c_array_values (d := d) P (by (first | lia | omega)) C ha hl hm hz fun ys iv => evaP_nil ?_
  have iv' : All2 (IsV ix.th (H ++ [O.list ys])) (ms.map (·.val)) ys := iv.imp fun _ _ q => q.ext Chg.push
  have := iv.length
  rw [List.length_map] at this
  exact c_law_all (d := d) P (by (first | lia | omega)) C.push at_new iv' (by (first | lia | omega)) fun H' id zs a b c e => hT H' id zs a (Ext.tr Chg.push c) e
end
noncomputable def forBody : Stmt → List Stmt
  | .For (body := b) .. => b
  | _ => []
noncomputable def B_turn : List Stmt := forBody (B_law.getD 10 (.Pass ⟨0, 0, 0, 0⟩))
noncomputable abbrev rho (ix : Ix) (px : Px) (sl al tt pl st nu : Nat) : Loc := [(Str.ofString "numbers", .ref nu), (Str.ofString "state", .ref st), (Str.ofString "places", .ref pl), (Str.ofString "things", .ref tt), (Str.ofString "table", .ref px.hh), (Str.ofString "arrays", .ref al), (Str.ofString "scalars", .ref sl), (Str.ofString "thing", .ref ix.th), (Str.ofString "counter", .ref ix.ct)]
structure TI (ix : Ix) (px : Px) (sl al tt pl st nu : Nat) (ns : List Int) (H : List O) (last : Int) (m : MS) (zs : List M) (B : Nat) : Prop where
  L : LSt ix px H last m zs
  S : StAt H st m.abs
  hnu : H[nu]? = some (.list (ns.map .int))
  hpl : H[pl]? = some (.list (plc px))
  htt : H[tt]? = some (.tup [.ref sl, .ref al, .ref px.hh])
  hal : H[al]? = some (.list [.ref px.a0, .ref px.a1])
  hsl : H[sl]? = some (.list (px.ids.map .ref))
  zz : ix.z = 2
  lt : 2 < nu ∧ 2 < pl ∧ 2 < al ∧ 2 < sl ∧ 2 < st
  ne : nu ≠ st ∧ pl ≠ st ∧ al ≠ st ∧ sl ≠ st
  okS : OkS m.abs
  b0 : m.a0.length ≤ B
  b1 : m.a1.length ≤ B
  b2 : 2 * m.ht.length ≤ B
  bB : 1 ≤ B
  lb : last ≤ 100 * B
noncomputable def B_rest : List Stmt := B_turn.drop 6
section
variable {W : Wd} {d : Nat} {H : List O} (P : PF W.K)
include P
theorem c_turn_b {ix : Ix} {px : Px} {sl al tt pl st nu gid : Nat} {gs : List Nat} {last : Int} {m : MS} {zs : List M} {C : Nat} {T : Out → Loc → List O → Prop} (hd : 25 ≤ d) (L : LSt ix px H last m zs) (S : StAt H st m.abs) (hpl : H[pl]? = some (.list (plc px))) (hal : H[al]? = some (.list [.ref px.a0, .ref px.a1])) (hsl : H[sl]? = some (.list (px.ids.map .ref)))
    (hg : H[gid]? = some (.list (intsV gs))) (gle : ∀ g ∈ gs, g ≤ 8) (gl : gs.length ≤ 4) (okS : OkS m.abs) (hC : C ≤ 100000) (b0 : m.a0.length ≤ C) (b1 : m.a1.length ≤ C) (b2 : 2 * m.ht.length ≤ C) (bB : 1 ≤ C) (hT : ∀ H', Ext H H' → ∀ ρ', Le (rho ix px sl al tt pl st nu) ρ' → T none ρ' H') :
    ExP W d S_law ((Str.ofString "goals", .ref gid) :: rho ix px sl al tt pl st nu) H B_rest T := by
  conv => arg 6; whnf
  have szl := sizeLine_eq
  have hids : px.ids.map V.ref = mref m.sc := by rw [← L.ids, List.map_map]; rfl
  rw [hids] at hsl
  obtain ⟨n0, k0, wk0, it0, ha0, hi0, _⟩ := L.arr0
  obtain ⟨n1, k1, wk1, it1, ha1, hi1, _⟩ := L.arr1
  obtain ⟨nh, kh, wkh, tb, ep, hh, htb⟩ := L.hash
  have five := L.five
  -- heard
  refine exP_assign (evP_tuple (evaP_cons (evP_call (evaP_cons (evP_comp (ev_name rfl) (iterL W sl (mref m.sc)) hsl (compP_vals (th := ix.th) hsl (fun y hy => ?_) fun ys iv => evaP_nil ?_) (by decide +kernel) (by rw [List.length_map]; (first | lia | omega)) rfl) rfl) (g_law_all P) (kp_law_all P) rfl rfl rfl) rfl)) (.inl rfl) rfl
  · obtain ⟨wk, v, a, b, _⟩ := L.core.liv y (by unfold MS.live; simp [hy])
    exact ⟨v, by walk_at "m_ev", b⟩
  have iv' : All2 (IsV ix.th (H ++ [O.list ys])) (m.sc.map (·.val)) ys := iv.imp fun _ _ q => q.ext Chg.push
  have il := iv.length
  rw [List.length_map] at il
  refine c_law_all (d := d) P (by walk_at "m_d") L.core.push at_new iv' (by walk_at "m_d") fun H8 id8 ys8 h8 _ x8 tv8 => ?_
  have x8 : Ext H H8 := Ext.tr Chg.push x8
  refine evaP_cons (evP_comp (ev_name rfl) (iterL W al [.ref px.a0, .ref px.a1]) (x8.get hal) (compP_cons (x8.get hal) ?_) (by decide +kernel) (by show 2 ≤ _; (first | lia | omega)) rfl) rfl
  refine evP_told_arr P (by walk_at "m_d") (L.ext x8).core (x8.get ha0) (x8.get hi0) (fun y hy => by unfold MS.live; simp [hy]) (by walk_at "m_d") rfl rfl rfl (by decide) fun H9 id9 ys9 h9 x9 tv9 => ?_
  have x9' : Ext H H9 := x8.tr x9
  refine compP_cons (x9'.get hal) ?_
  refine evP_told_arr P (by walk_at "m_d") (L.ext x9').core (x9'.get ha1) (x9'.get hi1) (fun y hy => by unfold MS.live; simp [hy]) (by walk_at "m_d") rfl rfl rfl (by decide) fun H10 id10 ys10 h10 x10 tv10 => ?_
  have x10' : Ext H H10 := x9'.tr x10
  refine compP_nil (x10'.get hal) (evaP_nil ⟨by show 2 ≤ _; (first | lia | omega), ?_⟩)
  have rdh : Rd ((H10 ++ [O.list [.ref id9, .ref id10]]) ++ [O.tup [.ref id8, .ref H10.length]]) (.ref (H10 ++ [O.list [.ref id9, .ref id10]]).length) (dat m.abs) := by
    have xx : Ext H10 ((H10 ++ [O.list [.ref id9, .ref id10]]) ++ [O.tup [.ref id8, .ref H10.length]]) := Chg.push' Chg.push
    have x8' : Ext H8 ((H10 ++ [O.list [.ref id9, .ref id10]]) ++ [O.tup [.ref id8, .ref H10.length]]) := (x9.tr x10).tr xx
    have x9'' : Ext H9 ((H10 ++ [O.list [.ref id9, .ref id10]]) ++ [O.tup [.ref id8, .ref H10.length]]) := x10.tr xx
    exact .tup at_new (.cons (.list (x8'.get h8) (TV.rda (tv8.imp fun _ _ q => q.ext x8'))) (.cons (.list (at_old at_new) (.cons (.list (x9''.get h9) (TV.rda (tv9.imp fun _ _ q => q.ext x9''))) (.cons (.list (xx.get h10) (TV.rda (tv10.imp fun _ _ q => q.ext xx))) .nil))) .nil))
  have x11 : Ext H ((H10 ++ [O.list [.ref id9, .ref id10]]) ++ [O.tup [.ref id8, .ref H10.length]]) := Ext.tr x10' (Chg.push' Chg.push)
  generalize (H10 ++ [O.list [.ref id9, .ref id10]]).length = hid at *
  generalize (H10 ++ [O.list [.ref id9, .ref id10]]) ++ [O.tup [.ref id8, .ref H10.length]] = H11 at *
  clear h8 tv8 h9 tv9 h10 tv10 x8 x9 x9' x10 x10' iv iv' il
  -- the first test
  obtain ⟨vs5, l5, l6, l7, ws5, ws6, sb⟩ := S
  have row := sb.row
  have f5 := sb.five
  have row8 : (vs5 ++ [V.ref l5, .ref l6, .ref l7]).length = 8 := by simp [sb.five]
  have c1 : cut (vs5 ++ [V.ref l5, .ref l6, .ref l7]) none (some 5) = some vs5 := by
    show some (List.take 5 _) = _
    rw [List.take_append_of_le_length (by walk_at "m_d"), List.take_of_length_le (by walk_at "m_d")]
  have c2 : cut (vs5 ++ [V.ref l5, .ref l6, .ref l7]) (some 5) (some 7) = some [V.ref l5, .ref l6] := by
    obtain ⟨_, _, _, _, _, e⟩ := len5 sb.five
    rw [e]; rfl
  have row7 : (vs5 ++ [V.ref l5, .ref l6, .ref l7])[((7 : Int)).toNat]? = some (.ref l7) := (set_at (x := .none) sb.five).2.2.2.2.2.2
  refine exP_ifP (trP_or2 (trP_cmp (evP_of (H' := H11) (ev_name rfl) (evP_tuple (evaP_cons ?_ rfl))) rfl))
  refine evP_of (H' := H11 ++ [.list vs5]) (v := .ref H11.length) ?sl1 (evaP_cons ?_ rfl)
  case sl1 => exact ev_slice (lo := none) (hi := some 5) (ev_name rfl) trivial ev_int (x11.get row) c1 (by walk_at "m_d")
  refine evP_of (H' := (H11 ++ [.list vs5]) ++ [.list [.ref l5, .ref l6]]) (v := .ref (H11 ++ [O.list vs5]).length) ?sl2 (evaP_nil ⟨by show 2 ≤ _; (first | lia | omega), ?_⟩)
  case sl2 => exact ev_slice (lo := some 5) (hi := some 7) (ev_name rfl) ev_int ev_int (at_old (x11.get row)) c2 (by walk_at "m_d")
  have y1 : Ext H11 (((H11 ++ [O.list vs5]) ++ [O.list [.ref l5, .ref l6]]) ++ [O.tup [.ref H11.length, .ref (H11 ++ [O.list vs5]).length]]) := Chg.push' (Chg.push' Chg.push)
  have rdh' : Rd (((H11 ++ [O.list vs5]) ++ [O.list [.ref l5, .ref l6]]) ++ [O.tup [.ref H11.length, .ref (H11 ++ [O.list vs5]).length]]) (.ref hid) (dat m.abs) := Rd.ext y1 rdh
  have y2 := x11.tr y1
  have rds : Rd (((H11 ++ [O.list vs5]) ++ [O.list [.ref l5, .ref l6]]) ++ [O.tup [.ref H11.length, .ref (H11 ++ [O.list vs5]).length]]) (.ref ((H11 ++ [O.list vs5]) ++ [O.list [.ref l5, .ref l6]]).length) (dat m.abs) :=
    .tup at_new (.cons (.list (at_old (at_old at_new)) (TV.rda (sb.sc.imp fun _ _ q => q.ext y2))) (.cons (.list (at_old at_new) (.cons (.list (y2.get sb.e5) (TV.rda (sb.a0.imp fun _ _ q => q.ext y2))) (.cons (.list (y2.get sb.e6) (TV.rda (sb.a1.imp fun _ _ q => q.ext y2))) .nil))) .nil))
  refine ⟨false, (cmp_ne rdh' rds (dat_lay okS) (dat_lay okS) (dat_dep _)).to (by rw [SeqAt.eqv_refl _ (dat_lay okS)]; rfl), rfl, ?_⟩
  generalize ((H11 ++ [O.list vs5]) ++ [O.list [.ref l5, .ref l6]]) ++ [O.tup [.ref H11.length, .ref (H11 ++ [O.list vs5]).length]] = H14 at *
  clear rdh rdh' rds x11 y1 c1 c2
  -- the second test
  have fh := c_flat_hash (d := d) P (by walk_at "m_d") (y2.get hh) (y2.get htb) L.nd (by walk_at "m_d")
  refine trP_cmp (evP_call (evaP_cons (evP_call (evaP_cons (evP_of (ev_call (eva_cons (ev_name rfl) eva_nil) fh (g_flat_hash P) (kp_flat_hash P) rfl rfl rfl) (evaP_nil ?_)) rfl) (g_plain_values P) (kp_plain_values P) rfl rfl rfl) rfl) (g_law_all P) (kp_law_all P) rfl rfl rfl) rfl
  have y3 : Ext H (H14 ++ [O.list (flat m.ht)]) := Ext.tr y2 Chg.push
  have fl := flat_len m.ht
  refine c_plain_values (d := d) P (by walk_at "m_d") (L.ext y3).core at_new (flat_mv fun y hy => by unfold MS.live; simp only [List.mem_append]; exact .inr (.inr (.inr hy))) (by walk_at "m_d") fun ys15 iv15 => evaP_nil ?_
  have y4 : Ext H ((H14 ++ [O.list (flat m.ht)]) ++ [O.list ys15]) := Ext.tr y3 Chg.push
  have iv15' : All2 (IsV ix.th ((H14 ++ [O.list (flat m.ht)]) ++ [O.list ys15])) (flatP (hval m.ht)) ys15 := iv15.imp fun _ _ q => q.ext Chg.push
  have l15 := iv15.length
  have l16 : (flatP (hval m.ht)).length = 2 * m.ht.length := by rw [flatP_len]; simp [hval]
  refine c_law_all (d := d) P (by walk_at "m_d") (L.ext y4).core at_new iv15' (by walk_at "m_d") fun H17 id17 ys17 h17 _ x17 tv17 => ?_
  have y5 := y4.tr x17
  refine evP_call (evaP_cons (evP_of (H' := H17) (v := .ref l7) (ev_item (ev_name rfl) ev_int (y5.get row) (by decide) (by decide) row7 rfl) (evaP_nil ?_)) rfl) (g_law_flat P) (kp_law_flat P) rfl rfl rfl
  have hsl7 : m.abs.hs.length = m.ht.length := by simp [MS.abs, hval]
  refine c_law_flat (d := d) P (by walk_at "m_d") (sb.hs.ext y5) (by walk_at "m_d") fun H18 id18 ws18 h18 _ x18 tv18 => ?_
  have y6 := y5.tr x18
  refine ⟨false, cmp_rows (OkS.flat okS.2.2.2) (x18.get h17) (tv17.imp fun _ _ q => q.ext x18) h18 tv18, rfl, exP_nil ⟨rfl, ?_⟩⟩
  clear fh iv15 iv15' h17 tv17 x17 h18 tv18 x18 y2 y3 y4 y5
  -- the members
  have hg18 := y6.get hg
  have hpl18 := y6.get hpl
  have il : (intsV gs).length ≤ sizeLine := by rw [List.length_map]; (first | lia | omega)
  refine exP_assign (evP_call (evaP_cons (evP_comp (ev_name rfl) (iterL W gid (intsV gs)) hg18 (compP_map (f := fun (g : Nat) => V.int (g : Int)) (g := tgt px) hg18 (fun g hgm => ?_) (evaP_nil ?_)) (by decide +kernel) il rfl) rfl) (g_assigned_members P) (kp_assigned_members P) rfl rfl rfl) (.inl rfl) rfl
  · have g8 := gle g hgm
    have k0 : (0 : Int) ≤ (g : Int) := by (first | lia | omega)
    have k1 : (g : Int) < 2 ^ 63 := by (first | lia | omega)
    have va : (plc px)[((g : Nat) : Int).toNat]? = some (tgt px g) := tgt_plc L.five' g8
    walk_at "m_ev"
  have y7 : Ext H (H18 ++ [O.list (gs.map (tgt px))]) := Ext.tr y6 Chg.push
  refine c_assigned_members (d := d) (B := C) P (by walk_at "m_d") (L.ext y7) at_new gle hC b0 b1 b2 bB gl fun H20 id20 ws20 h20 _ x20 mv20 lw20 => ?_
  have y8 := y7.tr x20
  have okm : ∀ p ∈ gs.flatMap (memP m.abs), ok p := fun p hp => by
    obtain ⟨g, _, h⟩ := List.mem_flatMap.mp hp
    exact OkS.mem okS g p h
  refine exP_ifP (trP_cmp (evP_call (evaP_cons (evP_call (evaP_cons (evP_of (ev_name rfl) (evaP_nil ?_)) rfl) (g_plain_values P) (kp_plain_values P) rfl rfl rfl) rfl) (g_law_all P) (kp_law_all P) rfl rfl rfl) rfl)
  refine c_plain_values (d := d) P (by walk_at "m_d") (L.ext y8).core h20 mv20 (by walk_at "m_d") fun ys21 iv21 => evaP_nil ?_
  have y9 : Ext H (H20 ++ [O.list ys21]) := Ext.tr y8 Chg.push
  have iv21' : All2 (IsV ix.th (H20 ++ [O.list ys21])) (gs.flatMap (memP m.abs)) ys21 := iv21.imp fun _ _ q => q.ext Chg.push
  have l21 := iv21.length
  have l20 := mv20.length
  refine c_law_all (d := d) P (by walk_at "m_d") (L.ext y9).core at_new iv21' (by walk_at "m_d") fun H22 id22 ys22 h22 _ x22 tv22 => ?_
  have y10 := y9.tr x22
  refine evP_call (evaP_cons (evP_of (ev_name rfl) (evaP_cons (evP_of (ev_name rfl) (evaP_nil ?_)) rfl)) rfl) (g_law_members P) (kp_law_members P) rfl rfl rfl
  refine c_law_members (d := d) (B := C) P (by walk_at "m_d") ⟨vs5, l5, l6, l7, ws5, ws6, sb.ext y10⟩ (y10.get hg) gle hC (by simpa [MS.abs] using b0) (by simpa [MS.abs] using b1) (by walk_at "m_d") bB gl fun H23 id23 ws23 h23 _ x23 tv23 => ?_
  exact ⟨false, cmp_rows okm (x23.get h22) (tv22.imp fun _ _ q => q.ext x23) h23 tv23, exP_nil ⟨rfl, exP_nil (hT _ (y10.tr x23) _ (.cons rfl (.cons rfl (.cons rfl (.cons rfl (.cons rfl (.cons rfl (.cons rfl (.cons rfl (.cons rfl .nil))))))))))⟩⟩
end
section
variable {W : Wd} {d : Nat} {H : List O} (P : PF W.K)
include P
theorem c_turn {ix : Ix} {px : Px} {sl al tt pl st nu : Nat} {ns : List Int} {last : Int} {m : MS} {zs : List M} {B j : Nat} (hd : 30 ≤ d) (I : TI ix px sl al tt pl st nu ns H last m zs B) (hj : 2 * j + 1 < ns.length) (hn : ns.length ≤ 100) (hB : B ≤ 19999) :
    ∃ (a : Unit) (H' : List O), Ex W d S_law ((Str.ofString "at", .int ((2 * j : Nat) : Int)) :: rho ix px sl al tt pl st nu) H B_turn none (rho ix px sl al tt pl st nu) H' ∧ ∃ last' m' zs', TI ix px sl al tt pl st nu ns H' last' m' zs' (5 * B + 1) := by
  have L := I.L
  have szl := sizeLine_eq
  obtain ⟨n, e1⟩ : ∃ n, ns[2 * j]? = some n := ⟨_, List.getElem?_eq_getElem (by walk_at "m_d")⟩
  obtain ⟨n', e2⟩ : ∃ n', ns[2 * j + 1]? = some n' := ⟨_, List.getElem?_eq_getElem hj⟩
  have t1 : (((2 * j : Nat) : Int) + 1).toNat = 2 * j + 1 := by (first | lia | omega)
  have i1 : (ns.map V.int)[((2 * j : Nat) : Int).toNat]? = some (.int n) := by rw [Int.toNat_natCast, List.getElem?_map, e1]; rfl
  have i2 : (ns.map V.int)[(((2 * j : Nat) : Int) + 1).toNat]? = some (.int n') := by rw [t1, List.getElem?_map, e2]; rfl
  have q1 : (0 : Int) ≤ ((2 * j : Nat) : Int) := by (first | lia | omega)
  have q2 : ((2 * j : Nat) : Int) < 2 ^ 63 := by (first | lia | omega)
  have q3 : (0 : Int) ≤ ((2 * j : Nat) : Int) + 1 := by (first | lia | omega)
  have q4 : ((2 * j : Nat) : Int) + 1 < 2 ^ 63 := by (first | lia | omega)
  apply ExP.step (R := fun (_ : Unit) => rho ix px sl al tt pl st nu) (Inv := fun _ H' => ∃ last' m' zs', TI ix px sl al tt pl st nu ns H' last' m' zs' (5 * B + 1))
  refine ExP.gen (F := fun T => ∀ H' last' m' zs', TI ix px sl al tt pl st nu ns H' last' m' zs' (5 * B + 1) → ∀ ρ', Le (rho ix px sl al tt pl st nu) ρ' → T none ρ' H') (fun H' l m z i ρ' le => ⟨rfl, (), le, l, m, z, i⟩) fun T hT => ?_
  conv => arg 6; whnf
  -- the goals
  have hnu := I.hnu
  refine cps fun G hG => ?_
  obtain ⟨_, H1, f1, gid, rfl, hg1, lg1, x1⟩ := r_law_targets (d := d) (H := H) (n := n) P (by walk_at "m_d")
  refine hG ?_
  clear hG
  refine exP_cons (ρ₁ := (Str.ofString "goals", .ref gid) :: (Str.ofString "at", .int ((2 * j : Nat) : Int)) :: rho ix px sl al tt pl st nu) (H₁ := H1) (by walk_at "m_s1") ?_
  -- the sources
  have hnu1 := x1.get hnu
  refine FnP.run (c_law_sources (d := d) (n := n') P (by walk_at "m_d") (L.ext x1) (x1.get I.htt) (x1.get I.hsl) (x1.get I.hal) I.okS (by walk_at "m_d") I.b0 I.b1 I.b2 I.bB fun H2 vid ps vs hv2 lv2 x2 iv2 ok2 lz2 => fun f2 => ?_)
  refine exP_cons (ρ₁ := (Str.ofString "values", .ref vid) :: (Str.ofString "goals", .ref gid) :: (Str.ofString "at", .int ((2 * j : Nat) : Int)) :: rho ix px sl al tt pl st nu) (H₁ := H2) (by walk_at "m_s1") ?_
  have x02 : Ext H H2 := x1.tr x2
  have hg2 := x2.get hg1
  have th2 := (L.core.ext x02).th
  refine exP_seq (fun ρ' H' => ∃ vid ps vs, A8 (Le ((Str.ofString "values", .ref vid) :: (Str.ofString "goals", .ref gid) :: rho ix px sl al tt pl st nu) ρ') (H'[vid]? = some (.list vs)) (H.length ≤ vid) (Ext H2 H') (All2 (IsV ix.th H') ps vs) ((∀ p ∈ ps, ok p)) (vs.length ≤ 5 * B) ((7 ∈ tgs n → ∀ p ∈ ps, p ≠ .ref))) ?_ ?_
  · have c7 := cmp_in7 (W := W) (d := d) hg2
    by_cases h7 : 7 ∈ tgs n
    · have c7 : CmpR W d H2 .In (.int 7) (.ref gid) true := c7.to (by simpa using h7)
      refine ex1_if_noref (by walk_at "m_tr") (ev_name rfl) hv2 (fun v => ev_name rfl) (fun p v hp => ?_) iv2 (by decide +kernel) (by walk_at "m_d") (.inl rfl) rfl fun ys ay => ?_
      · cases p with
        | none => cases hp; walk_at "m_tr"
        | int i => cases hp; walk_at "m_tr"
        | str x => cases hp; walk_at "m_tr"
        | ref => obtain ⟨r, rfl, hr⟩ := hp; walk_at "m_tr"
      · refine ⟨H2.length, _, ys, .cons rfl (.cons rfl (.cons rfl (.cons rfl (.cons rfl (.cons rfl (.cons rfl (.cons rfl (.cons rfl (.cons rfl (.cons rfl .nil)))))))))), at_new, x02.1, Chg.push, ay.imp fun _ _ q => q.ext Chg.push, fun p hp => ok2 p ((List.mem_filter.mp hp).1), ?_, fun _ p hp => by simpa using (List.mem_filter.mp hp).2⟩
        have := ay.length
        have := List.length_filter_le (fun p => decide (p ≠ PV.ref)) ps
        have := iv2.length
        (first | lia | omega)
    · have c7 : CmpR W d H2 .In (.int 7) (.ref gid) false := c7.to (by simpa using h7)
      exact ⟨_, _, ex1_ifF (H₁ := H2) (by walk_at "m_tr") ex_nil, vid, ps, vs, .cons rfl (.cons rfl (.cons rfl (.cons rfl (.cons rfl (.cons rfl (.cons rfl (.cons rfl (.cons rfl (.cons rfl (.cons rfl .nil)))))))))), hv2, Nat.le_trans x1.1 lv2, Chg.refl _ _, iv2, ok2, lz2, fun h => absurd h h7⟩
  rintro ρ3 H3 ⟨vid', ps', vs', le3, hv3, lv3, x3, iv3, ok3, lz3, nr3⟩
  refine ExP.more ?_ le3
  have x03 : Ext H H3 := x02.tr x3
  have pl3 := iv3.length
  -- told
  refine FnP.run (c_law_all (d := d) P (by walk_at "m_d") (L.ext x03).core hv3 iv3 (by walk_at "m_d") fun H4 tid ys4 ht4 lt4 x4 tv4 => fun f4 => ?_)
  refine exP_cons (ρ₁ := (Str.ofString "told", .ref tid) :: (Str.ofString "values", .ref vid') :: (Str.ofString "goals", .ref gid) :: rho ix px sl al tt pl st nu) (H₁ := H4) (by walk_at "m_s1") ?_
  have x04 : Ext H H4 := x03.tr x4
  have hg4 := (x3.tr x4).get hg2
  have hpl4 := x04.get I.hpl
  have hv4 := x4.get hv3
  obtain ⟨gle, gl4⟩ := tgs_le (n := n)
  -- the assignment
  have zH : ix.z < H.length := at_lt L.core.z
  have xp : Ext H4 (H4 ++ [O.list ((tgs n).map (tgt px))]) := Chg.push
  have x5 : Ext H (H4 ++ [O.list ((tgs n).map (tgt px))]) := x04.tr xp
  have iv5 : All2 (IsV ix.th (H4 ++ [O.list ((tgs n).map (tgt px))])) ps' vs' := iv3.imp fun _ _ q => (q.ext x4).ext xp
  have bnd : (tgs n).length * ps'.length ≤ 4 * (5 * B) := Nat.mul_le_mul gl4 (by walk_at "m_d")
  have lb := I.lb
  have b0 := I.b0
  have b1 := I.b1
  have b2 := I.b2
  have bB := I.bB
  have zz := I.zz
  obtain ⟨lt1, lt2, lt3, lt4', lt5⟩ := I.lt
  obtain ⟨ne1, ne2, ne3, ne4⟩ := I.ne
  refine FnP.run (c_assign_list (d := d) (B := 5 * B) P (by walk_at "m_d") (L.ext x5) at_new (Nat.lt_of_lt_of_le zH x04.1) gle (xp.get hv4) (Nat.lt_of_lt_of_le zH lv3) iv5 (fun p hp => ok.small (ok3 p hp)) nr3 (by walk_at "m_d") (by walk_at "m_d") (by walk_at "m_d") (by walk_at "m_d") gl4 (by push_cast at bnd ⊢; (first | lia | omega)) fun H5 last5 m5 zs5 L5 s5 ab5 ll5 b05 b15 => fun f5 => ?_)
  have X5 := (L.ext x5).x3
  have XL := @LSt.x3l _ _ _ _ _ _ (L.ext x5)
  have keep : ∀ (i : Nat) (rs : List V), 2 < i → (H4 ++ [O.list ((tgs n).map (tgt px))])[i]? = some (.list rs) → H5[i]? = some (.list rs) := fun i rs l e => s5.at e (XL e) (by show ix.z < i; (first | lia | omega))
  have H2l : 2 < H.length := by (first | lia | omega)
  have hv5 := keep _ _ (by walk_at "m_d") (xp.get hv4)
  have vz : vs'.length < 2 ^ 62 := by (first | lia | omega)
  have il : (intsV (tgs n)).length ≤ sizeLine := by rw [List.length_map]; (first | lia | omega)
  rw [pl3] at f5
  refine exP_if (b := false) (H₁ := H5) (tr_cmp (a := .int vs'.length) (b := .int vs'.length) (H₁ := H5) ?ta ?tb (cmp_ne_int.to (by simp)) rfl) (exP_nil ⟨rfl, ?_⟩)
  case ta =>
    refine ev_call (H₁ := H4 ++ [O.list ((tgs n).map (tgt px))]) (eva_cons (ev_name rfl) (eva_cons (H₁ := H4 ++ [O.list ((tgs n).map (tgt px))]) (v := .ref H4.length) ?tc (eva_cons (ev_name rfl) eva_nil rfl) rfl) rfl) f5 (g_assign_list P) (kp_assign_list P) rfl rfl (by decide)
    case tc =>
      refine ev_comp (ev_name rfl) (iterL W gid (intsV (tgs n))) hg4 (comp_map (f := fun (g : Nat) => V.int (g : Int)) (g := tgt px) hg4 (tgs n) fun g hgm => ?_) (by decide +kernel) il rfl
      have g8 := gle g hgm
      have k0 : (0 : Int) ≤ (g : Int) := by (first | lia | omega)
      have k1 : (g : Int) < 2 ^ 63 := by (first | lia | omega)
      have va : (plc px)[((g : Nat) : Int).toNat]? = some (tgt px g) := tgt_plc L.five' g8
      walk_at "m_ev"
  case tb => walk_at "m_ev"
  -- the law's own row
  have S5 : StAt H5 st m.abs := (I.S.ext x5).subx s5 X5 zz lt5
  have tv5 : All2 (TV H5) ps' ys4 := tv4.imp fun _ _ q => (q.ext xp).subx s5 X5
  have ht5 := keep _ _ (by have := x03.1; (first | lia | omega)) (xp.get ht4)
  have hg5 := keep _ _ (by walk_at "m_d") (xp.get hg4)
  have tl := tv4.length
  have gst : gid ≠ st := by obtain ⟨_, _, _, _, _, _, sb⟩ := I.S; exact Nat.ne_of_gt (Nat.lt_of_lt_of_le (at_lt sb.row) lg1)
  refine FnP.run (c_law_assigned (d := d) P (by walk_at "m_d") S5 hg5 gle gst ht5 tv5 ok3 nr3 (by walk_at "m_d") gl4 fun H6 S6 x6 _ => fun f6 => ?_)
  refine exP_cons (ρ₁ := (Str.ofString "told", .ref tid) :: (Str.ofString "values", .ref vid') :: (Str.ofString "goals", .ref gid) :: rho ix px sl al tt pl st nu) (H₁ := H6) (by walk_at "m_s1") ?_
  have L6 : LSt ix px H6 last5 m5 zs5 := L5.chgS S5 x6 (by walk_at "m_d")
  rw [← ab5] at S6
  have keep6 : ∀ (i : Nat) (rs : List V), 2 < i → i ≠ st → H[i]? = some (.list rs) → H6[i]? = some (.list rs) := fun i rs l ne e => x6.at (keep i rs l (x5.get e)) (by simpa using ne)
  have htt6 : H6[tt]? = some (.tup [.ref sl, .ref al, .ref px.hh]) := x6.at (s5.at (x5.get I.htt) (fun h => by obtain ⟨_, _, e⟩ := X5 _ h; rw [x5.get I.htt] at e; cases e) trivial) (by
    intro h
    have hh := List.mem_singleton.mp h
    obtain ⟨_, _, _, _, _, _, sb⟩ := I.S
    have := I.htt
    rw [hh, sb.row] at this
    cases this)
  have ok6 : OkS m5.abs := ab5 ▸ asg_ok _ _ _ I.okS ok3
  have hlen : 2 * m5.ht.length ≤ 5 * B + 1 := by
    have h1 : m5.abs.hs.length = m5.ht.length := by simp [MS.abs, hval]
    have h2 : m.abs.hs.length = m.ht.length := by simp [MS.abs, hval]
    rw [← h1, ab5]
    exact asg_len _ _ _ _ (by rw [h2]; (first | lia | omega)) (by walk_at "m_d")
  have hg6 := x6.at hg5 (by simpa using gst)
  have C6 := keep6 _ _ lt2 ne2 I.hpl
  refine ExP.more (ρ₂ := (Str.ofString "goals", .ref gid) :: rho ix px sl al tt pl st nu) ?_ (.cons rfl (.cons rfl (.cons rfl (.cons rfl (.cons rfl (.cons rfl (.cons rfl (.cons rfl (.cons rfl (.cons rfl .nil))))))))))
  refine c_turn_b (d := d) (C := 5 * B + 1) P (by walk_at "m_d") L6 S6 (keep6 _ _ lt2 ne2 I.hpl) (keep6 _ _ lt3 ne3 I.hal) (keep6 _ _ lt4' ne4 I.hsl) hg6 gle gl4 ok6 (by walk_at "m_d") (by walk_at "m_d") (by walk_at "m_d") hlen (by walk_at "m_d") fun H' x ρ' le => hT H' last5 m5 zs5 ?_ ρ' le
  exact {
    L := L6.ext x
    S := S6.ext x
    hnu := x.get (keep6 _ _ lt1 ne1 I.hnu)
    hpl := x.get (keep6 _ _ lt2 ne2 I.hpl)
    htt := x.get htt6
    hal := x.get (keep6 _ _ lt3 ne3 I.hal)
    hsl := x.get (keep6 _ _ lt4' ne4 I.hsl)
    zz := zz
    lt := I.lt
    ne := I.ne
    okS := ok6
    b0 := by (first | lia | omega)
    b1 := by (first | lia | omega)
    b2 := hlen
    bB := by (first | lia | omega)
    lb := by push_cast at bnd ⊢; (first | lia | omega) }
end
noncomputable def EvD (W : Wd) (d : Nat) (sc : Scope) (ρ : Loc) (H : List O) (e : PySem.Expr) (U : V → List O → Prop) : Prop :=
  ∀ (A : Around) (env : Env) (h : Heap) (t : Nat) (σ : Shared) (φ : Map) (Q : Value → Shared → Prop) (E : Value → Shared → Prop), Rm A d → Fm W sc env φ h ρ → HR W φ H h →
    (∀ v H' v' h' t' φ', U v H' → VR φ' v v' → HR W φ' H' h' → Kp φ h φ' h' → Q v' (St σ h' t')) → wpAny (mdl W) A (eval e env) Q E (St σ h t)
noncomputable def ExD (W : Wd) (d : Nat) (sc : Scope) (ρ : Loc) (H : List O) (ss : List Stmt) (T : Out → Loc → List O → Prop) : Prop :=
  ∀ (A : Around) (env : Env) (h : Heap) (t : Nat) (σ : Shared) (φ : Map) (Q : Flow → Shared → Prop) (E : Value → Shared → Prop), Rm A d → Fm W sc env φ h ρ → HR W φ H h →
    (∀ o ρ' H' f h' t' φ', T o ρ' H' → OutR φ' o f → Fm W sc env φ' h' ρ' → HR W φ' H' h' → Kq env φ h φ' h' → Q f (St σ h' t')) → wpAny (mdl W) A (execs ss env) Q E (St σ h t)
noncomputable def FnD (W : Wd) (d : Nat) (H : List O) (f : Value) (vs : List V) (U : V → List O → Prop) : Prop :=
  ∀ (A : Around) (h : Heap) (t : Nat) (σ : Shared) (φ : Map) (vs' : List Value) (R : Result → Shared → Prop), Rm A d → HR W φ H h → VsR φ vs vs' →
    (∀ v H' v' h' t' φ', U v H' → VR φ' v v' → HR W φ' H' h' → Kp φ h φ' h' → R (.ok (.ret v')) (St σ h' t')) → codeAny (mdl W) A (.call f ⟨vs', []⟩) R (St σ h t)
noncomputable def CallD (W : Wd) (d : Nat) (H : List O) (f : Value) (vs : List V) (U : V → List O → Prop) : Prop :=
  ∀ (A : Around) (h : Heap) (t : Nat) (σ : Shared) (φ : Map) (vs' : List Value) (Q : Value → Shared → Prop) (E : Value → Shared → Prop), Rm A d → HR W φ H h → VsR φ vs vs' →
    (∀ v H' v' h' t' φ', U v H' → VR φ' v v' → HR W φ' H' h' → Kp φ h φ' h' → Q v' (St σ h' t')) → wpAny (mdl W) A (call f vs') Q E (St σ h t)
section
variable {W : Wd} {d : Nat} {sc : Scope} {ρ ρ₁ : Loc} {H H₁ H₂ H' : List O} {ss : List Stmt} {T : Out → Loc → List O → Prop} {U : V → List O → Prop}
theorem exD_of {o : Out} {ρ' : Loc} (x : Ex W d sc ρ H ss o ρ' H') (y : T o ρ' H') : ExD W d sc ρ H ss T := fun A env h t σ φ Q E r F R k => x A env h t σ φ Q E r F R fun f h' t' φ' ho F' R' kq => k _ _ _ f h' t' φ' y ho F' R' kq
theorem exD_nil (y : T none ρ H) : ExD W d sc ρ H [] T := exD_of ex_nil y
theorem exD_cons {s : Stmt} (x : Ex1 W d sc ρ H s none ρ₁ H₁) (y : ExD W d sc ρ₁ H₁ ss T) : ExD W d sc ρ H (s :: ss) T :=
  fun A env h t σ φ Q E r F R k => wpAny_execs_cons (x A env h t σ φ _ E r F R fun f h₁ t₁ φ₁ ho F₁ R₁ k₁ => by
    cases ho
    exact y A env h₁ t₁ σ φ₁ Q E r F₁ R₁ fun o ρ' H' f h' t' φ' z ho F' R' k' => k o ρ' H' f h' t' φ' z ho F' R' (k₁.trans (fun b e => ⟨(F.there e).1, (F₁.there e).2⟩) k'))
theorem ExD.more {ρ₂ : Loc} (x : ExD W d sc ρ₂ H ss T) (l : Le ρ₂ ρ) : ExD W d sc ρ H ss T := fun A env h t σ φ Q E r F R k => x A env h t σ φ Q E r (F.sub l) R k
theorem ExD.to {T' : Out → Loc → List O → Prop} (x : ExD W d sc ρ H ss T) (l : ∀ o ρ' H', T o ρ' H' → T' o ρ' H') : ExD W d sc ρ H ss T' := fun A env h t σ φ Q E r F R k => x A env h t σ φ Q E r F R fun o ρ' H' f h' t' φ' z => k o ρ' H' f h' t' φ' (l _ _ _ z)
theorem exD_assign {x : Str} {p q : Pos} {e : PySem.Expr} (a : EvD W d sc ρ H e U) (y : ∀ v H₁, U v H₁ → ExD W d sc ((x, v) :: ρ) H₁ ss T) (hx : sc.names.lookup x = some .local ∨ sc.names.lookup x = some .cell) (hc : isComp e = false := by rfl) : ExD W d sc ρ H (.Assign [.Name x p] e q :: ss) T :=
  fun A env h t σ φ Q E rm F R k => wpAny_execs_cons (wpAny_Assign_Name (a A env h t σ φ _ E rm F R fun v H₁ v' h₁ t₁ φ₁ u yv R₁ k₁ => wp_store (F.kp k₁) R₁ yv hx fun h₂ t₂ F₂ R₂ kq =>
    y v H₁ u A env h₂ t₂ σ φ₁ Q E rm F₂ R₂ fun o ρ' H' f h' t' φ' z ho F' R' k' => k o ρ' H' f h' t' φ' z ho F' R' ((k₁.q.trans (fa_there F (F.kp k₁)) kq).trans (fa_there F F₂) k')) (swaps_no hc))
theorem exD_expr {p : Pos} {e : PySem.Expr} (a : EvD W d sc ρ H e U) (y : ∀ v H₁, U v H₁ → ExD W d sc ρ H₁ ss T) (hc : isComp e = false := by rfl) : ExD W d sc ρ H (.Expr e p :: ss) T :=
  fun A env h t σ φ Q E rm F R k => wpAny_execs_cons (wpAny_Expr_any (a A env h t σ φ _ E rm F R fun v H₁ v' h₁ t₁ φ₁ u yv R₁ k₁ =>
    y v H₁ u A env h₁ t₁ σ φ₁ Q E rm (F.kp k₁) R₁ fun o ρ' H' f h' t' φ' z ho F' R' k' => k o ρ' H' f h' t' φ' z ho F' R' (k₁.q.trans (fa_there F (F.kp k₁)) k')) (by unfold interactive; rw [F.scq, F.kind]; rfl) (swaps_no hc))
theorem exD_ret {p : Pos} {e : PySem.Expr} (a : EvD W d sc ρ H e U) (y : ∀ v H', U v H' → T (some v) ρ H') : ExD W d sc ρ H (.Return (some e) p :: ss) T :=
  fun A env h t σ φ Q E rm F R k => wpAny_execs_cons (wpAny_Return_some (a A env h t σ φ _ E rm F R fun v H₁ v' h₁ t₁ φ₁ u yv R₁ k₁ => k _ _ _ (.ret v') h₁ t₁ φ₁ (y v H₁ u) (.ret yv) (F.kp k₁) R₁ k₁.q))
theorem exD_for {x : Str} {px pos : Pos} {iter : PySem.Expr} {body : List Stmt} {S₀ S : List O → Prop} {src : V} {all : List V} (a : Ev W d sc ρ H iter src H₁) (K : IterK W S₀ S src all) (h0 : S₀ H₁) (r : ForP W d sc x body S ρ H₁ all fun ρ' H' => ExD W d sc ρ' H' ss T)
    (hx : sc.names.lookup x = some .local ∨ sc.names.lookup x = some .cell) (hn : noSet iter = true) : ExD W d sc ρ H (.For (.Name x px) iter body [] pos :: ss) T := by
  obtain ⟨ρ', ρ₂, H', r, l, t⟩ := r
  exact exD_cons ((ex1_for a K h0 r hx hn).weak l) t
theorem exD_while1 {test : PySem.Expr} {body : List Stmt} {pos : Pos} (x : Tr W d sc ρ H test true H₁) (y : ExD W d sc ρ H₁ body fun o ρ₁ H₂ => o = none ∧ ∃ H₃, Tr W d sc ρ₁ H₂ test false H₃ ∧ T none ρ₁ H₃) : ExD W d sc ρ H [.While test body [] pos] T :=
  fun A env h t σ φ Q E rm F R kk => by
    refine wpAny_execs_cons (wpAny_While ?_)
    refine codeAny_whileLoop (fun n s => (n = 1 ∧ s = St σ h t) ∨ (n = 0 ∧ ∃ h₁ t₁ φ₁ ρ₁ H₂ H₃, A6 (s = St σ h₁ t₁) (Tr W d sc ρ₁ H₂ test false H₃) (T none ρ₁ H₃) (Fm W sc env φ₁ h₁ ρ₁) (HR W φ₁ H₂ h₁) (Kq env φ h φ₁ h₁))) (fun n s I => ?_) 1 (.inl ⟨rfl, rfl⟩)
    rcases I with ⟨rfl, rfl⟩ | ⟨rfl, h₁, t₁, φ₁, ρ₁, H₂, H₃, rfl, z, u, F₁, R₁, k₁⟩
    · refine x A env h t σ φ _ _ rm F R fun h₂ t₂ φ₂ R₂ k₂ => ?_
      refine y A env h₂ t₂ σ φ₂ _ _ rm (F.kp k₂) R₂ fun o ρ₁ H₂ f h₃ t₃ φ₃ z ho F₃ R₃ k₃ => ?_
      obtain ⟨rfl, H₃, z, u⟩ := z
      cases ho
      exact ⟨0, Nat.zero_lt_one, .inr ⟨rfl, h₃, t₃, φ₃, ρ₁, H₂, H₃, rfl, z, u, F₃, R₃, k₂.q.trans (fa_there F (F.kp k₂)) k₃⟩⟩
    · refine z A env h₁ t₁ σ φ₁ _ _ rm F₁ R₁ fun h₂ t₂ φ₂ R₂ k₂ => ?_
      exact wpAny_execs_nil (wpAny_execs_nil (kk none ρ₁ H₃ .next h₂ t₂ φ₂ u .next (F₁.kp k₂) R₂ (k₁.trans (fa_there F F₁) k₂.q)))
theorem evD_call {x : Str} {np p : Pos} {es : List PySem.Expr} {vs : List V} {f : Addr} (a : EvA W d sc ρ H es vs H₁) (fn : FnD W d H₁ (.ref f) vs U) (e : nsIn W.K mainGlobals x = some (some (.ref f))) (hk : keepIn W.K (.ref f) = true)
    (hx : sc.names.lookup x = some .globalImplicit) (hs : noStars es = true := by rfl) (hd : (x == ("__debug__" : Str)) = false := by decide) : EvD W d sc ρ H (.Call (.Name x np) es [] p) U :=
  fun A env h t σ φ Q E rm F R k => by
    show wpAny _ _ (eval (.Name x np) env >>= fun g => callWith p g [] (backTo p (starEach es env)) (backToKw p (keywordEach [] env))) _ _ _
    refine wpAny_bind (wp_global F R hx e ?_ hd)
    exact wp_callWith (keeps_def hk) a hs rm F R fun vs' h' t' φ' y R' kp => wpAny_call (fn A h' t' σ φ' vs' _ rm R' y fun v H' v' h₂ t₂ φ₂ u yv R₂ k₂ => k v H' v' h₂ t₂ φ₂ u yv R₂ (kp.trans k₂))
theorem evD_builtin {x : Str} {np p : Pos} {es : List PySem.Expr} {vs : List V} {f : Value} (a : EvA W d sc ρ H es vs H₁) (z : CallD W d H₁ f vs U)
    (e : nsIn W.K mainGlobals x = some none) (hx : sc.names.lookup x = some .globalImplicit) (hv : bootBuiltins x = some f) (hn : x ≠ "__name__") (hf : ∀ a, f ≠ .ref a)
    (hs : noStars es = true := by rfl) (hd : (x == ("__debug__" : Str)) = false := by decide) : EvD W d sc ρ H (.Call (.Name x np) es [] p) U :=
  fun A env h t σ φ Q E rm F R k => by
    show wpAny _ _ (eval (.Name x np) env >>= fun g => callWith p g [] (backTo p (starEach es env)) (backToKw p (keywordEach [] env))) _ _ _
    refine wpAny_bind (wp_builtin F R hx e hv hn ?_ hd)
    exact wp_callWith (keeps_machine hf) a hs rm F R fun vs' h' t' φ' y R' kp => z A h' t' σ φ' vs' Q E rm R' y fun v H' v' h₂ t₂ φ₂ u yv R₂ k₂ => k v H' v' h₂ t₂ φ₂ u yv R₂ (kp.trans k₂)
theorem evD_meth {o : PySem.Expr} {m : Str} {ap p : Pos} {es : List PySem.Expr} {vs : List V} {f : Addr} {i : Nat} {C : Addr} {fs : List (Str × V)} (x : Ev W d sc ρ H o (.ref i) H₁) (hi : H₁[i]? = some (.inst C fs)) (hl : fs.lookup m = none)
    (a : EvA W d sc ρ H₁ es vs H₂) (fn : FnD W d H₂ (.ref f) (.ref i :: vs) U) (hm : methOk W.K C m f = true)
    (hs : noStars es = true := by rfl) (hc : isCall o = false := by rfl) (hn : decide (es.length < 29) = true := by rfl) (hp : (ap.endLine == p.line) = true := by rfl) : EvD W d sc ρ H (.Call (.Attribute o m ap) es [] p) U :=
  fun A env h t σ φ Q E rm F R k => by
    unfold methOk at hm
    simp only [Bool.and_eq_true] at hm
    obtain ⟨⟨⟨m1, m2⟩, m3⟩, m4⟩ := hm
    show wpAny _ _ (attributeBase o m env (eval o env) >>= fun ov => standAt ap.atName >>= fun _ => methodCall o m ap p env ov (es.length + 0) (backTo p (starEach es env)) (backToKw p (keywordEach [] env))) _ _ _
    rw [attributeBase_plain hc]
    refine wpAny_bind (x A env h t σ φ _ E rm F R fun ov h₁ t₁ φ₁ yo R₁ k₁ => wpAny_bind (wpAny_standAt ?_))
    have few : methodCallForm (es.length + 0) (backTo p (starEach es env)) (backToKw p (keywordEach [] env)) = true := by
      have b := backTo_plain (env := env) (p := p) hs
      have c : (backTo p (starEach es env)).all (!·.1) = true := by rw [List.all_eq_not_any_not]; simpa using b
      show ((backTo p (starEach es env)).all (!·.1) && true && decide (es.length + 0 + 0 < 30)) = true
      rw [c]
      have := of_decide_eq_true hn
      simp; (first | lia | omega)
    unfold methodCall
    rw [few]
    cases yo with
    | @ref _ oa dx ea =>
      obtain ⟨q, eq', o1, en, n, o2, fr⟩ := R₁.at hi
      rw [ea] at eq'; cases eq'
      have X₁ := W.X.keeps R₁.base
      refine wpAny_bind (wpAny_holding ?_)
      show wpAny _ _ (getMethod (.ref oa) m _) _ _ _
      refine method_fn (s := St σ h₁ t₁) (od := some (dictOf en n)) X₁ ⟨o1, rfl, rfl, o2⟩ (plainGet_of m1).1 (plainGet_of m1).2 (beq_iff_eq.mp m2) (beq_iff_eq.mp m3) ?_ ?_
      · show (lookIn m (dictOf en n)).map _ = _
        rw [lookIn_dict, fr_none fr hl]; rfl
      · dsimp only
        unfold methodCallPos
        simp only [Bool.not_true, Bool.false_or, hp, if_true]
        refine wpAny_bind (wpAny_pure ?_)
        have F₁ := F.kp k₁
        refine wp_callWith (keeps_def m4) a hs rm F₁ R₁ fun vs' h' t' φ' y R' kp => wpAny_call (fn A h' t' σ φ' _ _ rm R' (.cons ((VR.ref ea).mono kp.pre) y) fun v H' v' h₂ t₂ φ₂ u yv R₂ k₂ => k v H' v' h₂ t₂ φ₂ u yv R₂ ((k₁.trans kp).trans k₂))
theorem evD_comp {elt iter : PySem.Expr} {x : Str} {px pos : Pos} {ifs : List PySem.Expr} {scope : Scope} {U₁ : V → List O → Prop} (a : EvD W d sc ρ H iter U₁)
    (r : ∀ v H₁, U₁ v H₁ → ∃ i all ys H', v = .ref i ∧ H₁[i]? = some (.list all) ∧ CompR W d (relabelS scope sc) x (cap scope ρ) elt ifs (fun H => H[i]? = some (.list all)) H₁ all ys H' ∧ all.length ≤ sizeLine ∧ U (.ref H'.length) (H' ++ [.list ys]))
    (hc : compOk scope sc x = true) (hn : noSet iter = true := by rfl) : EvD W d sc ρ H (.ListComp elt [⟨.Name x px, iter, ifs, 0⟩] scope pos) U :=
  fun A env h t σ φ Q E rm F R kk => by
    obtain ⟨f1, f2, f3, f4, f5, f6⟩ := comp_facts (ρ := ρ) hc
    obtain ⟨cl, e1, e2, e3⟩ := closure_of (scope := scope) (env := env) fun p hp q => F.have_ _ (f5 p hp q)
    rw [eval_ListComp]
    refine wpAny_comprehension_free (use := none) (g := ⟨.Name x px, iter, ifs, 0⟩) (gs := []) rfl (folded_no hn) e1 f2 f4 (a A env h t σ φ _ E rm F R fun v H₁ v' h₁ t₁ φ₁ u y R₁ k₁ => ?_)
    obtain ⟨i, all, ys, H', rfl, h0, r, hz, u⟩ := r v H₁ u
    refine comp_core (RR := fun acc C => compPost (mdl W) A E none Q acc C) (iterL W i all) r h0 f1 f2 f3 f6 hz rm (F.kp k₁) R₁ y e2 e3 fun D C h' t' φ' m yD R' kp nC ndC bC ns => ⟨m, ns, fun h'' sb => ?_⟩
    refine kk _ _ _ h'' t' φ' u yD (R'.keep (fun b o dd e => (sb.2 b fun q => ndC (q ▸ dd)).trans e) fun b o e => (sb.2 b fun q => by rw [q, bC] at e; cases e).trans (R'.base b o e)) (k₁.trans (kp.off (.refl _) (fun b o o₁ e1 dd e => (sb.2 b fun q => by rw [q, nC] at e1; cases e1).trans e) fun b dd => .inl dd))
theorem fnD_gen {f : Addr} {name qual : Str} {params : Arguments} {body : List Stmt} {scope : Scope} {dV kV doc pm cdv ct oc : Value} {an od : Option Addr} {osl : Array (Option Value)} {names : List Str} {vs : List V}
    (hd : 1 ≤ d) (ho : W.K.lookup f = some ⟨oc, od, .func (fnOf name qual params body scope dV kV doc pm an cdv ct), osl⟩) (hcd : codeIn W.K cdv qual = true)
    (hb : ∀ (s : Shared) (vs' : List Value), W.K.In s.heap → vs'.length = vs.length → BindsTo s (fnOf name qual params body scope dV kV doc pm an cdv ct) ⟨vs', []⟩ (names.zip vs'))
    (hn : names.Nodup) (hk : ∀ x ∈ names, scope.names.lookup x = some .local ∨ scope.names.lookup x = some .cell)
    (x : ExD W (d - 1) scope (names.zip vs) H body fun o _ H' => U (outV o) H')
    (hco : scope.isCoroutine = false := by rfl) (hgen : scope.isGenerator = false := by rfl) (hkd : scope.kind = .function := by rfl) : FnD W d H (.ref f) vs U := by
  intro A h t σ φ vs' R rm RR y k
  have low : ∀ b o, h.get? b = some o → b < h.objs.size := fun b o e => Heap.lt_size e
  refine codeAny_call_function (s := St σ h t) (fd := fnOf name qual params body scope dV kV doc pm an cdv ct) (body := body) rm.room ((W.X.keeps RR.base) _ _ ho) rfl hco hgen rfl (codeRec_of (W.X.keeps RR.base) hcd)
    (hb _ vs' (W.X.keeps RR.base) y.length.symm _ _ _ _ ?_)
  refine wpAny_newFunctionEnv_cells hkd (fun p hp => ?_) fun env he s₁ I => ?_
  · have := hk p.1 (List.of_mem_zip hp).1
    rcases this with q | q
    · exact .inl q
    · exact .inr ⟨q, cellsFrom_some _ _ _ (.inl q)⟩
  · have he' : env = callEnvC (fnOf name qual params body scope dV kV doc pm an cdv ct) h.objs.size f := he
    subst he'
    obtain ⟨h₁, t₁, rfl⟩ := I.toInCall.same
    have keep : ∀ b o, h.get? b = some o → h₁.get? b = some o := I.toInCall.keep
    refine ⟨(W.T.nolimit.keeps RR.base).keeps keep, codeAny_func ?_⟩
    have R₁ : HR W φ H h₁ := RR.grow keep
    have Lg : (callEnvC (fnOf name qual params body scope dV kV doc pm an cdv ct) h.objs.size f).locals = h.objs.size := rfl
    have cge : ∀ n c, (callEnvC (fnOf name qual params body scope dV kV doc pm an cdv ct) h.objs.size f).cells.lookup n = some c → h.objs.size < c := fun n c e => by
      have := I.above n c (mem_of_lookup e); rwa [Lg] at this
    have F₁ : Fm W scope (callEnvC (fnOf name qual params body scope dV kV doc pm an cdv ct) h.objs.size f) φ h₁ (names.zip vs) := by
      refine ⟨rfl, hkd, rfl, rfl, fun z u e => hk z (zip_lookup_mem e), ⟨_, I.toInCall.ns, fun z u e q => bindL_zip (kindOf := (callEnvC (fnOf name qual params body scope dV kV doc pm an cdv ct) h.objs.size f).kindOf) q hn y e⟩, fun z u e q => ?_, fun z c e => ?_, fun z z' c e e' => ?_, fun z q => ?_, ?_⟩
      · obtain ⟨c, hc⟩ := Option.isSome_iff_exists.mp (cellsFrom_some scope.names (h.objs.size + 1) [] (.inl q))
        obtain ⟨v', e1, e2⟩ := bindC_zip (m := fun _ => none) (kindOf := (callEnvC (fnOf name qual params body scope dV kV doc pm an cdv ct) h.objs.size f).kindOf) (by show scope.names.lookup z ≠ _; rw [q]; decide) hn y e
        exact ⟨c, v', hc, e1 ▸ I.cell z c hc, e2⟩
      · have g := cge z c e
        exact ⟨⟨_, I.cell z c e⟩, (RR.fresh (Nat.le_of_lt g)).1, (RR.fresh (Nat.le_of_lt g)).2, Nat.ne_of_gt g⟩
      · exact name_of_addr I.apart (mem_of_lookup e) (mem_of_lookup e')
      · exact Option.isSome_iff_exists.mp (cellsFrom_some scope.names (h.objs.size + 1) [] (.inl q))
      · exact RR.fresh (Nat.le_refl _)
    refine wpAny_mono (x _ _ h₁ t₁ σ φ (fun fl s' => R (.ok (.ret (match fl with | .ret v => v | _ => .none))) s') (fun _ _ => False) (rm.deeper hd _) F₁ R₁ fun o ρ' H' fl h' t' φ' u ho F' R' kq => ?_) (fun _ _ z => z) (fun _ _ z => z.elim)
    have kp : Kp φ h φ' h' := ⟨kq.pre, fun b o dd e => kq.keep b o dd (fun fa => by
        have lb := low b o e
        rcases fa with rfl | ⟨z, e'⟩
        · exact Nat.lt_irrefl _ lb
        · exact absurd (cge z b e') (Nat.not_lt.mpr (Nat.le_of_lt lb))) (keep b o e), fun b dd => (kq.new b dd).imp id fun z => by
          cases q : h.get? b with
          | none => rfl
          | some o => rw [keep b o q] at z; cases z⟩
    cases ho with
    | ret yv => exact k _ _ _ h' t' φ' u yv R' kp
    | next => exact k _ _ _ h' t' φ' u .none R' kp
theorem fnD_of {a : Addr} {s : Stmt} {qual : Str} {names : List Str} {n : Nat} {vs : List V} (P : FnAt W.K a s qual names n []) (hd : 1 ≤ d) (hl : vs.length = n)
    (hn : names.Nodup) (hk : ∀ x ∈ names, (stScope s).names.lookup x = some .local ∨ (stScope s).names.lookup x = some .cell) (x : ExD W (d - 1) (stScope s) (names.zip vs) H (stBody s) fun o _ H' => U (outV o) H')
    (hco : (stScope s).isCoroutine = false) (hgen : (stScope s).isGenerator = false) (hkd : (stScope s).kind = .function) : FnD W d H (.ref a) vs U := by
  obtain ⟨oc, od, osl, dV, kV, doc, pm, an, cdv, ct, e1, e2, e3⟩ := P
  exact fnD_gen hd e1 e2 (fun s vs' X e => kp_binds X fun S => by simpa using e3 S vs' (e.trans hl)) hn hk x hco hgen hkd
theorem ints_perm {xs ys : List Value} {ns : List Int} (hI : IntsAre xs ns) (p : ys.Perm xs) : ∃ ms, IntsAre ys ms ∧ ms.Perm ns :=
  ⟨ys.map numOf, intsAre_map ys fun v hv => hI.all v (p.mem_iff.mp hv), hI.nums ▸ p.map numOf⟩
theorem ints_vsr {φ : Map} {xs : List Value} {ns : List Int} (hI : IntsAre xs ns) : VsR φ (ns.map .int) xs := by
  induction hI with
  | nil => exact .nil
  | cons n t _ ih => exact .cons (.int _ _) ih
theorem ints_keys {es : List (Int × V)} {kvs : List (Int × Value)} {φ : Map} (h : All2 (KR φ) es kvs) : ∀ {acc : List Value}, acc.length = kvs.length → (∀ (j : Nat) (v : Value), acc[j]? = some v → ∃ k x, kvs[j]? = some (k, x) ∧ Value.isInt k v = true) → IntsAre acc (es.map (·.1)) := by
  induction h with
  | nil =>
    intro acc l _
    cases acc with
    | nil => exact .nil
    | cons _ _ => cases l
  | @cons p q es kvs hp _ ih =>
    intro acc l hv
    cases acc with
    | nil => cases l
    | cons v r =>
      obtain ⟨k, x, e, hk⟩ := hv 0 v rfl
      simp at e
      subst e
      obtain ⟨t, rfl⟩ := Value.isInt_shape hk
      have e1 : p.1 = k := hp.1
      rw [List.map_cons, e1]
      exact .cons k t (ih (by simpa using l) fun j v e => by simpa using hv (j + 1) v (by simpa using e))
theorem callD_sorted {i : Nat} {es : List (Int × V)} {ep : Nat} (ho : H[i]? = some (.idt es ep)) (hz : es.length ≤ sizeLine) : CallD W d H (.builtin "sorted") [.ref i] fun v H' => ∃ ks : List Int, ks.Perm (es.map (·.1)) ∧ v = .ref H.length ∧ H' = H ++ [.list (ks.map .int)] :=
  fun A h t σ φ vs' Q E rm R ys k => by
    obtain ⟨v', rfl, y⟩ := ys.one
    obtain ⟨a, kvs, rfl, ea, hd, yk, lo⟩ := R.idt ho y
    have kl := yk.length
    refine call_function_entry kind_sorted plain_sorted entry_sorted (args_sorted1 _) ?_
    unfold Builtin.«sorted»
    refine wpAny_bind (m := checkCount "sorted" 1 1 _) (wpAny_pure ?_)
    refine wpAny_bind (kdu_collect (kdl_dict (kvs := kvs) (ep := ep) lo) rm.hh hd (by rw [← kl]; exact hz) fun h' tk acc hk hacc => ?_)
    have hl : acc.toList.length = kvs.length := by rw [Array.length_toList]; exact hacc.1
    have hzl : acc.toList.length ≤ sizeLine := by rw [hl, ← kl]; exact hz
    have hI : IntsAre acc.toList (es.map (·.1)) := ints_keys yk hl fun j v e => hacc.2 j v (by rw [← Array.getElem?_toList]; exact e)
    refine wpAny_bind (wpAny_newList ?_ hzl)
    have hoL : (h'.push (seqObj "list" acc.toList.toArray 0)).get? h'.objs.size = some (seqObj "list" acc.toList.toArray 0) := Heap.get?_push_size _ rfl
    refine wpAny_bind (wpAny_holding (wpAny_call_entry slot_list_sort ⟨_, hoL, rfl⟩ entry_list_sort (list_sort_any (s := { St σ h t with heap := h'.push (seqObj "list" acc.toList.toArray 0), toks := tk }) hoL hI hzl fun out hp => ⟨_, rfl, ?_⟩) (args_list_sort _)))
    refine wpAny_pure ⟨_, rfl, ?_⟩
    obtain ⟨ks, hks, pk⟩ := ints_perm hI hp
    obtain ⟨e, he⟩ := sortedHeap_at (out := out) hoL
    have kk : ∀ b o, h.get? b = some o → (sortedHeap (h'.push (seqObj "list" acc.toList.toArray 0)) h'.objs.size acc.toList out).get? b = some o := fun b o e => by
      have e1 := hk b o e
      have lt := Heap.lt_size e1
      rw [sortedHeap_old (Nat.ne_of_lt lt) (by rw [size_push']; exact Nat.lt_succ_of_lt lt)]
      exact Heap.get?_push_of_some _ e1
    have n1 : h.get? h'.objs.size = none := by
      cases q : h.get? h'.objs.size with
      | none => rfl
      | some o => exact absurd (Heap.lt_size (hk _ _ q)) (Nat.lt_irrefl _)
    have orr : OR W (φ ++ [(h'.objs.size, h'.objs.size)]) (sortedHeap (h'.push (seqObj "list" acc.toList.toArray 0)) h'.objs.size acc.toList out) (h'.objs.size, h'.objs.size) (.list (ks.map .int)) := ⟨rfl, out.toList, e, by simpa using he, ints_vsr hks⟩
    exact k (.ref H.length) (H ++ [.list (ks.map .int)]) (.ref h'.objs.size) _ tk (φ ++ [(h'.objs.size, h'.objs.size)]) ⟨ks, pk, rfl, rfl⟩ (.ref (d := h'.objs.size) (by rw [← R.len]; simp)) (R.push orr kk n1 n1) (Kp.push kk n1 n1)
end
theorem ex1_for0 {W : Wd} {d : Nat} {sc : Scope} {ρ : Loc} {H H₁ : List O} {x : Str} {px pos : Pos} {iter : PySem.Expr} {body : List Stmt} {i : Nat} (a : Ev W d sc ρ H iter (.ref i) H₁) (h : H₁[i]? = some (.list [])) (hx : sc.names.lookup x = some .local ∨ sc.names.lookup x = some .cell) (hn : noSet iter = true := by rfl) :
    Ex1 W d sc ρ H (.For (.Name x px) iter body [] pos) none ρ H₁ := ex1_for a (iterL W i []) h (.done h) hx hn
section
variable {W : Wd} {d : Nat} {H : List O} (P : PF W.K)
include P
theorem r_held_by {s : Nat} {n c : Int} {wk : Nat} {fr : Bool} {v : V} (hd : 1 ≤ d) (h : H[s]? = some (oScalar n c wk fr v)) : ∃ id, H.length ≤ id ∧ ∃ H', Fn W d H (.ref f_held_by) [.ref s] (.ref id) H' ∧ H'[id]? = some (.list []) ∧ Ext H H' := by
  refine ⟨(H ++ [O.list []]).length, by simp, (H ++ [O.list []]) ++ [O.list []], ?_, at_new, Chg.push' Chg.push⟩
  refine' fn_held_by (o := some _) P ?x (by walk_at "m_hv") (by walk_at "m_d")
  case x =>
    conv => arg 6; whnf
    have e : Ev W (d - 1) S_held_by [(Str.ofString "held", .ref H.length), (Str.ofString "thing", .ref s)] (H ++ [O.list []]) (.Name "held" default) (.ref H.length) (H ++ [O.list []]) := ev_name rfl
    walk_at "m_ifE"
    case y =>
      walk_at "m_ifE"
      case y =>
        walk_at "m_ifE"
        case y =>
          walk_at "m_ifE"
          case y =>
            walk_at "m_st"
            exact ex_nil
          exact ex_nil
        exact ex_nil
      exact ex_nil
    exact ex_ret (ex1_return (ev_comp (ev_name rfl) (iterL W H.length []) at_new (.done at_new) (by decide +kernel) (Nat.zero_le _) rfl))
theorem r_empty_out {s : Nat} {n c : Int} {wk : Nat} {fr : Bool} {v : V} (hd : 1 ≤ d) (h : H[s]? = some (oScalar n c wk fr v)) : Fn W d H (.ref f_empty_out) [.ref s] .none H := by
  refine' fn_empty_out (o := none) P ?x (by walk_at "m_hv") (by walk_at "m_d")
  case x =>
    conv => arg 6; whnf
    walk_at "m_ifE"
    case y =>
      walk_at "m_ifE"
      case y =>
        walk_at "m_ifE"
        case y =>
          walk_at "m_ifE"
          case y => exact ex_nil
          exact ex_nil
        exact ex_nil
      exact ex_nil
    exact ex_nil
theorem r_finish {s ct : Nat} {n : Int} {wk : Nat} {fr : Bool} {v : V} (hd : 1 ≤ d) (h : H[s]? = some (oScalar n 0 wk fr v)) : Fn W d H (.ref f_finish) [.ref ct, .ref s] .none H := by
  refine' fn_finish (o := some .none) P ?x (by walk_at "m_hv") (by walk_at "m_d")
  case x =>
    conv => arg 6; whnf
    have c1 : CmpR W (d - 1) H .NotEq (.int 0) (.int 0) false := cmp_ne_int.to rfl
    have c2 : CmpR W (d - 1) H .Is .none .none true := cmp_is_none.to rfl
    refine' ex_ret (ex1_ifT (H₁ := H) ?hx (ex_ret ex1_return0))
    case hx => exact tr_or (b := false) (by walk_at "m_tr") (fun _ => tr_or (b := true) (by walk_at "m_tr") (fun e => by cases e) (fun _ => ⟨rfl, rfl⟩)) (fun e => by cases e)
theorem c_free {ix : Ix} {s wk : Nat} {n c : Int} {p : PV} {v : V} (hd : 5 ≤ d) (hct : H[ix.ct]? = some (oCounter ix.hp ix.pl)) (hpl : H[ix.pl]? = some (.idt [] 0)) (hs : H[s]? = some (oScalar n 0 wk false v)) (hv : IsV ix.th H p v) (hw : H[wk]? = some (.list [])) (hth : H[ix.th]? = some (oArray 1 c ix.wkt ix.itt)) (hc : c - rf p ≠ 0) :
    ∃ H', Fn W d H (.ref f_free) [.ref ix.ct, .ref s] .none H' ∧ Chg [s, ix.th] H H' ∧ H'[ix.th]? = some (oArray 1 (c - rf p) ix.wkt ix.itt) := by
  have n1 : s ≠ ix.th := fun q => by rw [q, hth] at hs; cases hs
  have n2 : s ≠ ix.ct := fun q => by rw [q, hct] at hs; cases hs
  have n3 : s ≠ ix.pl := fun q => by rw [q, hpl] at hs; cases hs
  have n4 : s ≠ wk := fun q => by rw [q, hw] at hs; cases hs
  have n5 : ix.th ≠ s := Ne.symm n1
  have x1 : Chg [s, ix.th] H (H.set s (oScalar n 0 wk true v)) := Chg.set' (by simp) (Chg.refl _ _)
  have s1 : (H.set s (oScalar n 0 wk true v))[s]? = some (oScalar n 0 wk true v) := at_same hs
  have w1 : (H.set s (oScalar n 0 wk true v))[wk]? = some (.list []) := at_ne n4 hw
  generalize hH1 : H.set s (oScalar n 0 wk true v) = H1 at *
  have x2 : Chg [s, ix.th] H ((H1 ++ [O.list []]).set s (oScalar n 0 H1.length true v)) := Chg.set' (by simp) (Chg.push' x1)
  have s2 : ((H1 ++ [O.list []]).set s (oScalar n 0 H1.length true v))[s]? = some (oScalar n 0 H1.length true v) := at_same (at_old s1)
  have ct2 : ((H1 ++ [O.list []]).set s (oScalar n 0 H1.length true v))[ix.ct]? = some (oCounter ix.hp ix.pl) := at_ne n2 (at_old (by rw [← hH1]; exact at_ne n2 hct))
  have pl2 : ((H1 ++ [O.list []]).set s (oScalar n 0 H1.length true v))[ix.pl]? = some (.idt [] 0) := at_ne n3 (at_old (by rw [← hH1]; exact at_ne n3 hpl))
  have th2 : ((H1 ++ [O.list []]).set s (oScalar n 0 H1.length true v))[ix.th]? = some (oArray 1 c ix.wkt ix.itt) := at_ne n1 (at_old (by rw [← hH1]; exact at_ne n1 hth))
  generalize hH2 : (H1 ++ [O.list []]).set s (oScalar n 0 H1.length true v) = H2 at *
  have x3 : Chg [s, ix.th] H (H2.set s (oScalar n 0 H1.length true .none)) := Chg.set' (by simp) x2
  have s3 : (H2.set s (oScalar n 0 H1.length true .none))[s]? = some (oScalar n 0 H1.length true .none) := at_same s2
  have ct3 : (H2.set s (oScalar n 0 H1.length true .none))[ix.ct]? = some (oCounter ix.hp ix.pl) := at_ne n2 ct2
  have th3 : (H2.set s (oScalar n 0 H1.length true .none))[ix.th]? = some (oArray 1 c ix.wkt ix.itt) := at_ne n1 th2
  generalize hH3 : H2.set s (oScalar n 0 H1.length true .none) = H3 at *
  have hv3 : IsV ix.th H3 p v := by
    cases p with
    | ref =>
      obtain ⟨r, e, q⟩ := hv
      refine ⟨r, e, x3.at q fun m => ?_⟩
      rcases List.mem_cons.mp m with z | m
      · rw [z, hs] at q; cases q
      · rw [List.mem_singleton.mp m, hth] at q; cases q
    | _ => exact hv
  have f1 := c_put_off (d := d - 1) (s := .ref s) P (by walk_at "m_d") ct3 th3 hv3 hc
  have x4 : Chg [s, ix.th] H (H3.set ix.th (oArray 1 (c - rf p) ix.wkt ix.itt)) := Chg.set' (by simp) x3
  have s4 : (H3.set ix.th (oArray 1 (c - rf p) ix.wkt ix.itt))[s]? = some (oScalar n 0 H1.length true .none) := at_ne n5 s3
  have th4 : (H3.set ix.th (oArray 1 (c - rf p) ix.wkt ix.itt))[ix.th]? = some (oArray 1 (c - rf p) ix.wkt ix.itt) := at_same th3
  generalize hH4 : H3.set ix.th (oArray 1 (c - rf p) ix.wkt ix.itt) = H4 at *
  refine cps fun G hG => ?_
  obtain ⟨id, _, H5, f2, l5, x5⟩ := r_held_by (d := d - 1) P (by walk_at "m_d") s4
  refine hG ?_
  clear hG
  have f3 := r_empty_out (d := d - 1) P (by walk_at "m_d") (x5.get s4)
  refine ⟨H5, ?_, (x4.trans x5).sub fun i m => by simp at m ⊢; exact .inl m, x5.get th4⟩
  refine' fn_free (o := none) (ρ' := [(Str.ofString "gone", .ref id), (Str.ofString "old", v), (Str.ofString "self", .ref ix.ct), (Str.ofString "thing", .ref s)]) P ?x (by walk_at "m_hv") (by walk_at "m_d")
  case x =>
    conv => arg 6; whnf
    refine ex_cons (ρ₁ := [(Str.ofString "self", .ref ix.ct), (Str.ofString "thing", .ref s)]) (H₁ := H1) (hH1 ▸ ex1_setattr (by walk_at "m_ev") (by walk_at "m_ev") hs (P.set (by decide)) (Nat.le_of_ble_eq_true rfl)) ?_
    refine ex_cons (ρ₁ := [(Str.ofString "self", .ref ix.ct), (Str.ofString "thing", .ref s)]) (H₁ := H1) (ex1_for0 (i := wk) (by walk_at "m_ev") w1 (.inl rfl) rfl) ?_
    refine ex_cons (ρ₁ := [(Str.ofString "self", .ref ix.ct), (Str.ofString "thing", .ref s)]) (H₁ := H2) (hH2 ▸ ex1_setattr (by walk_at "m_ev") (by walk_at "m_ev") (at_old s1) (P.set (by decide)) (Nat.le_of_ble_eq_true rfl)) ?_
    refine ex_cons (ρ₁ := [(Str.ofString "old", v), (Str.ofString "self", .ref ix.ct), (Str.ofString "thing", .ref s)]) (H₁ := H4) (ex1_ifT (H₁ := H2) (by walk_at "m_tr") ?_) ?_
    · have e0 : H2.set ix.pl (O.idt [] 0) = H2 := set_self pl2
      walk_at "m_st"
      walk_at "m_st"
      refine ex_cons (ρ₁ := [(Str.ofString "old", v), (Str.ofString "self", .ref ix.ct), (Str.ofString "thing", .ref s)]) (H₁ := H3) (hH3 ▸ ex1_setattr (by walk_at "m_ev") (by walk_at "m_ev") s2 (P.set (by decide)) (Nat.le_of_ble_eq_true rfl)) ?_
      walk_at "m_st"
      exact ex_nil
    · walk_at "m_st"
      walk_at "m_st"
      exact ex_cons (ex1_for0 (i := id) (by walk_at "m_ev") l5 (.inl rfl) rfl) ex_nil
end
theorem perm_lift {α β : Type} (f : α → β) {ks l : List β} (p : ks.Perm l) : ∀ {zs : List α}, l = zs.map f → ∃ zs' : List α, zs'.Perm zs ∧ ks = zs'.map f := by
  induction p with
  | nil => intro zs e; cases zs with
    | nil => exact ⟨[], .refl _, rfl⟩
    | cons _ _ => cases e
  | cons x _ ih => intro zs e; cases zs with
    | nil => cases e
    | cons z r =>
      rw [List.map_cons] at e
      injection e with e1 e2
      obtain ⟨zs', p, rfl⟩ := ih e2
      exact ⟨z :: zs', p.cons z, by rw [List.map_cons, e1]⟩
  | swap x y l => intro zs e; match zs, e with
    | a :: b :: r, e =>
      rw [List.map_cons, List.map_cons] at e
      injection e with e1 e2
      injection e2 with e2 e3
      exact ⟨b :: a :: r, List.Perm.swap a b r, by simp [e1, e2, e3]⟩
  | trans _ _ ih1 ih2 =>
    intro zs e
    obtain ⟨z1, p1, e1⟩ := ih2 e
    obtain ⟨z2, p2, e2⟩ := ih1 e1
    exact ⟨z2, p2.trans p1, e2⟩
noncomputable def iES (zs : List M) : List (Int × V) := zs.map fun m => (m.num, .ref m.id)
theorem iES_at {zs : List M} (nd : (zs.map (·.num)).Nodup) {m : M} (h : m ∈ zs) : vAt (iES zs) m.num = some (.ref m.id) := by
  induction zs with
  | nil => cases h
  | cons z r ih =>
    rw [List.map_cons, List.nodup_cons] at nd
    unfold vAt iES
    rw [List.map_cons, List.find?_cons]
    rcases List.mem_cons.mp h with rfl | h
    · simp
    · have ne : z.num ≠ m.num := fun q => nd.1 (q ▸ List.mem_map.mpr ⟨m, h, rfl⟩)
      simp only [ne, decide_false]
      exact ih nd.2 h
theorem iES_put {zs r : List M} {m : M} (nd : ((zs ++ m :: r).map (·.num)).Nodup) : putD (iES zs) m.num (.ref m.id) = iES (zs ++ [m]) := by
  unfold putD
  have : (iES zs).any (fun kv => decide (kv.1 = m.num)) = false := by
    rw [List.any_eq_false]
    intro p hp
    obtain ⟨z, hz, rfl⟩ := List.mem_map.mp hp
    rw [List.map_append, List.map_cons, List.nodup_append] at nd
    simpa using nd.2.2 _ (List.mem_map.mpr ⟨z, hz, rfl⟩) m.num (.head _)
  rw [this]
  simp [iES]
theorem comp_same {W : Wd} {d : Nat} {csc : Scope} {x : Str} {ρc : Loc} {elt : PySem.Expr} {S : List O → Prop} {H : List O} {f g : M → V} (s : S H) : ∀ (zs : List M), (∀ m ∈ zs, Ev W d csc ((x, f m) :: ρc) H elt (g m) H) → CompR W d csc x ρc elt [] S H (zs.map f) (zs.map g) H
  | [], _ => .done s
  | m :: r, h => .take s ⟨rfl, rfl⟩ (h m (.head _)) (comp_same s r fun m hm => h m (.tail _ hm))
section
variable {W : Wd} {d : Nat} {H : List O} (P : PF W.K)
include P
theorem c_in_order {l : Nat} {zs : List M} (hd : 2 ≤ d) (hl : H[l]? = some (.list (mref zs))) (hm : ∀ m ∈ zs, ∃ wk v, H[m.id]? = some (oScalar m.num 0 wk false v)) (nd : (zs.map (·.num)).Nodup) (hz : zs.length ≤ sizeLine) :
    FnD W d H (.ref f_in_order) [.ref l] fun v H' => ∃ (zs' : List M) (id : Nat), zs'.Perm zs ∧ v = .ref id ∧ H'[id]? = some (.list (mref zs')) ∧ H.length ≤ id ∧ Ext H H' := by
  refine fnD_of (names := ["things"]) P.in_order (by walk_at "m_d") rfl (by decide +kernel) (by decide +kernel) ?_ rfl rfl rfl
  show ExD W (d - 1) S_in_order [(Str.ofString "things", .ref l)] H B_in_order _
  conv => arg 6; whnf
  refine exD_cons (ρ₁ := [(Str.ofString "found", .ref H.length), (Str.ofString "things", .ref l)]) (H₁ := H ++ [.idt [] 0]) (ex1_assign ev_dict_i (.inr rfl) rfl) ?_
  refine exD_for (ev_name rfl) (iterL W l (mref zs)) (at_old hl) ?_ (.inl rfl) rfl
  refine forP_gen (fun (_ : Unit) => [(Str.ofString "found", .ref H.length), (Str.ofString "things", .ref l)]) (fun _ H₂ rest => ∃ z₁ z₂ ep, zs = z₁ ++ z₂ ∧ rest = mref z₂ ∧ H₂ = H ++ [.idt (iES z₁) ep]) () (fun _ _ e => e) ⟨[], zs, 0, rfl, rfl, rfl⟩ ?_ ?_
  · rintro _ H₂ v rest ⟨z₁, z₂, ep, e, e1, rfl⟩
    refine ⟨at_old hl, ?_⟩
    cases z₂ with
    | nil => cases e1
    | cons m z₃ =>
      cases e1
      obtain ⟨wk, v, hs⟩ := hm m (by rw [e]; simp)
      have hs' : (H ++ [O.idt (iES z₁) ep])[m.id]? = some (oScalar m.num 0 wk false v) := at_old hs
      have zl : (iES z₁).length ≤ sizeLine := by
        have := congrArg List.length e
        simp [iES] at this ⊢
        (first | lia | omega)
      refine ⟨(), H ++ [.idt (iES (z₁ ++ [m])) (putE (iES z₁) m.num ep)], ?_, z₁ ++ [m], z₃, _, by simp [e], rfl, rfl⟩
      refine (Ex.weak (ρ' := (Str.ofString "thing", .ref m.id) :: [(Str.ofString "found", .ref H.length), (Str.ofString "things", .ref l)]) ?_ (.cons rfl (.cons rfl .nil)))
      refine ex_cons (ex1_ifT (H₁ := H ++ [O.idt (iES z₁) ep]) ?_ ?_) ex_nil
      · have c1 : CmpR W (d - 1) (H ++ [O.idt (iES z₁) ep]) .Eq (.int 0) (.int 0) true := cmp_eq_int.to rfl
        exact tr_and (b := true) (by walk_at "m_tr") (fun _ => tr_and (b := true) (by walk_at "m_tr") (fun _ => tr_and_nil) (fun e => by cases e)) (fun e => by cases e)
      · have e9 : H ++ [O.idt (iES (z₁ ++ [m])) (putE (iES z₁) m.num ep)] = (H ++ [O.idt (iES z₁) ep]).set H.length (O.idt (putD (iES z₁) m.num (.ref m.id)) (putE (iES z₁) m.num ep)) := by rw [set_last, iES_put (r := z₃) (e ▸ nd)]
        rw [e9]
        exact ex_cons (ex1_setikey (H₁ := H ++ [O.idt (iES z₁) ep]) (H₂ := H ++ [O.idt (iES z₁) ep]) (H₃ := H ++ [O.idt (iES z₁) ep]) (by walk_at "m_ev") (by walk_at "m_ev") (by walk_at "m_ev") at_new zl) ex_nil
  · rintro _ H₂ ⟨z₁, z₂, ep, e, e1, rfl⟩
    refine ⟨at_old hl, ?_⟩
    cases z₂ with
    | cons m z₃ => cases e1
    | nil =>
      rw [List.append_nil] at e
      subst e
      refine exD_ret (evD_comp (U := fun v H' => ∃ (zs' : List M) (id : Nat), zs'.Perm zs ∧ v = .ref id ∧ H'[id]? = some (.list (mref zs')) ∧ H.length ≤ id ∧ Ext H H') (evD_builtin (eva_cons (ev_name rfl) eva_nil) (callD_sorted at_new (by simpa [iES] using hz)) (g_sorted P) rfl b_sorted (by decide) (by intro _ q; cases q) rfl) ?_ (by decide +kernel) rfl) fun v H' u => u
      rintro v H₁ ⟨ks, pk, rfl, rfl⟩
      have e0 : (iES zs).map (·.1) = zs.map (·.num) := by simp [iES]
      rw [e0] at pk
      obtain ⟨zs', pz, rfl⟩ := perm_lift (fun m : M => m.num) pk rfl
      have e1 : (zs'.map (·.num)).map V.int = zs'.map fun m => V.int m.num := by simp
      refine ⟨_, _, mref zs', (H ++ [O.idt (iES zs) ep]) ++ [O.list ((zs'.map (·.num)).map V.int)], rfl, at_new, ?_, ?_, zs', _, pz, rfl, at_new, ?_, ?_⟩
      · rw [e1]
        refine comp_same (g := fun m => .ref m.id) at_new zs' fun m hm => ?_
        have va := iES_at nd (pz.mem_iff.mp hm)
        have hf : ((H ++ [O.idt (iES zs) ep]) ++ [O.list (zs'.map fun m => V.int m.num)])[H.length]? = some (.idt (iES zs) ep) := at_old at_new
        walk_at "m_ev"
      · simpa using pz.length_eq ▸ hz
      · simp
      · exact (Chg.push' (Chg.push' Chg.push))
theorem c_settle {ix : Ix} {last : Int} {live zs : List M} (hd : 8 ≤ d) (C : Core ix H last live zs) (hb : last ≤ 16000000) :
    FnD W d H (.ref f_settle) [.ref ix.ct, .int 0] fun v H' => v = .none ∧ Chg (ix.hp :: ix.th :: zs.map (·.id)) H H' ∧ H'[ix.th]? = some (oArray 1 (1 + (nref live : Nat)) ix.wkt ix.itt) := by
  refine fnD_of (names := ["self", "start"]) P.settle (by walk_at "m_d") rfl (by decide +kernel) (by decide +kernel) ?_ rfl rfl rfl
  show ExD W (d - 1) S_settle [(Str.ofString "self", .ref ix.ct), (Str.ofString "start", .int 0)] H B_settle _
  conv => arg 6; whnf
  refine cps fun G hG => ?_
  obtain ⟨a1, a2, a3, a4, a5, a6⟩ := C.apart
  refine hG ?_
  clear hG
  have hct := C.ct
  have hhp := C.hp
  have hz := C.z
  have hcnt := C.cnt
  simp only [List.length_append] at hcnt
  have sl := sizeLine_eq
  have zl : zs.length ≤ sizeLine := by push_cast at hcnt; (first | lia | omega)
  have zl2 : (mref zs).length < 2 ^ 62 := by simp; (first | lia | omega)
  cases hzs : zs with
  | nil =>
    subst hzs
    have c0 : CmpR W (d - 1) H .Gt (.int ((mref []).length : Nat)) (.int 0) false := cmp_gt.to rfl
    refine exD_cons (ex1_while (n := 0) (.done (H' := H) (by walk_at "m_tr"))) (exD_nil ⟨rfl, Chg.refl _ _, ?_⟩)
    have := C.th
    rwa [nref_nil, Nat.add_zero] at this
  | cons m₀ r₀ =>
    rw [← hzs]
    have c0 : CmpR W (d - 1) H .Gt (.int ((mref zs).length : Nat)) (.int 0) true := cmp_gt.to (by rw [hzs]; simp)
    refine exD_while1 (H₁ := H) (by walk_at "m_tr") ?_
    -- dying
    have hl1 : (H ++ [O.list (mref zs)])[H.length]? = some (.list (mref zs)) := at_new
    have nd : (zs.map (·.num)).Nodup := by
      have := C.nums
      rw [List.map_append, List.nodup_append] at this
      exact this.2.1
    have ndi : (zs.map (·.id)).Nodup := by
      have := C.ids
      rw [List.map_append, List.nodup_append] at this
      exact this.2.1
    have fo := c_in_order (d := d - 1) P (by walk_at "m_d") hl1 (fun m hm => by obtain ⟨wk, v, h, _⟩ := C.ded m hm; exact ⟨wk, v, at_old h⟩) nd zl
    refine exD_assign (evD_call (eva_cons (ev_slice (lo := some 0) (hi := none) (ws := mref zs) (by walk_at "m_ev") (ev_name rfl) trivial hz rfl (by simpa using zl)) eva_nil) fo (g_in_order P) (kp_in_order P) rfl rfl rfl) ?_ (.inl rfl) rfl
    rintro v H₂ ⟨zs', id, pz, rfl, hid, idl, x₂⟩
    have x02 : Ext H H₂ := Ext.tr Chg.push x₂
    have hp2 := x02.get hhp
    have ct2 := x02.get hct
    have z2 := x02.get hz
    -- zero
    have n0 : ix.hp ≠ H₂.length := Nat.ne_of_lt (at_lt hp2)
    refine exD_cons (ρ₁ := [(Str.ofString "dying", .ref id), (Str.ofString "self", .ref ix.ct), (Str.ofString "start", .int 0)]) (H₁ := (H₂ ++ [O.list []]).set ix.hp (oHeap ix.lim last H₂.length))
      ?st ?_
    case st =>
      refine ex1_setattr (H₁ := H₂ ++ [O.list []]) (v := .ref H₂.length) ?sa ?sb (at_old hp2) (P.set (by decide)) (Nat.le_of_ble_eq_true rfl)
      case sa => exact ev_slice (lo := none) (hi := some 0) (ws := []) (by walk_at "m_ev") trivial (ev_name rfl) z2 rfl (by simpa using zl)
      case sb =>
        have := at_old (o' := O.list []) ct2
        walk_at "m_ev"
    have x3 : Chg [ix.hp] H₂ ((H₂ ++ [O.list []]).set ix.hp (oHeap ix.lim last H₂.length)) := Chg.set' (by simp) (Chg.push' (Chg.refl _ _))
    have hp3 : ((H₂ ++ [O.list []]).set ix.hp (oHeap ix.lim last H₂.length))[ix.hp]? = some (oHeap ix.lim last H₂.length) := at_same (at_old hp2)
    have z3 : ((H₂ ++ [O.list []]).set ix.hp (oHeap ix.lim last H₂.length))[H₂.length]? = some (.list []) := at_ne n0 at_new
    have keep : ∀ i o, i ≠ ix.hp → H[i]? = some o → ((H₂ ++ [O.list []]).set ix.hp (oHeap ix.lim last H₂.length))[i]? = some o := fun i o n e => x3.at (x02.get e) (by simpa using n)
    have id3 : ((H₂ ++ [O.list []]).set ix.hp (oHeap ix.lim last H₂.length))[id]? = some (.list (mref zs')) := x3.at hid (by simpa using fun q => by rw [q, hp2] at hid; cases hid)
    have x03 : Chg [ix.hp] H ((H₂ ++ [O.list []]).set ix.hp (oHeap ix.lim last H₂.length)) := (x02.trans x3).sub fun i h => .inl (by simpa using h)
    generalize (H₂ ++ [O.list []]).set ix.hp (oHeap ix.lim last H₂.length) = H₃ at *
    have hzm : ∀ m ∈ zs', m ∈ zs := fun m h => pz.mem_iff.mp h
    have ne3 : ∀ m ∈ zs', m.id ≠ ix.th ∧ m.id ≠ ix.hp ∧ m.id ≠ ix.ct := fun m h => by
      have := C.ne_th (List.mem_append_right live (hzm m h))
      exact ⟨this.1, this.2.1, this.2.2.2.1⟩
    have ct3 := keep _ _ a5 hct
    have pl3 : H₃[ix.pl]? = some (.idt [] 0) := keep _ _ (fun q => by have := C.pl; rw [q, hhp] at this; cases this) C.pl
    have th3 : H₃[ix.th]? = some (oArray 1 (1 + (nref live + nref zs' : Nat)) ix.wkt ix.itt) := by
      have e : nref zs' = nref zs := pz.countP_eq _
      rw [e]
      exact keep _ _ a1 C.th
    have mem3 : ∀ m ∈ zs', ∃ wk v, H₃[m.id]? = some (oScalar m.num 0 wk false v) ∧ IsV ix.th H₃ m.val v ∧ H₃[wk]? = some (.list []) := fun m h => by
      refine cps fun G hG => ?_
      obtain ⟨wk, v, e1, e2, e3, _⟩ := C.ded m (hzm m h)
      refine hG ?_
      clear hG
      refine ⟨wk, v, keep _ _ (ne3 m h).2.1 e1, ?_, keep _ _ (fun q => by rw [q, hhp] at e3; cases e3) e3⟩
      generalize m.val = p at e2 ⊢
      cases p with
      | ref => obtain ⟨r, q, e2⟩ := e2; exact ⟨r, q, keep _ _ (fun z => by rw [z, hhp] at e2; cases e2) e2⟩
      | _ => exact e2
    have nd' : (zs'.map (·.id)).Nodup := (pz.map _).nodup_iff.mpr ndi
    -- finish
    refine exD_for (ev_name rfl) (iterL W id (mref zs')) id3 ?_ (.inl rfl) rfl
    refine forP_gen (fun (_ : Unit) => [(Str.ofString "dying", .ref id), (Str.ofString "self", .ref ix.ct), (Str.ofString "start", .int 0)]) (fun _ H₄ rest => H₄ = H₃ ∧ ∃ z₂ : List M, rest = mref z₂ ∧ ∀ m ∈ z₂, m ∈ zs') () (fun _ _ e => e) ⟨rfl, zs', rfl, fun _ h => h⟩ ?_ ?_
    · rintro _ H₄ v rest ⟨rfl, z₂, e1, hz2⟩
      refine ⟨id3, ?_⟩
      cases z₂ with
      | nil => cases e1
      | cons m z₃ =>
        cases e1
        obtain ⟨wk, v, hs, _⟩ := mem3 m (hz2 m (.head _))
        have f1 := r_finish (d := d - 1) (ct := ix.ct) P (by walk_at "m_d") hs
        refine ⟨(), H₄, ?_, rfl, z₃, rfl, fun m h => hz2 m (.tail _ h)⟩
        refine (Ex.weak (ρ' := (Str.ofString "thing", .ref m.id) :: [(Str.ofString "dying", .ref id), (Str.ofString "self", .ref ix.ct), (Str.ofString "start", .int 0)]) ?_ (.cons rfl (.cons rfl (.cons rfl .nil))))
        walk_at "m_st"
        exact ex_nil
    rintro _ H₄ ⟨rfl, _⟩
    refine ⟨id3, ?_⟩
    -- free
    refine exD_for (ev_name rfl) (iterL W id (mref zs')) id3 ?_ (.inl rfl) rfl
    have idX : id ∉ ix.th :: zs'.map (·.id) := fun m => by
      rcases List.mem_cons.mp m with q | q
      · rw [q, th3] at id3; cases id3
      · obtain ⟨m, hm, q⟩ := List.mem_map.mp q
        obtain ⟨wk, v, hs, _⟩ := mem3 m hm
        rw [q, id3] at hs; cases hs
    refine forP_gen (fun (_ : Unit) => [(Str.ofString "dying", .ref id), (Str.ofString "self", .ref ix.ct), (Str.ofString "start", .int 0)])
      (fun _ H₅ rest => ∃ z₁ z₂ : List M, A5 (zs' = z₁ ++ z₂) (rest = mref z₂) (Chg (ix.th :: zs'.map (·.id)) H₄ H₅) (H₅[ix.th]? = some (oArray 1 (1 + (nref live + nref z₂ : Nat)) ix.wkt ix.itt)) (∀ m ∈ z₂, ∃ wk v, H₅[m.id]? = some (oScalar m.num 0 wk false v) ∧ IsV ix.th H₅ m.val v ∧ H₅[wk]? = some (.list [])))
      () (fun _ _ e => e) ⟨[], zs', rfl, rfl, Chg.refl _ _, th3, mem3⟩ ?_ ?_
    · rintro _ H₅ v rest ⟨z₁, z₂, e, e1, x5, th5, mem5⟩
      refine ⟨x5.at id3 idX, ?_⟩
      cases z₂ with
      | nil => cases e1
      | cons m z₃ =>
        cases e1
        obtain ⟨wk, v, hs, hv, hw⟩ := mem5 m (.head _)
        have hm' : m ∈ zs' := by rw [e]; simp
        have nX : ∀ i, (∀ fs, H₄[i]? ≠ some (.inst cArray fs)) → (∀ fs, H₄[i]? ≠ some (.inst cScalar fs)) → i ∉ ix.th :: zs'.map (·.id) := fun i n1 n2 hh => by
          rcases List.mem_cons.mp hh with q | q
          · exact n1 _ (q ▸ th3)
          · obtain ⟨m, hm, q⟩ := List.mem_map.mp q
            obtain ⟨wk, v, hs, _⟩ := mem3 m hm
            exact n2 _ (q ▸ hs)
        have ct5 := x5.at ct3 (nX _ (fun fs q => by rw [ct3] at q; cases q) (fun fs q => by rw [ct3] at q; cases q))
        have pl5 := x5.at pl3 (nX _ (fun fs q => by rw [pl3] at q; cases q) (fun fs q => by rw [pl3] at q; cases q))
        have nr : nref (m :: z₃) = rf m.val + nref z₃ := nref_cons m z₃
        rw [nr] at th5
        obtain ⟨H₆, f1, x6, th6⟩ := c_free (d := d - 1) P (by walk_at "m_d") ct5 pl5 hs hv hw th5 (by push_cast; (first | lia | omega))
        have eq6 : (1 + ((nref live + (rf m.val + nref z₃) : Nat) : Int)) - rf m.val = 1 + ((nref live + nref z₃ : Nat) : Int) := by push_cast; (first | lia | omega)
        rw [eq6] at th6
        have nd2 := nd'
        rw [e, List.map_append, List.map_cons, List.nodup_append, List.nodup_cons] at nd2
        refine ⟨(), H₆, ?_, z₁ ++ [m], z₃, by simp [e], rfl, (x5.trans x6).sub fun i h => .inl ?_, th6, fun y hy => ?_⟩
        · refine (Ex.weak (ρ' := (Str.ofString "thing", .ref m.id) :: [(Str.ofString "dying", .ref id), (Str.ofString "self", .ref ix.ct), (Str.ofString "start", .int 0)]) ?_ (.cons rfl (.cons rfl (.cons rfl .nil))))
          refine ex_cons (ex1_ifT (H₁ := H₅) ?_ ?_) ex_nil
          · have c1 : CmpR W (d - 1) H₅ .Eq (.int 0) (.int 0) true := cmp_eq_int.to rfl
            exact tr_and (b := true) (by walk_at "m_tr") (fun _ => tr_and (b := true) (by walk_at "m_tr") (fun _ => tr_and_nil) (fun e => by cases e)) (fun e => by cases e)
          · walk_at "m_st"
            exact ex_nil
        · rcases List.mem_append.mp h with h | h
          · exact h
          · simp at h
            rcases h with rfl | rfl
            · exact List.mem_cons_of_mem _ (List.mem_map.mpr ⟨m, hm', rfl⟩)
            · exact .head _
        · obtain ⟨wk', v', hs', hv', hw'⟩ := mem5 y (.tail _ hy)
          have ny : y.id ≠ m.id := fun q => nd2.2.1.1 (q ▸ List.mem_map.mpr ⟨y, hy, rfl⟩)
          have nt : y.id ≠ ix.th := (ne3 y (by rw [e]; simp [hy])).1
          refine ⟨wk', v', x6.at hs' (by simp [ny, nt]), ?_, x6.at hw' ?_⟩
          · generalize y.val = p at hv' ⊢
            cases p with
            | ref =>
              obtain ⟨r, q, e2⟩ := hv'
              refine ⟨r, q, x6.at e2 fun hh => ?_⟩
              rcases List.mem_cons.mp hh with z | hh
              · rw [z, hs] at e2; cases e2
              · rw [List.mem_singleton.mp hh, th5] at e2; cases e2
            | _ => exact hv'
          · intro hh
            rcases List.mem_cons.mp hh with z | hh
            · rw [z, hs] at hw'; cases hw'
            · rw [List.mem_singleton.mp hh, th5] at hw'; cases hw'
    · rintro _ H₅ ⟨z₁, z₂, e, e1, x5, th5, mem5⟩
      refine ⟨x5.at id3 idX, ?_⟩
      cases z₂ with
      | cons m z₃ => cases e1
      | nil =>
        have hpX : ix.hp ∉ ix.th :: zs'.map (·.id) := fun m => by
          rcases List.mem_cons.mp m with q | q
          · exact a1 q.symm
          · obtain ⟨m, hm, q⟩ := List.mem_map.mp q
            exact (ne3 m hm).2.1 q
        have ctX : ix.ct ∉ ix.th :: zs'.map (·.id) := fun m => by
          rcases List.mem_cons.mp m with q | q
          · exact a4 q
          · obtain ⟨m, hm, q⟩ := List.mem_map.mp q
            exact (ne3 m hm).2.2 q
        have zX : H₂.length ∉ ix.th :: zs'.map (·.id) := fun m => by
          rcases List.mem_cons.mp m with q | q
          · rw [q, th3] at z3; cases z3
          · obtain ⟨m, hm, q⟩ := List.mem_map.mp q
            obtain ⟨wk, v, hs, _⟩ := mem3 m hm
            rw [q, z3] at hs; cases hs
        have hp5 := x5.at hp3 hpX
        have ct5 := x5.at ct3 ctX
        have z5 := x5.at z3 zX
        have c5 : CmpR W (d - 1) H₅ .Gt (.int (([] : List V).length : Nat)) (.int 0) false := cmp_gt.to rfl
        refine exD_nil ⟨rfl, H₅, by walk_at "m_tr", rfl, (x03.trans x5).sub fun i h => .inl ?_, by rwa [nref_nil, Nat.add_zero] at th5⟩
        rcases List.mem_append.mp h with h | h
        · simp at h; subst h; exact .head _
        · rcases List.mem_cons.mp h with rfl | h
          · exact .tail _ (.head _)
          · exact .tail _ (.tail _ ((pz.map _).mem_iff.mp h))
end
noncomputable abbrev oLim : O := .inst cLimits [(Str.ofString "width", .int 64), (Str.ofString "depth", .int 50), (Str.ofString "steps", .int (10 ^ 6)), (Str.ofString "text", .int (10 ^ 5)), (Str.ofString "items", .int (10 ^ 4))]
theorem CoreC.next {ix : Ix} {H H' : List O} {last last' c : Int} {live zs : List M} (C : CoreC ix H last live zs c) (x : Chg [ix.hp] H H') (e : H'[ix.hp]? = some (oHeap ix.lim last' ix.z)) (l : last ≤ last') : CoreC ix H' last' live zs c := by
  obtain ⟨a1, a2, a3, a4, a5, a6⟩ := C.apart
  have s : Sub ix H H' := x.toSub fun i h o eo => by simp at h; subst h; rw [C.hp] at eo; cases eo; exact nk_hp
  have mem : ∀ c m, m ∈ live ++ zs → MemAt ix H c m → MemAt ix H' c m := fun c m h y => y.mono s fun o eo => x.at eo (by simpa using (C.ne_th h).2.1)
  exact {
    ct := s.ctr C.ct
    pl := s.idt C.pl
    hp := e
    z := x.at C.z (by simpa using Ne.symm a3)
    th := x.at C.th (by simpa using a1)
    liv := fun m h => mem 1 m (List.mem_append_left _ h) (C.liv m h)
    ded := fun m h => mem 0 m (List.mem_append_right _ h) (C.ded m h)
    ids := C.ids
    nums := C.nums
    numle := fun m h => Int.le_trans (C.numle m h) l
    cnt := Int.le_trans C.cnt l }
theorem CoreC.held {ix : Ix} {H : List O} {last c c' : Int} {live zs : List M} (C : CoreC ix H last live zs c) : CoreC ix (H.set ix.th (oArray 1 c' ix.wkt ix.itt)) last live zs c' := by
  obtain ⟨a1, a2, a3, a4, a5, a6⟩ := C.apart
  have s : Sub ix H (H.set ix.th (oArray 1 c' ix.wkt ix.itt)) := Sub.set C.th nk_th
  have mem : ∀ c m, m ∈ live ++ zs → MemAt ix H c m → MemAt ix (H.set ix.th (oArray 1 c' ix.wkt ix.itt)) c m := fun c m h y => y.mono s fun o eo => at_ne (Ne.symm (C.ne_th h).1) eo
  exact {
    ct := s.ctr C.ct
    pl := s.idt C.pl
    hp := at_ne a1 C.hp
    z := at_ne a2 C.z
    th := at_same C.th
    liv := fun m h => mem 1 m (List.mem_append_left _ h) (C.liv m h)
    ded := fun m h => mem 0 m (List.mem_append_right _ h) (C.ded m h)
    ids := C.ids
    nums := C.nums
    numle := C.numle
    cnt := C.cnt }
theorem set_midb {H : List O} {o o' b : O} : ((H ++ [o]) ++ [b]).set H.length o' = (H ++ [o']) ++ [b] := by simp
section
variable {W : Wd} {d : Nat} {H : List O} (P : PF W.K)
include P
theorem r_Limits_new (hd : 1 ≤ d) : Fn W d (H ++ [.inst cLimits []]) (.ref f_Limits_init) [.ref H.length] .none (H ++ [oLim]) := by
  have h : (H ++ [O.inst cLimits []])[H.length]? = some (.inst cLimits []) := at_new
  refine' Fn.to (fn_Limits_init (o := none) P ?x (by walk_at "m_hv") (by walk_at "m_d")) ?e
  case x =>
    conv => arg 6; whnf
    iterate 6 walk_at "m_st"
  case e => simp only [List.set_set]; exact set_last
theorem r_Heap_new {lim : Nat} (hd : 1 ≤ d) : Fn W d (H ++ [.inst cHeap []]) (.ref f_Heap_init) [.ref H.length, .ref lim] .none ((H ++ [oHeap lim 0 (H.length + 1)]) ++ [.list []]) := by
  have h : (H ++ [O.inst cHeap []])[H.length]? = some (.inst cHeap []) := at_new
  refine' Fn.to (fn_Heap_init (o := none) P ?x (by walk_at "m_hv") (by walk_at "m_d")) ?e
  case x =>
    conv => arg 6; whnf
    iterate 4 walk_at "m_st"
  case e => simp only [set_last, set_midb, List.length_append, List.length_singleton]; rfl
theorem r_Counter_new {hp : Nat} (hd : 1 ≤ d) : Fn W d (H ++ [.inst cCounter []]) (.ref f_Counter_init) [.ref H.length, .ref hp, .none] .none ((H ++ [oCounter hp (H.length + 1)]) ++ [.idt [] 0]) := by
  have h : (H ++ [O.inst cCounter []])[H.length]? = some (.inst cCounter []) := at_new
  refine' Fn.to (fn_Counter_init (o := none) P ?x (by walk_at "m_hv") (by walk_at "m_d")) ?e
  case x =>
    conv => arg 6; whnf
    iterate 2 walk_at "m_st"
    refine' ex_cons (ex1_setattr ev_dict_i (ev_name rfl) ?o ?p ?z) ex_nil
    case o => walk_at "m_at"
    case p => exact P.set (by decide)
    case z => exact Nat.le_of_ble_eq_true rfl
  case e => simp only [set_last, set_midb, List.length_append, List.length_singleton]; rfl
theorem r_Array_init {s : Nat} {k : Int} (hd : 2 ≤ d) (h : H[s]? = some (.inst cArray [])) : ∃ H' it, Fn W d H (.ref f_Array_init) [.ref s, .int k] .none H' ∧ Chg [s] H H' ∧ H'[s]? = some (oArray k 0 H.length it) ∧ H'[H.length]? = some (.list []) ∧ H'[it]? = some (.list []) ∧ H.length ≤ it := by
  refine cps fun G hG => ?_
  obtain ⟨H₁, fn, c, l, e⟩ := r_Thing_init (d := d - 1) (k := k) P (by walk_at "m_d") (.inr (.inl rfl)) h
  refine hG ?_
  clear hG
  have ne : s ≠ H.length := Nat.ne_of_lt (at_lt h)
  have n2 : s ≠ H₁.length := Nat.ne_of_lt (at_lt e)
  refine' ⟨_, H₁.length, fn_Array_init (o := none) P ?x (by walk_at "m_hv") (by walk_at "m_d"), ?c, ?s, ?l, ?i, c.1⟩
  case x =>
    conv => arg 6; whnf
    iterate 4 walk_at "m_st"
  case c => exact Chg.set' (by simp) (Chg.set' (by simp) (Chg.push' c))
  case s => exact at_same (at_same (at_old e))
  case l => exact at_ne ne (at_ne ne (at_old l))
  case i => exact at_ne n2 (at_ne n2 at_new)
theorem r_Hash_init {s : Nat} {k : Int} (hd : 2 ≤ d) (h : H[s]? = some (.inst cHash [])) : ∃ H' tb wk, Fn W d H (.ref f_Hash_init) [.ref s, .int k] .none H' ∧ Chg [s] H H' ∧ H'[s]? = some (oHash k 0 wk tb) ∧ H'[tb]? = some (.sd [] 0) := by
  refine cps fun G hG => ?_
  obtain ⟨H₁, fn, c, l, e⟩ := r_Thing_init (d := d - 1) (k := k) P (by walk_at "m_d") (.inr (.inr rfl)) h
  refine hG ?_
  clear hG
  have n2 : s ≠ H₁.length := Nat.ne_of_lt (at_lt e)
  refine' ⟨_, H₁.length, H.length, fn_Hash_init (o := none) P ?x (by walk_at "m_hv") (by walk_at "m_d"), ?c, ?s, ?i⟩
  case x =>
    conv => arg 6; whnf
    iterate 5 walk_at "m_st"
  case c => exact Chg.set' (by simp) (Chg.set' (by simp) (Chg.set' (by simp) (Chg.push' c)))
  case s => exact at_same (at_same (at_same (at_old e)))
  case i => exact at_ne n2 (at_ne n2 (at_ne n2 at_new))
theorem r_new_array {hp lim z : Nat} {last : Int} (hd : 4 ≤ d) (h : H[hp]? = some (oHeap lim last z)) : ∃ H' wk it, Fn W d H (.ref f_new_array) [.ref hp] (.ref H.length) H' ∧ Chg [hp] H H' ∧ H'[hp]? = some (oHeap lim (last + 1) z) ∧
    H'[H.length]? = some (oArray (last + 1) 0 wk it) ∧ H'[wk]? = some (.list []) ∧ H'[it]? = some (.list []) ∧ H.length ≤ it := by
  have f1 := r_next_number (d := d - 1) P (by walk_at "m_d") h
  refine cps fun G hG => ?_
  obtain ⟨H₂, it, f2, c2, e2, l2, i2, li⟩ := r_Array_init (d := d - 1 - 1) (H := H.set hp (oHeap lim (last + 1) z) ++ [.inst cArray []]) (k := last + 1) P (by walk_at "m_d") at_new
  refine hG ?_
  clear hG
  have ln : (H.set hp (oHeap lim (last + 1) z)).length = H.length := by simp
  rw [ln] at f2 c2 e2
  have nh : hp ≠ H.length := Nat.ne_of_lt (at_lt h)
  refine' ⟨H₂, _, it, fn_new_array (o := some (.ref H.length)) P ?x (by walk_at "m_hv") (by walk_at "m_d"), ?c, ?a, e2, l2, i2, ?b⟩
  case x =>
    conv => arg 6; whnf
    rw [← ln] at f2 ⊢
    walk_at "m_st"
  case c =>
    refine ((Chg.push' (Chg.set' (X := [hp]) (by simp) (Chg.refl _ _))).trans c2).sub fun i m => ?_
    simp at m ⊢
    (first | lia | omega)
  case a => exact c2.at (at_old (at_same h)) (by simpa using nh)
  case b => simp at li; (first | lia | omega)
theorem r_new_hash {hp lim z : Nat} {last : Int} (hd : 4 ≤ d) (h : H[hp]? = some (oHeap lim last z)) : ∃ H' wk tb, Fn W d H (.ref f_new_hash) [.ref hp] (.ref H.length) H' ∧ Chg [hp] H H' ∧ H'[hp]? = some (oHeap lim (last + 1) z) ∧
    H'[H.length]? = some (oHash (last + 1) 0 wk tb) ∧ H'[tb]? = some (.sd [] 0) := by
  have f1 := r_next_number (d := d - 1) P (by walk_at "m_d") h
  refine cps fun G hG => ?_
  obtain ⟨H₂, tb, wk, f2, c2, e2, i2⟩ := r_Hash_init (d := d - 1 - 1) (H := H.set hp (oHeap lim (last + 1) z) ++ [.inst cHash []]) (k := last + 1) P (by walk_at "m_d") at_new
  refine hG ?_
  clear hG
  have ln : (H.set hp (oHeap lim (last + 1) z)).length = H.length := by simp
  rw [ln] at f2 c2 e2
  have nh : hp ≠ H.length := Nat.ne_of_lt (at_lt h)
  refine' ⟨H₂, wk, tb, fn_new_hash (o := some (.ref H.length)) P ?x (by walk_at "m_hv") (by walk_at "m_d"), ?c, ?a, e2, i2⟩
  case x =>
    conv => arg 6; whnf
    rw [← ln] at f2 ⊢
    walk_at "m_st"
  case c =>
    refine ((Chg.push' (Chg.set' (X := [hp]) (by simp) (Chg.refl _ _))).trans c2).sub fun i m => ?_
    simp at m ⊢
    (first | lia | omega)
  case a => exact c2.at (at_old (at_same h)) (by simpa using nh)
end
section
variable {W : Wd} {d : Nat} {sc : Scope} {ρ : Loc} {H H₁ : List O} {ss : List Stmt} {T : Out → Loc → List O → Prop}
theorem exD_assignP {x : Str} {p q : Pos} {e : PySem.Expr} (a : EvP W d sc ρ H e fun v H₁ => ExD W d sc ((x, v) :: ρ) H₁ ss T) (hx : sc.names.lookup x = some .local ∨ sc.names.lookup x = some .cell) (hc : isComp e = false := by rfl) : ExD W d sc ρ H (.Assign [.Name x p] e q :: ss) T := by
  obtain ⟨v, H₁, x, y⟩ := a
  exact exD_cons (ex1_assign x hx hc) y
theorem exD_assign_compP {elt iter : PySem.Expr} {x y : Str} {px py pos q : Pos} {ifs : List PySem.Expr} {scope : Scope} {S₀ S : List O → Prop} {src : V} {all : List V} (a : Ev W d sc ρ H iter src H₁) (K : IterK W S₀ S src all) (h0 : S₀ H₁)
    (r : CompP W d (relabelS scope sc) x (cap scope ρ) elt ifs S H₁ all fun ys H' => ExD W d sc ((y, .ref H'.length) :: ρ) (H' ++ [.list ys]) ss T) (hc : compOk scope sc x = true) (hz : all.length ≤ sizeLine) (hy : sc.names.lookup y = some .local ∨ sc.names.lookup y = some .cell) (hn : noSet iter = true) :
    ExD W d sc ρ H (.Assign [.Name y py] (.ListComp elt [⟨.Name x px, iter, ifs, 0⟩] scope pos) q :: ss) T := by
  obtain ⟨ys, H', r, t⟩ := r
  exact exD_cons (ex1_assign_comp a K h0 r hc hz hy hn) t
end
noncomputable def five : List PV := [.int 5, .str (Str.ofString "x"), .none, .ref, .int (-2)]
noncomputable def fiveV (r : Nat) : List V := [.int 5, .str (Str.ofString "x"), .none, .ref r, .int (-2)]
theorem five_at {H : List O} {th r j : Nat} (hj : j < 5) (hr : H[r]? = some (oRef th)) : ∃ p v, five[j]? = some p ∧ (fiveV r)[((j : Nat) : Int).toNat]? = some v ∧ IsV th H p v := by
  have : j = 0 ∨ j = 1 ∨ j = 2 ∨ j = 3 ∨ j = 4 := by (first | lia | omega)
  rcases this with rfl | rfl | rfl | rfl | rfl
  · exact ⟨_, _, rfl, rfl, rfl⟩
  · exact ⟨_, _, rfl, rfl, rfl⟩
  · exact ⟨_, _, rfl, rfl, rfl⟩
  · exact ⟨.ref, .ref r, rfl, rfl, r, rfl, hr⟩
  · exact ⟨_, _, rfl, rfl, rfl⟩
theorem take_push {α : Type} {l : List α} {j : Nat} {p : α} (h : l[j]? = some p) : l.take (j + 1) = l.take j ++ [p] := by
  rw [List.take_succ, h]; rfl
noncomputable def Bs : Nat → Nat
  | 0 => 1
  | j + 1 => 5 * Bs j + 1
theorem Bs_le {j : Nat} (h : j ≤ 5) : Bs j ≤ 3906 := by
  have : j = 0 ∨ j = 1 ∨ j = 2 ∨ j = 3 ∨ j = 4 ∨ j = 5 := by (first | lia | omega)
  rcases this with rfl | rfl | rfl | rfl | rfl | rfl <;> decide
theorem CoreC.ext' {ix : Ix} {H H' : List O} {last c : Int} {live zs : List M} (C : CoreC ix H last live zs c) (x : Ext H H') : CoreC ix H' last live zs c := C.mono (fun _ _ e _ => x.get e) (x.sub ix)
noncomputable def B_l (k : Nat) : List Stmt := B_law.drop k
section
variable {W : Wd} {d : Nat} (P : PF W.K)
include P
theorem c_five {ix : Ix} {H : List O} {T : Out → Loc → List O → Prop} (hd : 20 ≤ d) (C : CoreC ix H 1 [] [] 0) {a : Addr} (hT : ∀ H' ms id, CoreC ix H' 6 ms [] 1 → H'[id]? = some (.list (mref ms)) → 2 < id → ms.map (·.val) = five → Sub ix H H' →
      ExD W d S_law [(Str.ofString "scalars", .ref id), (Str.ofString "thing", .ref ix.th), (Str.ofString "counter", .ref ix.ct), (Str.ofString "heap", .ref ix.hp), (Str.ofString "script", .ext a)] H' (B_l 4) T) (h2 : 2 < H.length) :
    ExD W d S_law [(Str.ofString "thing", .ref ix.th), (Str.ofString "counter", .ref ix.ct), (Str.ofString "heap", .ref ix.hp), (Str.ofString "script", .ext a)] H (B_l 3) T := by
  conv => arg 6; whnf
  refine exD_assign_compP (H₁ := H ++ [.rng 0 5 1]) (src := .ref H.length) (by walk_at "m_ev") (iterR W H.length 0 5 1 (by decide)) at_new ?_ (by decide +kernel) (by decide +kernel) (.inl rfl) rfl
  refine compP_gen (fun H₁ rest ys => ∃ (j : Nat) (ms : List M), A6 (rest = (ran 0 5 1).drop j) (ys = mref ms) (CoreC ix H₁ (1 + j) ms [] (nref ms : Nat)) (ms.map (·.val) = five.take j) (Sub ix H H₁) (j ≤ 5)) ⟨0, [], rfl, rfl, C.push, rfl, Sub.push, by (first | lia | omega)⟩ ?_ ?_
  · rintro H₁ v rest ys ⟨j, ms, e, rfl, C₁, hm, s₁, hj⟩
    refine ⟨trivial, ?_⟩
    have hv0 : (ran 0 5 1)[j]? = some v := drop_hd e
    have e' : rest = (ran 0 5 1).drop (j + 1) := drop_tl e
    obtain ⟨lt, rfl⟩ := ran_at hv0
    have lt5 : j < 5 := lt
    have ev : (0 : Int) + (j : Int) * 1 = (j : Int) := by (first | lia | omega)
    rw [ev]
    have fr := r_Ref_new (d := d - 1) (H := H₁) (th := ix.th) P (by walk_at "m_d")
    have C₂ : CoreC ix ((H₁ ++ [oRef ix.th]) ++ [O.list (fiveV H₁.length)]) (1 + j) ms [] (nref ms : Nat) := C₁.push.push
    have hr : ((H₁ ++ [oRef ix.th]) ++ [O.list (fiveV H₁.length)])[H₁.length]? = some (oRef ix.th) := at_old at_new
    refine cps fun G hG => ?_
    obtain ⟨p, u, hp, hu, iu⟩ := five_at (j := j) lt5 hr
    refine hG ?_
    clear hG
    obtain ⟨H₃, f1, C₃, s₃⟩ := c_freshC (d := d) P (by walk_at "m_d") C₂ iu
    have hct := C₂.ct
    have q0 : (0 : Int) ≤ (j : Int) := by (first | lia | omega)
    have q1 : (j : Int) < 2 ^ 63 := by (first | lia | omega)
    refine ⟨.ref ((H₁ ++ [oRef ix.th]) ++ [O.list (fiveV H₁.length)]).length, H₃, ?_, j + 1, ms ++ [⟨((H₁ ++ [oRef ix.th]) ++ [O.list (fiveV H₁.length)]).length, 1 + j + 1, p⟩], e', by simp, ?_, ?_, (s₁.trans (Sub.push.trans Sub.push)).trans s₃, by (first | lia | omega)⟩
    · refine ev_meth (ev_name rfl) (i := ix.ct) (H₁ := H₁) C₁.ct rfl (eva_cons (H₁ := (H₁ ++ [oRef ix.th]) ++ [O.list (fiveV H₁.length)]) (v := u) ?_ eva_nil rfl) f1 (P.meth (by decide)) rfl rfl rfl rfl
      refine ev_item (H₁ := (H₁ ++ [oRef ix.th]) ++ [O.list (fiveV H₁.length)]) (i := (H₁ ++ [oRef ix.th]).length) (vs := fiveV H₁.length) ?_ (ev_name rfl) at_new q0 q1 hu rfl
      refine ev_list (vs := fiveV H₁.length) ?_ (Nat.le_of_ble_eq_true rfl)
      show EvA W d _ _ H₁ _ [V.int 5, .str (Str.ofString "x"), .none, .ref H₁.length, .int (-2)] _
      walk_at "m_eva"
    · have e1 : ((1 : Int) + ((j + 1 : Nat) : Int)) = 1 + j + 1 := by push_cast; (first | lia | omega)
      have e2 : ((nref (ms ++ [(⟨((H₁ ++ [oRef ix.th]) ++ [O.list (fiveV H₁.length)]).length, 1 + j + 1, p⟩ : M)]) : Nat) : Int) = (nref ms : Nat) + rf p := by rw [nref_append, nref_cons, nref_nil]; push_cast; (first | lia | omega)
      rw [e1, e2]
      exact C₃
    · rw [List.map_append, hm, take_push hp]; rfl
  · rintro H₁ ys ⟨j, ms, e, rfl, C₁, hm, s₁, hj⟩
    refine ⟨trivial, ?_⟩
    have j5 : j = 5 := by
      have l0 := congrArg List.length e
      rw [List.length_drop] at l0
      have : (ran 0 5 1).length = 5 := rfl
      rw [this] at l0
      simp at l0
      (first | lia | omega)
    subst j5
    have hm' : ms.map (·.val) = five := hm
    have n1 : nref ms = 1 := by
      have : nref ms = (ms.map (·.val)).countP (· == .ref) := by rw [List.countP_map]; rfl
      rw [this, hm']; rfl
    rw [n1] at C₁
    exact hT _ ms _ C₁.push at_new (Nat.lt_of_lt_of_le h2 s₁.1) hm' (s₁.trans Sub.push)
theorem forP_nil {sc : Scope} {x : Str} {body : List Stmt} {S : List O → Prop} {ρ ρ₂ : Loc} {H : List O} {Z : Loc → List O → Prop} (s : S H) (l : Le ρ₂ ρ) (z : Z ρ₂ H) : ForP W d sc x body S ρ H [] Z := ⟨ρ, ρ₂, H, .done s, l, z⟩
theorem forP_cons {sc : Scope} {x : Str} {body : List Stmt} {S : List O → Prop} {ρ ρ₁ : Loc} {H H₁ : List O} {v : V} {vs : List V} {Z : Loc → List O → Prop} (s : S H) (e : Ex W d sc ((x, v) :: ρ) H body none ρ₁ H₁) (r : ForP W d sc x body S ρ₁ H₁ vs Z) : ForP W d sc x body S ρ H (v :: vs) Z := by
  obtain ⟨ρ', ρ₂, H', r, l, z⟩ := r
  exact ⟨ρ', ρ₂, H', .step s e r, l, z⟩
theorem c_made {ix : Ix} {H : List O} {ms : List M} {sl : Nat} {a : Addr} {T : Out → Loc → List O → Prop} (hd : 20 ≤ d) (C : CoreC ix H 6 ms [] 1) (hsl : H[sl]? = some (.list (mref ms))) (bsl : 2 < sl) (zz : ix.z = 2) (n1 : nref ms = 1)
    (hT : ∀ H' a0 a1 al hh, LSt ix ⟨ms.map (·.id), a0, a1, hh⟩ H' 9 ⟨ms, [], [], []⟩ [] → H'[sl]? = some (.list (mref ms)) → H'[al]? = some (.list [.ref a0, .ref a1]) → 2 < al → al < H'.length →
      ExD W d S_law [(Str.ofString "arrays", .ref al), (Str.ofString "table", .ref hh), (Str.ofString "scalars", .ref sl), (Str.ofString "thing", .ref ix.th), (Str.ofString "counter", .ref ix.ct), (Str.ofString "script", .ext a)] H' (B_l 6) T) (h5 : ms.length = 5) :
    ExD W d S_law [(Str.ofString "scalars", .ref sl), (Str.ofString "thing", .ref ix.th), (Str.ofString "counter", .ref ix.ct), (Str.ofString "heap", .ref ix.hp), (Str.ofString "script", .ext a)] H (B_l 4) T := by
  conv => arg 6; whnf
  have th0 := at_lt C.th
  have zl := at_lt C.z
  refine cps fun G hG => ?_
  obtain ⟨H1, wk1, it1, f1, c1, hp1, ar1, _, i1, li1⟩ := r_new_array (d := d) P (by walk_at "m_d") C.hp
  refine hG ?_
  clear hG
  have C1 := C.next c1 hp1 (by walk_at "m_d")
  have a1l := at_lt ar1
  refine cps fun G hG => ?_
  obtain ⟨H2, wk2, it2, f2, c2, hp2, ar2, _, i2, li2⟩ := r_new_array (d := d) P (by walk_at "m_d") hp1
  refine hG ?_
  clear hG
  have C2 := C1.next c2 hp2 (by walk_at "m_d")
  have a2l := at_lt ar2
  have hp3 : (H2 ++ [O.list [.ref H.length, .ref H1.length]])[ix.hp]? = some (oHeap ix.lim (6 + 1 + 1) ix.z) := at_old hp2
  refine cps fun G hG => ?_
  obtain ⟨H4, wk4, tb, f4, c4, hp4, ha4, t4⟩ := r_new_hash (d := d) P (by walk_at "m_d") hp3
  refine hG ?_
  clear hG
  have C4 := (C2.push (o := O.list [.ref H.length, .ref H1.length])).next c4 hp4 (by walk_at "m_d")
  have l4 := at_lt ha4
  have n12 : ∀ {i : Nat} {o : O}, H1[i]? = some o → i ≠ ix.hp → (H2 ++ [O.list [.ref H.length, .ref H1.length]])[i]? = some o := fun e n => at_old (c2.at e (by simpa using n))
  have nh : H.length ≠ ix.hp := Nat.ne_of_gt (at_lt C.hp)
  have nh1 : H1.length ≠ ix.hp := by have := at_lt hp1; (first | lia | omega)
  have ar1' : H4[H.length]? = some (oArray (6 + 1) 0 wk1 it1) := c4.at (n12 ar1 nh) (by simpa using nh)
  have ar2' : H4[H1.length]? = some (oArray (6 + 1 + 1) 0 wk2 it2) := c4.at (at_old ar2) (by simpa using nh1)
  have ne_l : ∀ {i : Nat} {vs : List V} {J : List O} {l : Int}, J[ix.hp]? = some (oHeap ix.lim l ix.z) → J[i]? = some (.list vs) → i ≠ ix.hp := fun h e q => by rw [q, h] at e; cases e
  have i1' : H4[it1]? = some (.list []) := c4.at (n12 i1 (ne_l hp1 i1)) (by simpa using ne_l hp1 i1)
  have i2' : H4[it2]? = some (.list []) := c4.at (at_old i2) (by simpa using ne_l hp2 i2)
  have al' : H4[H2.length]? = some (.list [.ref H.length, .ref H1.length]) := c4.at at_new (by simpa using ne_l hp3 at_new)
  have sl' : H4[sl]? = some (.list (mref ms)) := c4.at (n12 (c1.at hsl (by simpa using ne_l C.hp hsl)) (ne_l C.hp hsl)) (by simpa using ne_l C.hp hsl)
  have hh4 : (H2 ++ [O.list [.ref H.length, .ref H1.length]]).length = H2.length + 1 := by simp
  rw [hh4] at ha4 f4
  have hhp := C.hp
  refine exD_cons (ex1_swap2 (H₁ := H4) (a := .ref H2.length) (b := .ref (H2.length + 1)) ?sw rfl rfl ?hw) ?_
  case sw => walk_at "m_eva"
  case hw =>
    intro env h
    obtain ⟨⟩ := env
    simp only at h
    subst h
    rfl
  have x5 : Ext H4 (((H4 ++ [O.tup [.ref H2.length, .ref (H2.length + 1)]]) ++ [O.list [.ref (H2.length + 1), .ref ix.th]]) ++ [O.list [.ref H.length, .ref H1.length, .ref (H2.length + 1), .ref ix.th]]) := Chg.push' (Chg.push' Chg.push)
  have hal5 : ((H4 ++ [O.tup [.ref H2.length, .ref (H2.length + 1)]]) ++ [O.list [.ref (H2.length + 1), .ref ix.th]])[H2.length]? = some (.list [.ref H.length, .ref H1.length]) := at_old (at_old al')
  have lw5 : (((H4 ++ [O.tup [.ref H2.length, .ref (H2.length + 1)]]) ++ [O.list [.ref (H2.length + 1), .ref ix.th]]) ++ [O.list [.ref H.length, .ref H1.length, .ref (H2.length + 1), .ref ix.th]])[((H4 ++ [O.tup [.ref H2.length, .ref (H2.length + 1)]]) ++ [O.list [.ref (H2.length + 1), .ref ix.th]]).length]? = some (.list [.ref H.length, .ref H1.length, .ref (H2.length + 1), .ref ix.th]) := at_new
  have sz : 4 ≤ sizeLine := by have := sizeLine_eq; (first | lia | omega)
  refine exD_for (H₁ := ((H4 ++ [O.tup [.ref H2.length, .ref (H2.length + 1)]]) ++ [O.list [.ref (H2.length + 1), .ref ix.th]]) ++ [O.list [.ref H.length, .ref H1.length, .ref (H2.length + 1), .ref ix.th]])
    (src := .ref ((H4 ++ [O.tup [.ref H2.length, .ref (H2.length + 1)]]) ++ [O.list [.ref (H2.length + 1), .ref ix.th]]).length) ?it (iterL W _ [.ref H.length, .ref H1.length, .ref (H2.length + 1), .ref ix.th]) lw5 ?_ (.inl rfl) rfl
  case it =>
    refine ev_addl (vs := [.ref H.length, .ref H1.length]) (ws := [.ref (H2.length + 1), .ref ix.th]) (ev_name rfl) ?l hal5 at_new sz
    case l => walk_at "m_ev"
  have C7 := C4.ext' x5
  have ar1'' := x5.get ar1'
  have ar2'' := x5.get ar2'
  have i1'' := x5.get i1'
  have i2'' := x5.get i2'
  have al'' := x5.get al'
  have sl'' := x5.get sl'
  have ha'' := x5.get ha4
  have t'' := x5.get t4
  have lal : H2.length < (((H4 ++ [O.tup [.ref H2.length, .ref (H2.length + 1)]]) ++ [O.list [.ref (H2.length + 1), .ref ix.th]]) ++ [O.list [.ref H.length, .ref H1.length, .ref (H2.length + 1), .ref ix.th]]).length := at_lt al''
  generalize ((H4 ++ [O.tup [.ref H2.length, .ref (H2.length + 1)]]) ++ [O.list [.ref (H2.length + 1), .ref ix.th]]).length = lw at *
  generalize ((H4 ++ [O.tup [.ref H2.length, .ref (H2.length + 1)]]) ++ [O.list [.ref (H2.length + 1), .ref ix.th]]) ++ [O.list [.ref H.length, .ref H1.length, .ref (H2.length + 1), .ref ix.th]] = H7 at *
  clear x5 hal5 hp3 n12 f1 f2 f4 c1 c2 c4 ar1' ar2' i1' i2' al' sl' ha4 t4 C C1 C2 C4 hsl hp1 hp2 hp4 ar1 ar2 i1 i2 ne_l hhp
  generalize ha0 : H.length = a0 at *
  generalize ha1 : H1.length = a1 at *
  generalize hal : H2.length = al at *
  have C8 : CoreC ix (H7.set a0 (oArray 7 1 wk1 it1)) 9 ms [] 1 := C7.setOther ar1'' ⟨_, _, rfl, by decide, by decide, by decide, by decide⟩ (by walk_at "m_d")
  have g2 : (H7.set a0 (oArray 7 1 wk1 it1))[a1]? = some (oArray 8 0 wk2 it2) := at_ne (by walk_at "m_d") ar2''
  have f8 : Fn W d H7 (.ref f_hold) [.ref ix.ct, .ref a0] .none (H7.set a0 (oArray 7 1 wk1 it1)) := r_hold (d := d) (ct := ix.ct) P (by walk_at "m_d") ar1''
  have f9 : Fn W d (H7.set a0 (oArray 7 1 wk1 it1)) (.ref f_hold) [.ref ix.ct, .ref a1] .none ((H7.set a0 (oArray 7 1 wk1 it1)).set a1 (oArray 8 1 wk2 it2)) := r_hold (d := d) (ct := ix.ct) P (by walk_at "m_d") g2
  have C9 : CoreC ix ((H7.set a0 (oArray 7 1 wk1 it1)).set a1 (oArray 8 1 wk2 it2)) 9 ms [] 1 := C8.setOther g2 ⟨_, _, rfl, by decide, by decide, by decide, by decide⟩ (by walk_at "m_d")
  have g3 : ((H7.set a0 (oArray 7 1 wk1 it1)).set a1 (oArray 8 1 wk2 it2))[al + 1]? = some (oHash 9 0 wk4 tb) := at_ne (by walk_at "m_d") (at_ne (by walk_at "m_d") ha'')
  have f10 : Fn W d ((H7.set a0 (oArray 7 1 wk1 it1)).set a1 (oArray 8 1 wk2 it2)) (.ref f_hold) [.ref ix.ct, .ref (al + 1)] .none (((H7.set a0 (oArray 7 1 wk1 it1)).set a1 (oArray 8 1 wk2 it2)).set (al + 1) (oHash 9 1 wk4 tb)) := r_hold_hash (d := d) (ct := ix.ct) P (by walk_at "m_d") g3
  have C10 : CoreC ix (((H7.set a0 (oArray 7 1 wk1 it1)).set a1 (oArray 8 1 wk2 it2)).set (al + 1) (oHash 9 1 wk4 tb)) 9 ms [] 1 := C9.setOther g3 ⟨_, _, rfl, by decide, by decide, by decide, by decide⟩ (by walk_at "m_d")
  have f11 : Fn W d (((H7.set a0 (oArray 7 1 wk1 it1)).set a1 (oArray 8 1 wk2 it2)).set (al + 1) (oHash 9 1 wk4 tb)) (.ref f_hold) [.ref ix.ct, .ref ix.th] .none ((((H7.set a0 (oArray 7 1 wk1 it1)).set a1 (oArray 8 1 wk2 it2)).set (al + 1) (oHash 9 1 wk4 tb)).set ix.th (oArray 1 2 ix.wkt ix.itt)) := r_hold (d := d) (ct := ix.ct) P (by walk_at "m_d") C10.th
  have C11 := C10.held (c' := 2)
  have ct7 := C7.ct
  have ct8 := C8.ct
  have ct9 := C9.ct
  have ct10 := C10.ct
  have lst : ∀ {i : Nat} {vs : List V}, H7[i]? = some (.list vs) → i ≠ a0 ∧ i ≠ a1 ∧ i ≠ al + 1 ∧ i ≠ ix.th := fun e => ⟨fun q => (by rw [q, ar1''] at e; cases e), fun q => (by rw [q, ar2''] at e; cases e), fun q => (by rw [q, ha''] at e; cases e), fun q => (by rw [q, C7.th] at e; cases e)⟩
  have k8 : ∀ {i : Nat} {vs : List V}, H7[i]? = some (.list vs) → (H7.set a0 (oArray 7 1 wk1 it1))[i]? = some (.list vs) := fun e => at_ne (Ne.symm (lst e).1) e
  have k9 : ∀ {i : Nat} {vs : List V}, H7[i]? = some (.list vs) → ((H7.set a0 (oArray 7 1 wk1 it1)).set a1 (oArray 8 1 wk2 it2))[i]? = some (.list vs) := fun e => at_ne (Ne.symm (lst e).2.1) (k8 e)
  have k10 : ∀ {i : Nat} {vs : List V}, H7[i]? = some (.list vs) → (((H7.set a0 (oArray 7 1 wk1 it1)).set a1 (oArray 8 1 wk2 it2)).set (al + 1) (oHash 9 1 wk4 tb))[i]? = some (.list vs) := fun e => at_ne (Ne.symm (lst e).2.2.1) (k9 e)
  have k11 : ∀ {i : Nat} {vs : List V}, H7[i]? = some (.list vs) → ((((H7.set a0 (oArray 7 1 wk1 it1)).set a1 (oArray 8 1 wk2 it2)).set (al + 1) (oHash 9 1 wk4 tb)).set ix.th (oArray 1 2 ix.wkt ix.itt))[i]? = some (.list vs) := fun e => at_ne (Ne.symm (lst e).2.2.2) (k10 e)
  refine forP_cons P lw5 (ρ₁ := [(Str.ofString "one", .ref a0), (Str.ofString "arrays", .ref al), (Str.ofString "table", .ref (al + 1)), (Str.ofString "scalars", .ref sl), (Str.ofString "thing", .ref ix.th), (Str.ofString "counter", .ref ix.ct), (Str.ofString "heap", .ref ix.hp), (Str.ofString "script", .ext a)]) (by walk_at "m_st"; exact ex_nil) ?_
  refine forP_cons P (k8 lw5) (ρ₁ := [(Str.ofString "one", .ref a1), (Str.ofString "one", .ref a0), (Str.ofString "arrays", .ref al), (Str.ofString "table", .ref (al + 1)), (Str.ofString "scalars", .ref sl), (Str.ofString "thing", .ref ix.th), (Str.ofString "counter", .ref ix.ct), (Str.ofString "heap", .ref ix.hp), (Str.ofString "script", .ext a)]) (by walk_at "m_st"; exact ex_nil) ?_
  refine forP_cons P (k9 lw5) (ρ₁ := [(Str.ofString "one", .ref (al + 1)), (Str.ofString "one", .ref a1), (Str.ofString "one", .ref a0), (Str.ofString "arrays", .ref al), (Str.ofString "table", .ref (al + 1)), (Str.ofString "scalars", .ref sl), (Str.ofString "thing", .ref ix.th), (Str.ofString "counter", .ref ix.ct), (Str.ofString "heap", .ref ix.hp), (Str.ofString "script", .ext a)]) (by walk_at "m_st"; exact ex_nil) ?_
  refine forP_cons P (k10 lw5) (ρ₁ := [(Str.ofString "one", .ref ix.th), (Str.ofString "one", .ref (al + 1)), (Str.ofString "one", .ref a1), (Str.ofString "one", .ref a0), (Str.ofString "arrays", .ref al), (Str.ofString "table", .ref (al + 1)), (Str.ofString "scalars", .ref sl), (Str.ofString "thing", .ref ix.th), (Str.ofString "counter", .ref ix.ct), (Str.ofString "heap", .ref ix.hp), (Str.ofString "script", .ext a)]) (by walk_at "m_st"; exact ex_nil) ?_
  refine forP_nil P (k11 lw5) (ρ₂ := [(Str.ofString "arrays", .ref al), (Str.ofString "table", .ref (al + 1)), (Str.ofString "scalars", .ref sl), (Str.ofString "thing", .ref ix.th), (Str.ofString "counter", .ref ix.ct), (Str.ofString "script", .ext a)]) (.cons rfl (.cons rfl (.cons rfl (.cons rfl (.cons rfl (.cons rfl .nil)))))) ?_
  refine hT _ a0 a1 al (al + 1) ?_ (k11 sl'') (k11 al'') (by walk_at "m_d") (by simpa using lal)
  exact {
    core := by
      have e1 : MS.live ⟨ms, [], [], []⟩ = ms := by simp [MS.live, hms]
      have e2 : (1 + ((nref (MS.live ⟨ms, [], [], []⟩) + nref [] : Nat) : Int)) = 2 := by rw [e1, n1]; rfl
      unfold Core
      rw [e2, e1]
      exact C11
    ids := rfl
    five := h5
    arr0 := by show ArrAt ix _ a0 []; exact ⟨7, 1, wk1, it1, at_ne (by walk_at "m_d") (at_ne (by walk_at "m_d") (at_ne (by walk_at "m_d") (at_same ar1''))), k11 i1'', by (first | lia | omega)⟩
    arr1 := by show ArrAt ix _ a1 []; exact ⟨8, 1, wk2, it2, at_ne (by walk_at "m_d") (at_ne (by walk_at "m_d") (at_same g2)), k11 i2'', by (first | lia | omega)⟩
    hash := by show HashAt _ (al + 1) []; exact ⟨9, 1, wk4, tb, 0, at_ne (by walk_at "m_d") (at_same g3), at_ne (fun q => by have := C7.th; rw [q, t''] at this; cases this) (at_ne (fun q => by rw [q, t''] at ha''; cases ha'') (at_ne (fun q => by rw [q, t''] at ar2''; cases ar2'') (at_ne (fun q => by rw [q, t''] at ar1''; cases ar1'') t'')))⟩
    nd := .nil
    n0 := by show a0 ≠ ix.th; (first | lia | omega)
    n1 := by show a1 ≠ ix.th; (first | lia | omega)
    n01 := by show a0 ≠ a1; (first | lia | omega) }
theorem c_state {ix : Ix} {H : List O} {ms : List M} {sl al a0 a1 hh : Nat} {a : Addr} {ns : List Int} {vs' : List Value} {T : Out → Loc → List O → Prop} (hd : 20 ≤ d) (L : LSt ix ⟨ms.map (·.id), a0, a1, hh⟩ H 9 ⟨ms, [], [], []⟩ []) (hsl : H[sl]? = some (.list (mref ms))) (hal : H[al]? = some (.list [.ref a0, .ref a1])) (bsl : 2 < sl) (bal : 2 < al) (zz : ix.z = 2) (hm : ms.map (·.val) = five)
    (hl : W.h₀.IsList a vs'.toArray) (yv : ∀ φ, VsR φ (ns.map .int) vs') (hz : vs'.length ≤ sizeLine)
    (hT : ∀ H' tt pl st nu, TI ix ⟨ms.map (·.id), a0, a1, hh⟩ sl al tt pl st nu (ns.take 10 ++ [4097, 12345]) H' 9 ⟨ms, [], [], []⟩ [] 1 → ExD W d S_law (rho ix ⟨ms.map (·.id), a0, a1, hh⟩ sl al tt pl st nu) H' (B_l 10) T) :
    ExD W d S_law [(Str.ofString "arrays", .ref al), (Str.ofString "table", .ref hh), (Str.ofString "scalars", .ref sl), (Str.ofString "thing", .ref ix.th), (Str.ofString "counter", .ref ix.ct), (Str.ofString "script", .ext a)] H (B_l 6) T := by
  conv => arg 6; whnf
  have szl := sizeLine_eq
  have h5 : ms.length = 5 := L.five
  have bH : al < H.length := at_lt hal
  refine exD_cons (ρ₁ := [(Str.ofString "things", .ref H.length), (Str.ofString "arrays", .ref al), (Str.ofString "table", .ref hh), (Str.ofString "scalars", .ref sl), (Str.ofString "thing", .ref ix.th), (Str.ofString "counter", .ref ix.ct), (Str.ofString "script", .ext a)]) (H₁ := H ++ [.tup [.ref sl, .ref al, .ref hh]]) (by walk_at "m_s1") ?_
  have x1 : Ext H (H ++ [O.tup [.ref sl, .ref al, .ref hh]]) := Chg.push
  have htt : (H ++ [O.tup [.ref sl, .ref al, .ref hh]])[H.length]? = some (.tup [.ref sl, .ref al, .ref hh]) := at_new
  have lt1 : H.length < (H ++ [O.tup [.ref sl, .ref al, .ref hh]]).length := at_lt htt
  generalize htt0 : H.length = tt at *
  generalize H ++ [O.tup [.ref sl, .ref al, .ref hh]] = H1 at *
  have z1 : (mref ms).length + [V.ref a0, V.ref a1].length ≤ sizeLine := by rw [List.length_map, h5]; show 7 ≤ _; (first | lia | omega)
  have z2 : (mref ms ++ [V.ref a0, V.ref a1]).length + [V.ref hh, V.none].length ≤ sizeLine := by rw [List.length_append, List.length_map, h5]; show 9 ≤ _; (first | lia | omega)
  have sl1 := x1.get hsl
  have al1 := x1.get hal
  have w2 : (H1 ++ [O.list (mref ms ++ [V.ref a0, V.ref a1])])[H1.length]? = some (.list (mref ms ++ [V.ref a0, V.ref a1])) := at_new
  refine exD_cons (ρ₁ := [(Str.ofString "places", .ref ((H1 ++ [O.list (mref ms ++ [V.ref a0, V.ref a1])]) ++ [O.list [V.ref hh, .none]]).length), (Str.ofString "things", .ref tt), (Str.ofString "arrays", .ref al), (Str.ofString "table", .ref hh), (Str.ofString "scalars", .ref sl), (Str.ofString "thing", .ref ix.th), (Str.ofString "counter", .ref ix.ct), (Str.ofString "script", .ext a)])
    (H₁ := ((H1 ++ [O.list (mref ms ++ [V.ref a0, V.ref a1])]) ++ [O.list [V.ref hh, .none]]) ++ [O.list ((mref ms ++ [V.ref a0, V.ref a1]) ++ [V.ref hh, .none])]) (by walk_at "m_s1") ?_
  have x2 : Ext H1 (((H1 ++ [O.list (mref ms ++ [V.ref a0, V.ref a1])]) ++ [O.list [V.ref hh, .none]]) ++ [O.list ((mref ms ++ [V.ref a0, V.ref a1]) ++ [V.ref hh, .none])]) := Chg.push' (Chg.push' Chg.push)
  have hpl : (((H1 ++ [O.list (mref ms ++ [V.ref a0, V.ref a1])]) ++ [O.list [V.ref hh, .none]]) ++ [O.list ((mref ms ++ [V.ref a0, V.ref a1]) ++ [V.ref hh, .none])])[((H1 ++ [O.list (mref ms ++ [V.ref a0, V.ref a1])]) ++ [O.list [V.ref hh, .none]]).length]? = some (.list (plc ⟨ms.map (·.id), a0, a1, hh⟩)) := by
    have : plc ⟨ms.map (·.id), a0, a1, hh⟩ = (mref ms ++ [V.ref a0, V.ref a1]) ++ [V.ref hh, .none] := by simp [plc]
    rw [this]; exact at_new
  have lt2 : ((H1 ++ [O.list (mref ms ++ [V.ref a0, V.ref a1])]) ++ [O.list [V.ref hh, .none]]).length = H1.length + 2 := by simp
  have lt2' : (((H1 ++ [O.list (mref ms ++ [V.ref a0, V.ref a1])]) ++ [O.list [V.ref hh, .none]]) ++ [O.list ((mref ms ++ [V.ref a0, V.ref a1]) ++ [V.ref hh, .none])]).length = H1.length + 3 := by simp
  rw [lt2] at hpl ⊢
  generalize ((H1 ++ [O.list (mref ms ++ [V.ref a0, V.ref a1])]) ++ [O.list [V.ref hh, .none]]) ++ [O.list ((mref ms ++ [V.ref a0, V.ref a1]) ++ [V.ref hh, .none])] = H2 at *
  clear w2
  have x02 : Ext H H2 := x1.tr x2
  have th2 := (L.ext x02).core.th
  -- the state
  refine exD_cons (ρ₁ := [(Str.ofString "state", .ref ((((H2 ++ [O.tup [.str (Str.ofString "ref"), .int 1]]) ++ [O.list []]) ++ [O.list []]) ++ [O.list []]).length), (Str.ofString "places", .ref (H1.length + 2)), (Str.ofString "things", .ref tt), (Str.ofString "arrays", .ref al), (Str.ofString "table", .ref hh), (Str.ofString "scalars", .ref sl), (Str.ofString "thing", .ref ix.th), (Str.ofString "counter", .ref ix.ct), (Str.ofString "script", .ext a)])
    (H₁ := ((((H2 ++ [O.tup [.str (Str.ofString "ref"), .int 1]]) ++ [O.list []]) ++ [O.list []]) ++ [O.list []]) ++ [O.list [.int 5, .str (Str.ofString "x"), .none, .ref H2.length, .int (-2), .ref (H2 ++ [O.tup [.str (Str.ofString "ref"), .int 1]]).length, .ref ((H2 ++ [O.tup [.str (Str.ofString "ref"), .int 1]]) ++ [O.list []]).length, .ref (((H2 ++ [O.tup [.str (Str.ofString "ref"), .int 1]]) ++ [O.list []]) ++ [O.list []]).length]]) (by walk_at "m_s1") ?_
  have S3 : StAt (((((H2 ++ [O.tup [.str (Str.ofString "ref"), .int 1]]) ++ [O.list []]) ++ [O.list []]) ++ [O.list []]) ++ [O.list [.int 5, .str (Str.ofString "x"), .none, .ref H2.length, .int (-2), .ref (H2 ++ [O.tup [.str (Str.ofString "ref"), .int 1]]).length, .ref ((H2 ++ [O.tup [.str (Str.ofString "ref"), .int 1]]) ++ [O.list []]).length, .ref (((H2 ++ [O.tup [.str (Str.ofString "ref"), .int 1]]) ++ [O.list []]) ++ [O.list []]).length]])
      ((((H2 ++ [O.tup [.str (Str.ofString "ref"), .int 1]]) ++ [O.list []]) ++ [O.list []]) ++ [O.list []]).length (MS.abs ⟨ms, [], [], []⟩) :=
    ⟨[.int 5, .str (Str.ofString "x"), .none, .ref H2.length, .int (-2)], _, _, _, [], [], {
      row := at_new
      five := rfl
      sc := by
        show All2 _ (ms.map (·.val)) _
        rw [hm]
        exact .cons rfl (.cons rfl (.cons rfl (.cons ⟨_, rfl, at_old (at_old (at_old (at_old at_new)))⟩ (.cons rfl .nil))))
      e5 := at_old (at_old (at_old at_new))
      a0 := .nil
      e6 := at_old (at_old at_new)
      a1 := .nil
      hs := ⟨[], at_old at_new, .nil⟩
      n5 := by simp
      n6 := by simp
      n7 := by simp
      b5 := by simp <;> (first | lia | omega)
      b6 := by simp <;> (first | lia | omega)
      b7 := by simp <;> (first | lia | omega) }⟩
  have x3 : Ext H2 (((((H2 ++ [O.tup [.str (Str.ofString "ref"), .int 1]]) ++ [O.list []]) ++ [O.list []]) ++ [O.list []]) ++ [O.list [.int 5, .str (Str.ofString "x"), .none, .ref H2.length, .int (-2), .ref (H2 ++ [O.tup [.str (Str.ofString "ref"), .int 1]]).length, .ref ((H2 ++ [O.tup [.str (Str.ofString "ref"), .int 1]]) ++ [O.list []]).length, .ref (((H2 ++ [O.tup [.str (Str.ofString "ref"), .int 1]]) ++ [O.list []]) ++ [O.list []]).length]]) := Chg.push' (Chg.push' (Chg.push' (Chg.push' Chg.push)))
  have lt3 : ((((H2 ++ [O.tup [.str (Str.ofString "ref"), .int 1]]) ++ [O.list []]) ++ [O.list []]) ++ [O.list []]).length = H2.length + 4 := by simp
  rw [lt3] at S3 ⊢
  generalize ((((H2 ++ [O.tup [.str (Str.ofString "ref"), .int 1]]) ++ [O.list []]) ++ [O.list []]) ++ [O.list []]) ++ [O.list [.int 5, .str (Str.ofString "x"), .none, .ref H2.length, .int (-2), .ref (H2 ++ [O.tup [.str (Str.ofString "ref"), .int 1]]).length, .ref ((H2 ++ [O.tup [.str (Str.ofString "ref"), .int 1]]) ++ [O.list []]).length, .ref (((H2 ++ [O.tup [.str (Str.ofString "ref"), .int 1]]) ++ [O.list []]) ++ [O.list []]).length]] = H3 at *
  have st3 : H2.length + 4 < H3.length := by obtain ⟨_, _, _, _, _, _, sb⟩ := S3; exact at_lt sb.row
  -- the numbers
  have z3 : ((ns.map V.int).take 10).length + [V.int 4097, V.int 12345].length ≤ sizeLine := by rw [List.length_take]; show _ + 2 ≤ _; (first | lia | omega)
  refine exD_cons (ρ₁ := [(Str.ofString "numbers", .ref ((H3 ++ [O.list ((ns.map V.int).take 10)]) ++ [O.list [V.int 4097, V.int 12345]]).length), (Str.ofString "state", .ref (H2.length + 4)), (Str.ofString "places", .ref (H1.length + 2)), (Str.ofString "things", .ref tt), (Str.ofString "arrays", .ref al), (Str.ofString "table", .ref hh), (Str.ofString "scalars", .ref sl), (Str.ofString "thing", .ref ix.th), (Str.ofString "counter", .ref ix.ct), (Str.ofString "script", .ext a)])
    (H₁ := ((H3 ++ [O.list ((ns.map V.int).take 10)]) ++ [O.list [V.int 4097, V.int 12345]]) ++ [O.list ((ns.map V.int).take 10 ++ [V.int 4097, V.int 12345])])
    (ex1_assign (ev_addl (ev_slice_ext (b := 10) rfl ev_int hl yv hz (by decide)) (by walk_at "m_ev") (at_old at_new) at_new z3) (.inl rfl) rfl) ?_
  have x4 : Ext H3 (((H3 ++ [O.list ((ns.map V.int).take 10)]) ++ [O.list [V.int 4097, V.int 12345]]) ++ [O.list ((ns.map V.int).take 10 ++ [V.int 4097, V.int 12345])]) := Chg.push' (Chg.push' Chg.push)
  have hnu : (((H3 ++ [O.list ((ns.map V.int).take 10)]) ++ [O.list [V.int 4097, V.int 12345]]) ++ [O.list ((ns.map V.int).take 10 ++ [V.int 4097, V.int 12345])])[((H3 ++ [O.list ((ns.map V.int).take 10)]) ++ [O.list [V.int 4097, V.int 12345]]).length]? = some (.list ((ns.take 10 ++ [4097, 12345]).map V.int)) := by
    rw [List.map_append, List.map_take]; exact at_new
  have lt4 : ((H3 ++ [O.list ((ns.map V.int).take 10)]) ++ [O.list [V.int 4097, V.int 12345]]).length = H3.length + 2 := by simp
  rw [lt4] at hnu ⊢
  generalize ((H3 ++ [O.list ((ns.map V.int).take 10)]) ++ [O.list [V.int 4097, V.int 12345]]) ++ [O.list ((ns.map V.int).take 10 ++ [V.int 4097, V.int 12345])] = H4 at *
  have x24 : Ext H2 H4 := x3.tr x4
  have x14 : Ext H1 H4 := x2.tr x24
  have x04 : Ext H H4 := x1.tr x14
  refine ExD.more (hT H4 tt (H1.length + 2) (H2.length + 4) (H3.length + 2) {
    L := L.ext x04
    S := S3.ext x4
    hnu := hnu
    hpl := x24.get hpl
    htt := x14.get htt
    hal := x04.get hal
    hsl := by show H4[sl]? = some (.list ((ms.map (·.id)).map V.ref)); rw [List.map_map]; exact x04.get hsl
    zz := zz
    lt := ⟨by (first | lia | omega), by (first | lia | omega), bal, bsl, by (first | lia | omega)⟩
    ne := ⟨by (first | lia | omega), by (first | lia | omega), by have := at_lt al1; (first | lia | omega), by have := at_lt sl1; (first | lia | omega)⟩
    okS := by
      refine ⟨?_, (fun p h => by cases h), (fun p h => by cases h), (fun q h => by cases h)⟩
      show ∀ p ∈ ms.map (·.val), ok p
      rw [hm]
      intro p hp
      simp only [five, List.mem_cons, List.not_mem_nil, or_false] at hp
      rcases hp with rfl | rfl | rfl | rfl | rfl
      · exact ⟨by decide, by decide⟩
      · show PyData.strOk _ = true; decide +kernel
      · trivial
      · trivial
      · exact ⟨by decide, by decide⟩
    b0 := Nat.zero_le _
    b1 := Nat.zero_le _
    b2 := Nat.zero_le _
    bB := Nat.le_refl _
    lb := by decide }) (.cons rfl (.cons rfl (.cons rfl (.cons rfl (.cons rfl (.cons rfl (.cons rfl (.cons rfl (.cons rfl .nil)))))))))
end
theorem TI.ext {ix : Ix} {px : Px} {sl al tt pl st nu : Nat} {ns : List Int} {H H' : List O} {last : Int} {m : MS} {zs : List M} {B : Nat} (I : TI ix px sl al tt pl st nu ns H last m zs B) (x : Ext H H') : TI ix px sl al tt pl st nu ns H' last m zs B where
  L := I.L.ext x
  S := I.S.ext x
  hnu := x.get I.hnu
  hpl := x.get I.hpl
  htt := x.get I.htt
  hal := x.get I.hal
  hsl := x.get I.hsl
  zz := I.zz
  lt := I.lt
  ne := I.ne
  okS := I.okS
  b0 := I.b0
  b1 := I.b1
  b2 := I.b2
  bB := I.bB
  lb := I.lb
theorem eqv_ref (p : PV) : PyData.eqv (pyd p) (pyd .ref) = (p == .ref) := by
  cases p with
  | ref => rw [SeqAt.eqv_refl _ (ok.lay (p := .ref) trivial)]; rfl
  | none => rfl
  | int i => rfl
  | str x => rfl
theorem count_ref (ps : List PV) : ((ps.map pyd).countP fun z => PyData.eqv z (pyd .ref)) = ps.countP (· == .ref) := by
  induction ps with
  | nil => rfl
  | cons p r ih => rw [List.map_cons, List.countP_cons, List.countP_cons, ih, eqv_ref]
theorem count_vals (ms : List M) : (ms.map (·.val)).countP (· == .ref) = nref ms := by rw [List.countP_map]; rfl
theorem count_flat (ht : List (Str × M)) : (flatP (hval ht)).countP (· == .ref) = nref (hms ht) := by
  induction ht with
  | nil => rfl
  | cons p r ih =>
    have e : flatP (hval (p :: r)) = [PV.str p.1, p.2.val] ++ flatP (hval r) := rfl
    have e2 : hms (p :: r) = p.2 :: hms r := rfl
    rw [e, e2, List.countP_append, ih, nref_cons]
    congr 1
    cases p.2.val <;> rfl
theorem count_live (m : MS) : ((m.abs.sc ++ m.abs.a0 ++ m.abs.a1 ++ flatP m.abs.hs).countP (· == .ref)) = nref m.live := by
  unfold MS.live MS.abs
  simp only [List.countP_append, nref_append, count_vals, count_flat]
  (first | lia | omega)
section
variable {W : Wd} {d : Nat} {H : List O} (P : PF W.K)
include P
theorem c_end {ix : Ix} {px : Px} {sl al tt pl st nu : Nat} {ns : List Int} {last : Int} {m : MS} {zs : List M} {B : Nat} (hd : 20 ≤ d) (I : TI ix px sl al tt pl st nu ns H last m zs B) (hB : B ≤ 20000) : ExD W d S_law (rho ix px sl al tt pl st nu) H (B_l 11) fun o _ _ => o = some (.bool true) := by
  conv => arg 6; whnf
  have szl := sizeLine_eq
  have L := I.L
  have hct := L.core.ct
  refine exD_expr (evD_meth (ev_name rfl) hct rfl (eva_cons ev_int eva_nil) (c_settle (d := d) P (by walk_at "m_d") L.core (by have := I.lb; (first | lia | omega))) (P.meth (by decide)) rfl rfl rfl rfl) ?_ rfl
  rintro v H1 ⟨rfl, x1, th1⟩
  have hX : ∀ i ∈ ix.hp :: ix.th :: zs.map (·.id), ∃ C fs, H[i]? = some (.inst C fs) ∧ C ≠ cHash := fun i hi => by
    rcases List.mem_cons.mp hi with rfl | hi
    · exact ⟨_, _, L.core.hp, by decide⟩
    · rcases List.mem_cons.mp hi with rfl | hi
      · exact ⟨_, _, L.core.th, by decide⟩
      · obtain ⟨y, hy, rfl⟩ := List.mem_map.mp hi
        obtain ⟨_, _, a, _⟩ := L.core.ded y hy
        exact ⟨_, _, a, by decide⟩
  have s1 : SubX ix (ix.hp :: ix.th :: zs.map (·.id)) H H1 := ⟨x1.1, fun i o n e _ => x1.at e n⟩
  refine cps fun G hG => ?_
  obtain ⟨vs5, l5, l6, l7, ws5, ws6, sb⟩ := I.S.subx s1 (fun i hi => by obtain ⟨C, fs, e, _⟩ := hX i hi; exact ⟨C, fs, e⟩) I.zz I.lt.2.2.2.2
  refine hG ?_
  clear hG
  obtain ⟨nh, kh, wkh, tb, ep, hh, htb⟩ := L.hash
  have hh1 : H1[px.hh]? = some (oHash nh kh wkh tb) := x1.at hh fun hi => by obtain ⟨C, fs, e, n⟩ := hX _ hi; rw [hh] at e; cases e; exact n rfl
  have htb1 : H1[tb]? = some (.sd (hes m.ht) ep) := x1.at htb fun hi => by obtain ⟨C, fs, e, n⟩ := hX _ hi; rw [htb] at e; cases e
  clear x1 s1 hX hh htb hct
  have b0 := I.b0
  have b1 := I.b1
  have b2 := I.b2
  have row := sb.row
  have row8 : (vs5 ++ [V.ref l5, .ref l6, .ref l7]).length = 8 := by simp [sb.five]
  have f5 := sb.five
  have c1 : cut (vs5 ++ [V.ref l5, .ref l6, .ref l7]) none (some 5) = some vs5 := by
    show some (List.take 5 _) = _
    rw [List.take_append_of_le_length (by walk_at "m_d"), List.take_of_length_le (by walk_at "m_d")]
  refine cps fun G hG => ?_
  obtain ⟨_, _, _, _, r5, r6, r7⟩ := set_at (a := .ref l5) (b := .ref l6) (c := .ref l7) (x := .none) f5
  refine hG ?_
  clear hG
  have r5' : (vs5 ++ [V.ref l5, .ref l6, .ref l7])[((5 : Int)).toNat]? = some (.ref l5) := r5
  have r6' : (vs5 ++ [V.ref l5, .ref l6, .ref l7])[((6 : Int)).toNat]? = some (.ref l6) := r6
  have r7' : (vs5 ++ [V.ref l5, .ref l6, .ref l7])[((7 : Int)).toNat]? = some (.ref l7) := r7
  have w5 := sb.a0.length
  have w6 := sb.a1.length
  have a0l : m.abs.a0.length = m.a0.length := by simp [MS.abs]
  have a1l : m.abs.a1.length = m.a1.length := by simp [MS.abs]
  have hsl : m.abs.hs.length = m.ht.length := by simp [MS.abs, hval]
  -- the rows in one
  have y4 : Ext H1 (((H1 ++ [O.list vs5]) ++ [O.list (vs5 ++ ws5)]) ++ [O.list ((vs5 ++ ws5) ++ ws6)]) := Chg.push' (Chg.push' Chg.push)
  refine FnP.run (c_law_flat (d := d) P (by walk_at "m_d") (sb.hs.ext y4) (by walk_at "m_d") fun H5 idf wsf hf _ x5 tvf => fun fl => ?_)
  have wf := tvf.length
  have wf2 := flatP_len m.abs.hs
  have y5 : Ext H1 H5 := y4.tr x5
  have y7 : Ext H1 ((H5 ++ [O.list (((vs5 ++ ws5) ++ ws6) ++ wsf)]) ++ [O.tup [.str (Str.ofString "ref"), .int 1]]) := Ext.tr y5 (Chg.push' Chg.push)
  have xf : Ext H5 ((H5 ++ [O.list (((vs5 ++ ws5) ++ ws6) ++ wsf)]) ++ [O.tup [.str (Str.ofString "ref"), .int 1]]) := Chg.push' Chg.push
  have rda : RdA ((H5 ++ [O.list (((vs5 ++ ws5) ++ ws6) ++ wsf)]) ++ [O.tup [.str (Str.ofString "ref"), .int 1]]) (((vs5 ++ ws5) ++ ws6) ++ wsf) ((m.abs.sc ++ m.abs.a0 ++ m.abs.a1 ++ flatP m.abs.hs).map pyd) :=
    TV.rda ((((sb.sc.imp fun _ _ q => q.ext y7).append (sb.a0.imp fun _ _ q => q.ext y7)).append (sb.a1.imp fun _ _ q => q.ext y7)).append (tvf.imp fun _ _ q => q.ext xf))
  have okA : ∀ p ∈ m.abs.sc ++ m.abs.a0 ++ m.abs.a1 ++ flatP m.abs.hs, ok p := fun p hp => by
    simp only [List.mem_append] at hp
    rcases hp with ((hp | hp) | hp) | hp
    · exact I.okS.1 p hp
    · exact I.okS.2.1 p hp
    · exact I.okS.2.2.1 p hp
    · exact OkS.flat I.okS.2.2.2 p hp
  have cc := call_count (W := W) (d := d) (i := H5.length) (b := .ref (H5 ++ [O.list (((vs5 ++ ws5) ++ ws6) ++ wsf)]).length) (db := pyd .ref) (at_old (o' := O.tup [.str (Str.ofString "ref"), .int 1]) at_new) rda (.tup at_new (.cons (.str _) (.cons (.int _) .nil))) (ok.lay (p := .ref) trivial) (okAll.lay okA) (dep_pyd _)
  rw [count_ref, count_live] at cc
  have l4 : (((H1 ++ [O.list vs5]) ++ [O.list (vs5 ++ ws5)]) ++ [O.list ((vs5 ++ ws5) ++ ws6)])[((H1 ++ [O.list vs5]) ++ [O.list (vs5 ++ ws5)]).length]? = some (.list ((vs5 ++ ws5) ++ ws6)) := at_new
  have th6 : (H5 ++ [O.list (((vs5 ++ ws5) ++ ws6) ++ wsf)])[ix.th]? = some (oArray 1 (1 + (nref m.live : Nat)) ix.wkt ix.itt) := at_old (y5.get th1)
  refine exD_cons (ρ₁ := (Str.ofString "held", .int (nref m.live : Nat)) :: rho ix px sl al tt pl st nu) (H₁ := (H5 ++ [O.list (((vs5 ++ ws5) ++ ws6) ++ wsf)]) ++ [O.tup [.str (Str.ofString "ref"), .int 1]]) (ex1_assign ?held (.inl rfl) rfl) ?_
  case held =>
    refine ev_bmeth (id := "list.count") (T := "list") (H₁ := H5 ++ [O.list (((vs5 ++ ws5) ++ ws6) ++ wsf)]) (H₂ := (H5 ++ [O.list (((vs5 ++ ws5) ++ ws6) ++ wsf)]) ++ [O.tup [.str (Str.ofString "ref"), .int 1]]) (i := H5.length) (ob := .list (((vs5 ++ ws5) ++ ws6) ++ wsf)) ?s at_new rfl PySem.F.plainAttrs_list PySem.F.slot_list_count PySem.F.type_list_count ?t cc (by decide) rfl rfl rfl rfl
    case t => walk_at "m_eva"
    case s =>
      refine ev_addl (H₁ := ((H1 ++ [O.list vs5]) ++ [O.list (vs5 ++ ws5)]) ++ [O.list ((vs5 ++ ws5) ++ ws6)]) (vs := (vs5 ++ ws5) ++ ws6) ?s2 ?s3 (x5.get l4) hf (by simp; (first | lia | omega))
      case s3 => exact ev_call (eva_cons (ev_item (ev_name rfl) ev_int (y4.get row) (by decide) (by decide) r7' rfl) eva_nil rfl) fl (g_law_flat P) (kp_law_flat P) rfl rfl (by decide)
      case s2 =>
        refine ev_addl (H₁ := (H1 ++ [O.list vs5]) ++ [O.list (vs5 ++ ws5)]) (vs := vs5 ++ ws5) (j := l6) (ws := ws6) ?s4 (ev_item (ev_name rfl) ev_int (at_old (at_old row)) (by decide) (by decide) r6' rfl) at_new (at_old (at_old sb.e6)) (by simp; (first | lia | omega))
        case s4 =>
          refine ev_addl (H₁ := H1 ++ [O.list vs5]) (vs := vs5) (j := l5) (ws := ws5) ?s5 (ev_item (ev_name rfl) ev_int (at_old row) (by decide) (by decide) r5' rfl) at_new (at_old sb.e5) (by walk_at "m_d")
          case s5 => exact ev_slice (lo := none) (hi := some 5) (ev_name rfl) trivial ev_int row c1 (by walk_at "m_d")
  have th7 := at_old (o' := O.tup [.str (Str.ofString "ref"), .int 1]) th6
  have hh7 := y7.get hh1
  have tb7 := y7.get htb1
  have row7 := y7.get row
  obtain ⟨rs, hrs, prs⟩ := sb.hs
  have hl7 := y7.get hrs
  have rl := prs.length
  generalize (H5 ++ [O.list (((vs5 ++ ws5) ++ ws6) ++ wsf)]) ++ [O.tup [.str (Str.ofString "ref"), .int 1]] = H7 at *
  have z1 : (hes m.ht).length < 2 ^ 62 := by simp; (first | lia | omega)
  have z2 : rs.length < 2 ^ 62 := by (first | lia | omega)
  have k1 : CmpR W d H7 .Eq (.int (1 + (nref m.live : Nat))) (.int ((nref m.live : Nat) + 1)) true := cmp_eq_int.to (by simp; (first | lia | omega))
  have k2 : CmpR W d H7 .Eq (.int (hes m.ht).length) (.int rs.length) true := cmp_eq_int.to (by simp; (first | lia | omega))
  exact exD_of (ex_ret (ex1_return (v := .bool true) (ev_and2 (a := true) (b := true) (H₁ := H7) (by walk_at "m_ev") (fun _ => by walk_at "m_ev") (fun e => by cases e)))) rfl
theorem c_loop {ix : Ix} {px : Px} {sl al tt pl st nu : Nat} {ns : List Int} {last : Int} {m : MS} {zs : List M} (hd : 40 ≤ d) (I : TI ix px sl al tt pl st nu ns H last m zs 1) (hn : 1 ≤ ns.length) (hn2 : ns.length ≤ 12) : ExD W d S_law (rho ix px sl al tt pl st nu) H (B_l 10) fun o _ _ => o = some (.bool true) := by
  conv => arg 6; whnf
  obtain ⟨k, hk⟩ : ∃ k, ns.length = k + 1 := ⟨ns.length - 1, by (first | lia | omega)⟩
  have e1 : (((ns.map V.int).length : Nat) : Int) - 1 = (k : Int) := by rw [List.length_map, hk]; push_cast; (first | lia | omega)
  have hnu := I.hnu
  have nl : (ns.map V.int).length < 2 ^ 62 := by rw [List.length_map]; (first | lia | omega)
  refine exD_for (H₁ := H ++ [.rng 0 (k : Int) 2]) (src := .ref H.length) ?it (iterR W H.length 0 (k : Int) 2 (small_range (by walk_at "m_d") (by walk_at "m_d")).1) at_new ?_ (.inl rfl) rfl
  case it => rw [← e1]; walk_at "m_ev"
  refine forP_gen (fun (_ : Unit) => rho ix px sl al tt pl st nu) (fun _ H₂ rest => ∃ (j : Nat) (last : Int) (m : MS) (zs : List M), rest = (ran 0 (k : Int) 2).drop j ∧ TI ix px sl al tt pl st nu ns H₂ last m zs (Bs j) ∧ j ≤ 6) () (fun _ _ e => e) ⟨0, last, m, zs, rfl, I.ext Chg.push, by (first | lia | omega)⟩ ?_ ?_
  · rintro _ H₂ v rest ⟨j, last, m, zs, e, I₂, hj⟩
    refine ⟨trivial, ?_⟩
    have hv0 : (ran 0 (k : Int) 2)[j]? = some v := drop_hd e
    have e' : rest = (ran 0 (k : Int) 2).drop (j + 1) := drop_tl e
    obtain ⟨lt, rfl⟩ := ran_at hv0
    rw [ran2_len] at lt
    have ev : (0 : Int) + (j : Int) * 2 = ((2 * j : Nat) : Int) := by push_cast; (first | lia | omega)
    rw [ev]
    obtain ⟨a, H', x, last', m', zs', I'⟩ := c_turn (d := d) P (by walk_at "m_d") I₂ (j := j) (by walk_at "m_d") (by walk_at "m_d") (Nat.le_trans (Bs_le (by walk_at "m_d")) (by decide))
    exact ⟨a, H', x, j + 1, last', m', zs', e', I', by (first | lia | omega)⟩
  · rintro _ H₂ ⟨j, last, m, zs, e, I₂, hj⟩
    refine ⟨trivial, ?_⟩
    refine c_end (d := d) P (by walk_at "m_d") I₂ ?_
    have : j = 6 ∨ j ≤ 5 := by (first | lia | omega)
    rcases this with rfl | h
    · decide
    · exact Nat.le_trans (Bs_le h) (by decide)
theorem fnD_law {a : Addr} {ns : List Int} {vs' : List Value} (hd : 45 ≤ d) (hl : W.h₀.IsList a vs'.toArray) (yv : ∀ φ, VsR φ (ns.map .int) vs') (hz : vs'.length ≤ sizeLine) : FnD W d [] (.ref f_law) [.ext a] fun v _ => v = .bool true := by
  refine fnD_of (names := ["script"]) P.law (by walk_at "m_d") rfl (by decide +kernel) (by decide +kernel) ?_ rfl rfl rfl
  show ExD W (d - 1) S_law [(Str.ofString "script", .ext a)] [] B_law _
  conv => arg 6; whnf
  have f1 := r_Limits_new (d := d - 1 - 1) (H := []) P (by walk_at "m_d")
  have f2 := r_Heap_new (d := d - 1 - 1) (H := [oLim]) (lim := 0) P (by walk_at "m_d")
  have f3 := r_Counter_new (d := d - 1 - 1) (H := [oLim, oHeap 0 0 2, .list []]) (hp := 1) P (by walk_at "m_d")
  refine exD_cons (ρ₁ := [(Str.ofString "heap", .ref 1), (Str.ofString "script", .ext a)]) (H₁ := [oLim, oHeap 0 0 2, .list []]) (ex1_assign (ev_new (H₁ := [oLim]) (eva_cons (ev_new eva_nil (by walk_at "m_d") f1 (g_Limits P) (P.make (by decide)) rfl rfl (by decide)) eva_nil rfl) (by walk_at "m_d") f2 (g_Heap P) (P.make (by decide)) rfl rfl (by decide)) (by walk_at "m_lc") rfl) ?_
  refine exD_cons (ρ₁ := [(Str.ofString "counter", .ref 3), (Str.ofString "heap", .ref 1), (Str.ofString "script", .ext a)]) (H₁ := [oLim, oHeap 0 0 2, .list [], oCounter 1 4, .idt [] 0]) (ex1_assign (ev_new (H₁ := [oLim, oHeap 0 0 2, .list []]) (eva_cons (ev_name rfl) (eva_cons ev_none eva_nil rfl) rfl) (by walk_at "m_d") f3 (g_Counter P) (P.make (by decide)) rfl rfl (by decide)) (by walk_at "m_lc") rfl) ?_
  have hp3 : ([oLim, oHeap 0 0 2, .list [], oCounter 1 4, .idt [] 0] : List O)[1]? = some (oHeap 0 0 2) := rfl
  refine cps fun G hG => ?_
  obtain ⟨H4, wk, it, f4, c4, hp4, ar4, w4, i4, l4⟩ := r_new_array (d := d - 1) (H := [oLim, oHeap 0 0 2, .list [], oCounter 1 4, .idt [] 0]) P (by walk_at "m_d") hp3
  refine hG ?_
  clear hG
  refine exD_cons (ρ₁ := [(Str.ofString "thing", .ref 5), (Str.ofString "counter", .ref 3), (Str.ofString "heap", .ref 1), (Str.ofString "script", .ext a)]) (H₁ := H4) (ex1_assign (ev_meth (i := 1) (ev_name rfl) hp3 rfl eva_nil f4 (P.meth (by decide)) rfl rfl rfl rfl) (by walk_at "m_lc") rfl) ?_
  have C4 : CoreC ⟨1, 0, 3, 4, 2, 5, wk, it⟩ H4 1 [] [] 0 := {
    ct := c4.at (i := 3) (o := oCounter 1 4) rfl (by decide)
    pl := c4.at (i := 4) (o := .idt [] 0) rfl (by decide)
    hp := hp4
    z := c4.at (i := 2) (o := .list []) rfl (by decide)
    th := ar4
    liv := fun m h => by cases h
    ded := fun m h => by cases h
    ids := .nil
    nums := .nil
    numle := fun m h => by cases h
    cnt := by decide }
  refine c_five (d := d - 1) P (by walk_at "m_d") C4 (fun H5 ms sl C5 hsl bsl hm _ => ?_) (Nat.lt_of_lt_of_le (by decide : 2 < 5) c4.1)
  have h5 : ms.length = 5 := by rw [← List.length_map (·.val), hm]; rfl
  have n1 : nref ms = 1 := by rw [← count_vals, hm]; rfl
  refine c_made (d := d - 1) P (by walk_at "m_d") C5 hsl bsl rfl n1 (fun H6 a0 a1 al hh L6 hsl6 hal6 bal _ => ?_) h5
  refine c_state (d := d - 1) P (by walk_at "m_d") L6 hsl6 hal6 bsl bal rfl hm hl yv hz fun H7 tt pl st nu I => ?_
  refine ExD.to (c_loop (d := d - 1) P (by walk_at "m_d") I (by simp) (by simp; (first | lia | omega))) ?_
  rintro o ρ' H' rfl
  rfl
end
theorem caller_room : Rm callerA 45 := ⟨rfl, by decide, by decide +kernel⟩
theorem hr_nil {W : Wd} : HR W [] [] W.h₀ where
  base := fun _ _ e => e
  len := rfl
  obj := fun i o p e _ => by simp at e
  new := fun b d => by obtain ⟨p, hp, _⟩ := d; cases hp
  sep := fun i j p q e _ _ => by simp at e
theorem law_walk {prog : Program} {w : World} {s₁ : Shared} {K : Frag} (P : PF K) (X : K.In s₁.heap) {view : Program} {loose : List Str} {mg mb : Str → Option Value} (T : TopRead view loose mg mb s₁.heap) (N : s₁.heap.NoSeer) {fa l : Addr} {vs : List Value} {ns : List Int} (hm : mg (Str.ofString "law") = some (.ref fa)) (hl : s₁.heap.IsList l vs.toArray) (hI : IntsAre vs ns) (hz : ns.length ≤ 63) {R : Result → Shared → Prop}
    (h : ∀ h' t', (∀ b o, s₁.heap.get? b = some o → h'.get? b = some o) → R (.ok (.ret (.bool true))) (St s₁ h' t')) : codeAny (model prog w) callerA (.call (.ref fa) ⟨[.ref l], []⟩) R s₁ := by
  have e := mg_of X T.g (g_law P)
  rw [hm] at e
  cases e
  have sm : ∀ b, s₁.heap.get? b = none → (b == sysModules) = false := fun b e => by
    obtain ⟨mm, ⟨o, _, _, q, _⟩, _⟩ := N.mods
    refine Bool.eq_false_iff.mpr fun z => ?_
    rw [beq_iff_eq.mp z, q] at e
    cases e
  let W : Wd := { prog := prog, w := w, K := K, h₀ := s₁.heap, view := view, loose := loose, mg := mg, mb := mb, X := X, sm := sm, T := T }
  have szl := sizeLine_eq
  have ln : vs.length = ns.length := hI.length
  exact fnD_law (W := W) (d := 45) P (Nat.le_refl _) hl (fun φ => ints_vsr hI) (by (first | lia | omega)) callerA s₁.heap s₁.toks s₁ [] [.ref l] R caller_room hr_nil (.cons (.ext l) .nil) fun v H' v' h' t' φ' e y R' k => by
    subst e
    cases y
    exact h h' t' R'.base
end Mine

theorem Mine.hd.tw2867327485932766208 : True := trivial
theorem Mine.hd.tw6276725880618359904 : True := trivial
theorem Mine.hd.tw16412773359747925120 : True := trivial
theorem Mine.hd.tw4706079058837389440 : True := trivial
theorem Mine.hd.tw5292301768408028288 : True := trivial
theorem Mine.hd.tw6830512106363814048 : True := trivial
theorem Mine.hd.tw17950676927832955104 : True := trivial
theorem Mine.hd.tw10458740792067480800 : True := trivial
theorem Mine.hd.tw8381844023166312768 : True := trivial
theorem Mine.hd.tw17387473266821786944 : True := trivial
theorem Mine.hd.tw7023726343779634624 : True := trivial
theorem Mine.hd.tw8134915037123179040 : True := trivial
theorem Mine.hd.tw15344866539931968096 : True := trivial
theorem Mine.hd.tw1359830224848277088 : True := trivial
theorem Mine.hd.tw16154546982801380032 : True := trivial
theorem Mine.hd.tw12070654863422294720 : True := trivial
theorem Mine.hd.tw17183224562656869120 : True := trivial
theorem Mine.hd.tw15643275761693703936 : True := trivial
theorem Mine.hd.tw16005092535978360704 : True := trivial
theorem Mine.hd.tw14598272352848978880 : True := trivial
theorem Mine.hd.tw10752148897807903841 : True := trivial
theorem Mine.hd.tw12127338746724423809 : True := trivial
theorem Mine.hd.tw7610815399733428385 : True := trivial
theorem Mine.hd.tw10403243965636340961 : True := trivial
theorem Mine.hd.tw16858285156579221889 : True := trivial
theorem Mine.hd.tw4086058157674990017 : True := trivial
theorem Mine.hd.tw7512474625130614241 : True := trivial
theorem Mine.hd.tw15220180469806662145 : True := trivial
theorem Mine.hd.tw16037735763661986305 : True := trivial
theorem Mine.hd.tw2315301623876862497 : True := trivial
theorem Mine.hd.tw17336936450418997793 : True := trivial
theorem Mine.hd.tw18343703819029505601 : True := trivial
theorem Mine.hd.tw10678649693572172417 : True := trivial
theorem Mine.hd.tw5343241284826551009 : True := trivial
theorem Mine.hd.tw12602439190401603521 : True := trivial
theorem Mine.hd.tw7914949630228597729 : True := trivial
theorem Mine.hd.tw11210553801493137410 : True := trivial
theorem Mine.hd.tw8609351116199087170 : True := trivial
theorem Mine.hd.tw5480042469492414594 : True := trivial
theorem Mine.hd.tw9430268157657104642 : True := trivial
theorem Mine.hd.tw13919464512627920130 : True := trivial
theorem Mine.hd.tw12936449754285732098 : True := trivial
theorem Mine.hd.tw758273949599710562 : True := trivial
theorem Mine.hd.tw12271959270614036898 : True := trivial
theorem Mine.hd.tw11713075325732132258 : True := trivial
theorem Mine.hd.tw5781342201191254626 : True := trivial
theorem Mine.hd.tw3919010098100093602 : True := trivial
theorem Mine.hd.tw9960721518486171458 : True := trivial
theorem Mine.hd.tw18245042118932799458 : True := trivial
theorem Mine.hd.tw8228950375871286339 : True := trivial
theorem Mine.hd.tw1882180444382439491 : True := trivial
theorem Mine.hd.tw17845618019537910915 : True := trivial
theorem Mine.hd.tw2304311442786299043 : True := trivial
theorem Mine.hd.tw16904818350239718627 : True := trivial
theorem Mine.hd.tw18322514126500204803 : True := trivial
theorem Mine.hd.tw17130151131035750659 : True := trivial
theorem Mine.hd.tw3229955645248102723 : True := trivial
theorem Mine.hd.tw5174551420813472067 : True := trivial
theorem Mine.hd.tw2783992281797965187 : True := trivial
theorem Mine.hd.tw6411954120941647267 : True := trivial
theorem Mine.hd.tw13368278939475635651 : True := trivial
theorem Mine.hd.tw17087091549796120035 : True := trivial
theorem Mine.hd.tw9153386212771759811 : True := trivial
theorem Mine.hd.tw11513968764499736323 : True := trivial
theorem Mine.hd.tw9908193460736022307 : True := trivial
theorem Mine.hd.tw11631947586910100387 : True := trivial
theorem Mine.hd.tw519851828213033955 : True := trivial
theorem Mine.hd.tw17843490464661113860 : True := trivial
theorem Mine.hd.tw6060742912462422084 : True := trivial
theorem Mine.hd.tw14896477498954680388 : True := trivial
theorem Mine.hd.tw6785817131721698500 : True := trivial
theorem Mine.hd.tw5278057926702712004 : True := trivial
theorem Mine.hd.tw13855946660403688772 : True := trivial
theorem Mine.hd.tw8068729725432388964 : True := trivial
theorem Mine.hd.tw7676003278276379012 : True := trivial
theorem Mine.hd.tw3219085151875037572 : True := trivial
theorem Mine.hd.tw10949625832625181284 : True := trivial
theorem Mine.hd.tw17001982702790524580 : True := trivial
theorem Mine.hd.tw5732804406350252772 : True := trivial
theorem Mine.hd.tw1241404454085649124 : True := trivial
theorem Mine.hd.tw8684328023851190084 : True := trivial
theorem Mine.hd.tw8458067239894703972 : True := trivial
theorem Mine.hd.tw3789350110615891812 : True := trivial
theorem Mine.hd.tw18241275227582772068 : True := trivial
theorem Mine.hd.tw16619899343871320964 : True := trivial
theorem Mine.hd.tw8356816923877370021 : True := trivial
theorem Mine.hd.tw7355570028127101125 : True := trivial
theorem Mine.hd.tw2502866573005156581 : True := trivial
theorem Mine.hd.tw6305734824756694309 : True := trivial
theorem Mine.hd.tw9702936160620672325 : True := trivial
theorem Mine.hd.tw10258999931320997221 : True := trivial
theorem Mine.hd.tw11893437276241958245 : True := trivial
theorem Mine.hd.tw15910714762333108613 : True := trivial
theorem Mine.hd.tw12399718760709695909 : True := trivial
theorem Mine.hd.tw7721951785955056133 : True := trivial
theorem Mine.hd.tw9942979801534940709 : True := trivial
theorem Mine.hd.tw15790720579355451973 : True := trivial
theorem Mine.hd.tw799355135909283525 : True := trivial
theorem Mine.hd.tw11251137523995926341 : True := trivial
theorem Mine.hd.tw6438293893037913957 : True := trivial
theorem Mine.hd.tw49274679934790565 : True := trivial
theorem Mine.hd.tw5505005885091257285 : True := trivial
theorem Mine.hd.tw6555240042291301478 : True := trivial
theorem Mine.hd.tw13181700845877081190 : True := trivial
theorem Mine.hd.tw10583446816852156582 : True := trivial
theorem Mine.hd.tw13466754112058979494 : True := trivial
theorem Mine.hd.tw8268277133935991078 : True := trivial
theorem Mine.hd.tw2276098100821748038 : True := trivial
theorem Mine.hd.tw16211521421427940678 : True := trivial
theorem Mine.hd.tw212345690472687942 : True := trivial
theorem Mine.hd.tw7523672394736509286 : True := trivial
theorem Mine.hd.tw11778180911958503814 : True := trivial
theorem Mine.hd.tw991583007596301734 : True := trivial
theorem Mine.hd.tw10424393626065333798 : True := trivial
theorem Mine.hd.tw17562767543260142214 : True := trivial
theorem Mine.hd.tw2195365466389143174 : True := trivial
theorem Mine.hd.tw1865391376527767206 : True := trivial
theorem Mine.hd.tw4993660671451451078 : True := trivial
theorem Mine.hd.tw1506431575118746342 : True := trivial
theorem Mine.hd.tw8990313861142287110 : True := trivial
theorem Mine.hd.tw11587034568685482758 : True := trivial
theorem Mine.hd.tw13893168526513508166 : True := trivial
theorem Mine.hd.tw9386895884608548742 : True := trivial
theorem Mine.hd.tw1589133516308662214 : True := trivial
theorem Mine.hd.tw5978321128707920903 : True := trivial
theorem Mine.hd.tw15043168886218598503 : True := trivial
theorem Mine.hd.tw17893044597097874663 : True := trivial
theorem Mine.hd.tw11579183775450819847 : True := trivial
theorem Mine.hd.tw15683763237869141255 : True := trivial
theorem Mine.hd.tw17919194246423945575 : True := trivial
theorem Mine.hd.tw17062030032774818151 : True := trivial
theorem Mine.hd.tw9783614193127449063 : True := trivial
theorem Mine.hd.tw5635641802508607975 : True := trivial
theorem Mine.hd.tw3109861748172591687 : True := trivial
theorem Mine.hd.tw9557236495431379559 : True := trivial
theorem Mine.hd.tw12901994302517312135 : True := trivial
theorem Mine.hd.tw11660266114150955751 : True := trivial
theorem Mine.hd.tw7068711184596962023 : True := trivial
theorem Mine.hd.tw5054737718236178183 : True := trivial
theorem Mine.hd.tw7028611270464810887 : True := trivial
theorem Mine.hd.tw701787995468756871 : True := trivial
theorem Mine.hd.tw8545014587354053640 : True := trivial
theorem Mine.hd.tw190519026028168232 : True := trivial
theorem Mine.hd.tw4282304852377368616 : True := trivial
theorem Mine.hd.tw8671608845466749128 : True := trivial
theorem Mine.hd.tw13642289790063256904 : True := trivial
theorem Mine.hd.tw10246146449241189800 : True := trivial
theorem Mine.hd.tw16920754564084929960 : True := trivial
theorem Mine.hd.tw12949589719889679912 : True := trivial
theorem Mine.hd.tw14457593812595234344 : True := trivial
theorem Mine.hd.tw6038821095411175016 : True := trivial
theorem Mine.hd.tw4297731678662094536 : True := trivial
theorem Mine.hd.tw4642405928176397000 : True := trivial
theorem Mine.hd.tw162610821266807592 : True := trivial
theorem Mine.hd.tw17975533764899295144 : True := trivial
theorem Mine.hd.tw4870687313549177768 : True := trivial
theorem Mine.hd.tw11011131195910976488 : True := trivial
theorem Mine.hd.tw3259873300814134281 : True := trivial
theorem Mine.hd.tw8959176491354863721 : True := trivial
theorem Mine.hd.tw18166333605607142505 : True := trivial
theorem Mine.hd.tw4225703048834024713 : True := trivial
theorem Mine.hd.tw14906377314874228009 : True := trivial
theorem Mine.hd.tw3917367725267117449 : True := trivial
theorem Mine.hd.tw1129884963351977449 : True := trivial
theorem Mine.hd.tw8184699220007379433 : True := trivial
theorem Mine.hd.tw3350844169311001129 : True := trivial
theorem Mine.hd.tw2635901220451274409 : True := trivial
theorem Mine.hd.tw9566141503761928105 : True := trivial
theorem Mine.hd.tw5148922909946612681 : True := trivial
theorem Mine.hd.tw3915529967508079626 : True := trivial
theorem Mine.hd.tw18264374347568628810 : True := trivial
theorem Mine.hd.tw15042006015671813226 : True := trivial
theorem Mine.hd.tw6906073325868019850 : True := trivial
theorem Mine.hd.tw13217225542625558698 : True := trivial
theorem Mine.hd.tw17780116424223528106 : True := trivial
theorem Mine.hd.tw7120233287515763914 : True := trivial
theorem Mine.hd.tw6804821044290156842 : True := trivial
theorem Mine.hd.tw16794629799341752650 : True := trivial
theorem Mine.hd.tw7654286748164834634 : True := trivial
theorem Mine.hd.tw4383666589626881386 : True := trivial
theorem Mine.hd.tw6528754448969337418 : True := trivial
theorem Mine.hd.tw10603584201595350602 : True := trivial
theorem Mine.hd.tw4360684699965382250 : True := trivial
theorem Mine.hd.tw10170382586518783626 : True := trivial
theorem Mine.hd.tw12487502673411948298 : True := trivial
theorem Mine.hd.tw4478964076566166474 : True := trivial
theorem Mine.hd.tw11128854368766332075 : True := trivial
theorem Mine.hd.tw13277076834127875243 : True := trivial
theorem Mine.hd.tw3443669649825651883 : True := trivial
theorem Mine.hd.tw11917015161858427179 : True := trivial
theorem Mine.hd.tw9170477692918782315 : True := trivial
theorem Mine.hd.tw10030107230732127627 : True := trivial
theorem Mine.hd.tw6683769817339685419 : True := trivial
theorem Mine.hd.tw16598086639473574507 : True := trivial
theorem Mine.hd.tw7534799579077118603 : True := trivial
theorem Mine.hd.tw9741134391959003819 : True := trivial
theorem Mine.hd.tw15089522573102190283 : True := trivial
theorem Mine.hd.tw10743916045514856203 : True := trivial
theorem Mine.hd.tw9748044761591592747 : True := trivial
theorem Mine.hd.tw8727321023445011275 : True := trivial
theorem Mine.hd.tw2999033326186475339 : True := trivial
theorem Mine.hd.tw8242931771332617035 : True := trivial
theorem Mine.hd.tw8716120427605611371 : True := trivial
theorem Mine.hd.tw6196171512934965099 : True := trivial
theorem Mine.hd.tw978945382295711627 : True := trivial
theorem Mine.hd.tw6264232113106981867 : True := trivial
theorem Mine.hd.tw4315991029959535628 : True := trivial
theorem Mine.hd.tw17740048764370220076 : True := trivial
theorem Mine.hd.tw6394381022753523788 : True := trivial
theorem Mine.hd.tw1836080755315867724 : True := trivial
theorem Mine.hd.tw12647368939536790636 : True := trivial
theorem Mine.hd.tw14060154772996877548 : True := trivial
theorem Mine.hd.tw12092154237167983948 : True := trivial
theorem Mine.hd.tw17711083657039698284 : True := trivial
theorem Mine.hd.tw12575139184659369484 : True := trivial
theorem Mine.hd.tw6482722132109649516 : True := trivial
theorem Mine.hd.tw5130813555471234732 : True := trivial
theorem Mine.hd.tw8004679753235328684 : True := trivial
theorem Mine.hd.tw17948085552500728524 : True := trivial
theorem Mine.hd.tw12588582704262371052 : True := trivial
theorem Mine.hd.tw7270182246851987180 : True := trivial
theorem Mine.hd.tw15368132723985388332 : True := trivial
theorem Mine.hd.tw12023040214023829324 : True := trivial
theorem Mine.hd.tw16171809288044610508 : True := trivial
theorem Mine.hd.tw15837987909243819085 : True := trivial
theorem Mine.hd.tw1409312971732116557 : True := trivial
theorem Mine.hd.tw400957795416337517 : True := trivial
theorem Mine.hd.tw5341252731332001901 : True := trivial
theorem Mine.hd.tw16332348944364537037 : True := trivial
theorem Mine.hd.tw1013155817946168525 : True := trivial
theorem Mine.hd.tw13321331477185743149 : True := trivial
theorem Mine.hd.tw16345102440705955213 : True := trivial
theorem Mine.hd.tw8457440626546761165 : True := trivial
theorem Mine.hd.tw4377701919642642989 : True := trivial
theorem Mine.hd.tw3404104791013757517 : True := trivial
theorem Mine.hd.tw16828841361933241965 : True := trivial
theorem Mine.hd.tw3418944747029953165 : True := trivial
theorem Mine.hd.tw5036846961687405229 : True := trivial
theorem Mine.hd.tw1851346269716277005 : True := trivial
theorem Mine.hd.tw9887637860340737837 : True := trivial
theorem Mine.hd.tw16240987189780228909 : True := trivial
theorem Mine.hd.tw17606422857730326317 : True := trivial
theorem Mine.hd.tw10404513684093684653 : True := trivial
theorem Mine.hd.tw10614716105012338702 : True := trivial
theorem Mine.hd.tw7880807054014371918 : True := trivial
theorem Mine.hd.tw14294001040229213422 : True := trivial
theorem Mine.hd.tw4654797750381630734 : True := trivial
theorem Mine.hd.tw17311223219408574766 : True := trivial
theorem Mine.hd.tw1781861727890032366 : True := trivial
theorem Mine.hd.tw4159134105002834734 : True := trivial
theorem Mine.hd.tw16722109127936396110 : True := trivial
theorem Mine.hd.tw9345929723534960622 : True := trivial
theorem Mine.hd.tw1452849714261714991 : True := trivial
theorem Mine.hd.tw2442259710966052079 : True := trivial
theorem Mine.hd.tw8587404781116728655 : True := trivial
theorem Mine.hd.tw6082411064634330575 : True := trivial
theorem Mine.hd.tw3493717111155160527 : True := trivial
theorem Mine.hd.tw3759623122121258479 : True := trivial
theorem Mine.hd.tw11709330566771433103 : True := trivial
theorem Mine.hd.tw10012880186880212623 : True := trivial
theorem Mine.hd.tw5987830557187376847 : True := trivial
theorem Mine.hd.tw6990203504111849199 : True := trivial
theorem Mine.hd.tw2101469004524951375 : True := trivial
theorem Mine.hd.tw11319892378374348655 : True := trivial
theorem Mine.hd.tw9657781627882305391 : True := trivial
theorem Mine.hd.tw13315533130655954831 : True := trivial
theorem Mine.hd.tw16649331688326792143 : True := trivial
theorem Mine.hd.tw1197925565968671727 : True := trivial
theorem Mine.hd.tw10111801491309104144 : True := trivial
theorem Mine.hd.tw402640490398009360 : True := trivial
theorem Mine.hd.tw10216474801634566288 : True := trivial
theorem Mine.hd.tw10491609206876299696 : True := trivial
theorem Mine.hd.tw16853341256802265648 : True := trivial
theorem Mine.hd.tw13285133528070534704 : True := trivial
theorem Mine.hd.tw1712922718373300912 : True := trivial
theorem Mine.hd.tw13518370688599389936 : True := trivial
theorem Mine.hd.tw11551083187376567056 : True := trivial
theorem Mine.hd.tw12614811148066621264 : True := trivial
theorem Mine.hd.tw13790719812936386609 : True := trivial
theorem Mine.hd.tw13322179722446271537 : True := trivial
theorem Mine.hd.tw15527848837575444561 : True := trivial
theorem Mine.hd.tw17213754286329925777 : True := trivial
theorem Mine.hd.tw280609765759037681 : True := trivial
theorem Mine.hd.tw432457690288141553 : True := trivial
theorem Mine.hd.tw14705683404202351889 : True := trivial
theorem Mine.hd.tw100483095206116625 : True := trivial
theorem Mine.hd.tw6882427118574961969 : True := trivial
theorem Mine.hd.tw17903497710992402801 : True := trivial
theorem Mine.hd.tw16634568088961857937 : True := trivial
theorem Mine.hd.tw16056359734778111409 : True := trivial
theorem Mine.hd.tw13220430256171166289 : True := trivial
theorem Mine.hd.tw3828038474966422129 : True := trivial
theorem Mine.hd.tw12113243949977362033 : True := trivial
theorem Mine.hd.tw5961118342813265553 : True := trivial
theorem Mine.hd.tw8117029840178788049 : True := trivial
theorem Mine.hd.tw6545403380812914513 : True := trivial
theorem Mine.hd.tw6578402527460240241 : True := trivial
theorem Mine.hd.tw5716766192118558609 : True := trivial
theorem Mine.hd.tw6759412095888398321 : True := trivial
theorem Mine.hd.tw2391449824757734642 : True := trivial
theorem Mine.hd.tw8025032847418708242 : True := trivial
theorem Mine.hd.tw15166520500009309586 : True := trivial
theorem Mine.hd.tw15813434630575017362 : True := trivial
theorem Mine.hd.tw5366084841770067474 : True := trivial
theorem Mine.hd.tw5282504435634884242 : True := trivial
theorem Mine.hd.tw17377529257436501650 : True := trivial
theorem Mine.hd.tw1580110805410547442 : True := trivial
theorem Mine.hd.tw10525666975642140466 : True := trivial
theorem Mine.hd.tw9298403506768410418 : True := trivial
theorem Mine.hd.tw6293948785866598258 : True := trivial
theorem Mine.hd.tw12629568148972539762 : True := trivial
theorem Mine.hd.tw7296583596125217682 : True := trivial
theorem Mine.hd.tw1097998534492414930 : True := trivial
theorem Mine.hd.tw15083628210047938546 : True := trivial
theorem Mine.hd.tw10601615944963115059 : True := trivial
theorem Mine.hd.tw3694398316872202419 : True := trivial
theorem Mine.hd.tw5238241317806426387 : True := trivial
theorem Mine.hd.tw7289634563603522867 : True := trivial
theorem Mine.hd.tw16945582573551092051 : True := trivial
theorem Mine.hd.tw16006246977917349235 : True := trivial
theorem Mine.hd.tw1382963296337349011 : True := trivial
theorem Mine.hd.tw16432713993328977331 : True := trivial
theorem Mine.hd.tw7793673504863384051 : True := trivial
theorem Mine.hd.tw5363564295841288755 : True := trivial
theorem Mine.hd.tw11151547217846952531 : True := trivial
theorem Mine.hd.tw18103342009636024947 : True := trivial
theorem Mine.hd.tw4115565904173853331 : True := trivial
theorem Mine.hd.tw3008623586974134963 : True := trivial
theorem Mine.hd.tw920214292312260371 : True := trivial
theorem Mine.hd.tw16640546478005224243 : True := trivial
theorem Mine.hd.tw15948780112781908787 : True := trivial
theorem Mine.hd.tw4015398097383911347 : True := trivial
theorem Mine.hd.tw13409441903868389331 : True := trivial
theorem Mine.hd.tw8789358453043137523 : True := trivial
theorem Mine.hd.tw18103420901670897651 : True := trivial
theorem Mine.hd.tw4851647983119433812 : True := trivial
theorem Mine.hd.tw15529170255622000948 : True := trivial
theorem Mine.hd.tw6164396464334811476 : True := trivial
theorem Mine.hd.tw7540655947842036084 : True := trivial
theorem Mine.hd.tw15422856539912107476 : True := trivial
theorem Mine.hd.tw7540741092611519060 : True := trivial
theorem Mine.hd.tw11220892185045867188 : True := trivial
theorem Mine.hd.tw10738003575532504788 : True := trivial
theorem Mine.hd.tw697623264460660564 : True := trivial
theorem Mine.hd.tw1997569388931296116 : True := trivial
theorem Mine.hd.tw226724450230711188 : True := trivial
theorem Mine.hd.tw5629675986466331604 : True := trivial
theorem Mine.hd.tw1439246655266547700 : True := trivial
theorem Mine.hd.tw6598312636042714100 : True := trivial
theorem Mine.hd.tw17234923516513369237 : True := trivial
theorem Mine.hd.tw11162318198679636149 : True := trivial
theorem Mine.hd.tw13225837485096350037 : True := trivial
theorem Mine.hd.tw6442067068224118133 : True := trivial
theorem Mine.hd.tw14103535550066685397 : True := trivial
theorem Mine.hd.tw2608437505485318709 : True := trivial
theorem Mine.hd.tw12173100003817136821 : True := trivial
theorem Mine.hd.tw7494724483528729301 : True := trivial
theorem Mine.hd.tw15508949281206285077 : True := trivial
theorem Mine.hd.tw13609717118414637909 : True := trivial
theorem Mine.hd.tw9427301549700849589 : True := trivial
theorem Mine.hd.tw6820862383352777685 : True := trivial
theorem Mine.hd.tw10919297434634762262 : True := trivial
theorem Mine.hd.tw8965841893048198262 : True := trivial
theorem Mine.hd.tw6291416237084387574 : True := trivial
theorem Mine.hd.tw8343274005884668182 : True := trivial
theorem Mine.hd.tw1848646778235469078 : True := trivial
theorem Mine.hd.tw1413172679324656950 : True := trivial
theorem Mine.hd.tw16473244170626142550 : True := trivial
theorem Mine.hd.tw15238134620097496406 : True := trivial
theorem Mine.hd.tw16713699803418581334 : True := trivial
theorem Mine.hd.tw3452082135128663414 : True := trivial
theorem Mine.hd.tw11213053971927718326 : True := trivial
theorem Mine.hd.tw16155205043701107222 : True := trivial
theorem Mine.hd.tw1011335219593555734 : True := trivial
theorem Mine.hd.tw8428860471423672150 : True := trivial
theorem Mine.hd.tw4138081844389336918 : True := trivial
theorem Mine.hd.tw15367242080415987702 : True := trivial
theorem Mine.hd.tw10090067676359358454 : True := trivial
theorem Mine.hd.tw15615537253650120727 : True := trivial
theorem Mine.hd.tw11026324117731225655 : True := trivial
theorem Mine.hd.tw5283464899586487735 : True := trivial
theorem Mine.hd.tw3442329435671937591 : True := trivial
theorem Mine.hd.tw11402939732021071671 : True := trivial
theorem Mine.hd.tw307737655149646647 : True := trivial
theorem Mine.hd.tw10879034167726328663 : True := trivial
theorem Mine.hd.tw3947710232987724695 : True := trivial
theorem Mine.hd.tw11389486352061984695 : True := trivial
theorem Mine.hd.tw11136197038861592535 : True := trivial
theorem Mine.hd.tw2788664435532181463 : True := trivial
theorem Mine.hd.tw15946388913382835224 : True := trivial
theorem Mine.hd.tw18300207936620678264 : True := trivial
theorem Mine.hd.tw5562173858411828344 : True := trivial
theorem Mine.hd.tw2799067240506288376 : True := trivial
theorem Mine.hd.tw18093812233618175256 : True := trivial
theorem Mine.hd.tw2274498078352570744 : True := trivial
theorem Mine.hd.tw15759970867653108152 : True := trivial
theorem Mine.hd.tw5511420028821071320 : True := trivial
theorem Mine.hd.tw13866372431405929976 : True := trivial
theorem Mine.hd.tw26425463804135960 : True := trivial
theorem Mine.hd.tw13267510147771200024 : True := trivial
theorem Mine.hd.tw14176624398918483544 : True := trivial
theorem Mine.hd.tw15048261121198461528 : True := trivial
theorem Mine.hd.tw10727248033764811480 : True := trivial
theorem Mine.hd.tw8516288146210602744 : True := trivial
theorem Mine.hd.tw8770205317985620760 : True := trivial
theorem Mine.hd.tw10860895700388868024 : True := trivial
theorem Mine.hd.tw4065347644161347641 : True := trivial
theorem Mine.hd.tw4788038989552484473 : True := trivial
theorem Mine.hd.tw728884934406724761 : True := trivial
theorem Mine.hd.tw1588505670450824345 : True := trivial
theorem Mine.hd.tw2603259988358896889 : True := trivial
theorem Mine.hd.tw2845679848157327705 : True := trivial
theorem Mine.hd.tw14488336819298241945 : True := trivial
theorem Mine.hd.tw15411387601460861337 : True := trivial
theorem Mine.hd.tw10784824025267889561 : True := trivial
theorem Mine.hd.tw11054480109507316185 : True := trivial
theorem Mine.hd.tw3953601041324332601 : True := trivial
theorem Mine.hd.tw16772102934027710169 : True := trivial
theorem Mine.hd.tw17574625026820762457 : True := trivial
theorem Mine.hd.tw17330945745186091897 : True := trivial
theorem Mine.hd.tw8081886968326746073 : True := trivial
theorem Mine.hd.tw6982297934935202809 : True := trivial
theorem Mine.hd.tw22551697357593593 : True := trivial
theorem Mine.hd.tw13047593935725612058 : True := trivial
theorem Mine.hd.tw5902613922787404954 : True := trivial
theorem Mine.hd.tw11953376511379268794 : True := trivial
theorem Mine.hd.tw541196102884509978 : True := trivial
theorem Mine.hd.tw12050417470231563642 : True := trivial
theorem Mine.hd.tw464777395874653626 : True := trivial
theorem Mine.hd.tw6868836192036940282 : True := trivial
theorem Mine.hd.tw9421340871869096474 : True := trivial
theorem Mine.hd.tw1600037746751723098 : True := trivial
theorem Mine.hd.tw7526368328331116154 : True := trivial
theorem Mine.hd.tw5373601922739893978 : True := trivial
theorem Mine.hd.tw16157073509204512506 : True := trivial
theorem Mine.hd.tw11232374478483605306 : True := trivial
theorem Mine.hd.tw11652457597714270106 : True := trivial
theorem Mine.hd.tw13038990169509382042 : True := trivial
theorem Mine.hd.tw1610171440888473627 : True := trivial
theorem Mine.hd.tw11032806212648032379 : True := trivial
theorem Mine.hd.tw15103106377680225435 : True := trivial
theorem Mine.hd.tw14353793391729792155 : True := trivial
theorem Mine.hd.tw11079593142295127227 : True := trivial
theorem Mine.hd.tw14478148883734587675 : True := trivial
theorem Mine.hd.tw6767318904944593275 : True := trivial
theorem Mine.hd.tw2051048951616859547 : True := trivial
theorem Mine.hd.tw10024716035694756283 : True := trivial
theorem Mine.hd.tw16007149819294483003 : True := trivial
theorem Mine.hd.tw2068664650715991707 : True := trivial
theorem Mine.hd.tw9719896912496429819 : True := trivial
theorem Mine.hd.tw17177331786930743035 : True := trivial
theorem Mine.hd.tw6965799899956892507 : True := trivial
theorem Mine.hd.tw461538923250603899 : True := trivial
theorem Mine.hd.tw15642763164714097627 : True := trivial
theorem Mine.hd.tw13770079208771991547 : True := trivial
theorem Mine.hd.tw11319097763535126812 : True := trivial
theorem Mine.hd.tw395138700845864316 : True := trivial
theorem Mine.hd.tw15615420239508185596 : True := trivial
theorem Mine.hd.tw12591134339009171964 : True := trivial
theorem Mine.hd.tw16091413853298234908 : True := trivial
theorem Mine.hd.tw7085514621470718492 : True := trivial
theorem Mine.hd.tw2887051446865420828 : True := trivial
theorem Mine.hd.tw17599816209265215132 : True := trivial
theorem Mine.hd.tw2327210489368252092 : True := trivial
theorem Mine.hd.tw2252305205657439004 : True := trivial
theorem Mine.hd.tw1194904439430580092 : True := trivial
theorem Mine.hd.tw4402725079659364252 : True := trivial
theorem Mine.hd.tw14852329139284432860 : True := trivial
theorem Mine.hd.tw17986969038992634876 : True := trivial
theorem Mine.hd.tw13289513938125300765 : True := trivial
theorem Mine.hd.tw17714235663813219645 : True := trivial
theorem Mine.hd.tw16868993833207775613 : True := trivial
theorem Mine.hd.tw6924109203229866365 : True := trivial
theorem Mine.hd.tw10792051664901133789 : True := trivial
theorem Mine.hd.tw5608270528595127837 : True := trivial
theorem Mine.hd.tw7763873220885509757 : True := trivial
theorem Mine.hd.tw3646829019195819677 : True := trivial
theorem Mine.hd.tw3704167492566942397 : True := trivial
theorem Mine.hd.tw15967140613478806237 : True := trivial
theorem Mine.hd.tw845060206244984605 : True := trivial
theorem Mine.hd.tw8226494294326810461 : True := trivial
theorem Mine.hd.tw15833661619300960221 : True := trivial
theorem Mine.hd.tw3182187488490625086 : True := trivial
theorem Mine.hd.tw16194383521188589630 : True := trivial
theorem Mine.hd.tw11631869004601391166 : True := trivial
theorem Mine.hd.tw7746578258024575070 : True := trivial
theorem Mine.hd.tw9673543361469618366 : True := trivial
theorem Mine.hd.tw6123773746684550334 : True := trivial
theorem Mine.hd.tw6838551448383532254 : True := trivial
theorem Mine.hd.tw13638418597567726942 : True := trivial
theorem Mine.hd.tw16259696140248634718 : True := trivial
theorem Mine.hd.tw4172343393113369950 : True := trivial
theorem Mine.hd.tw17681399029576232318 : True := trivial
theorem Mine.hd.tw13431754692932380062 : True := trivial
theorem Mine.hd.tw17739348878880393726 : True := trivial
theorem Mine.hd.tw2329189449893159454 : True := trivial
theorem Mine.hd.tw9533747618267967006 : True := trivial
theorem Mine.hd.tw3480954088277226078 : True := trivial
theorem Mine.hd.tw7510230149288206974 : True := trivial
theorem Mine.hd.tw12744807935193187038 : True := trivial
theorem Mine.hd.tw5920070799505406782 : True := trivial
theorem Mine.hd.tw8047900516022102942 : True := trivial
theorem Mine.hd.tw14620637471214046174 : True := trivial
theorem Mine.hd.tw6423634429210846174 : True := trivial
theorem Mine.hd.tw14955159897011116063 : True := trivial
theorem Mine.hd.tw6931407450589930559 : True := trivial
theorem Mine.hd.tw4478166936697009375 : True := trivial
theorem Mine.hd.tw14400467628812073631 : True := trivial
theorem Mine.hd.tw5245234834050458271 : True := trivial
theorem Mine.hd.tw442638132926106271 : True := trivial
theorem Mine.hd.tw7922709476020998847 : True := trivial
theorem Mine.hd.tw3309697970292668127 : True := trivial
theorem Mine.hd.tw7519716089354478335 : True := trivial
theorem Mine.hd.tw13288434576448096689 : True := trivial
set_option maxRecDepth 100000 in
set_option maxHeartbeats 8000000 in
set_option Elab.async true in
theorem Mine.hd : PySem.Challenge.rw_pc0225_01.Holds := by
  w_on; o_law; k_head
  case hw => w_witness2
  intro w s₀ s₁ mg mb G Y fa o pm cd doc dV kV ho hd hcd hD hmg hg args vals as hpre hlay hrd hwl hlo
  have KX := kIn_of Y
  refine Ground.open G ?_
  intro T B D TE TW
  clear hcd hd hD ho TE TW B D
  wrow_args hpre hlay hrd hwl hlo
  all_goals try refine callC_kw ?_
  refine enter_call ?_
  refine codeAny_mono ?_ (fun _ _ g => GoodW.toG g)
  refine law_walk ?pf KX (topRead_of T) (T.seer (by decide +kernel)) hmg (by assumption) (by assumption) (by omega) fun h' t' k => ⟨.inl ⟨.bool true, .bool true, [], rfl, fun _ => rfl, .bool true, by kernel_rfl, unshared_nil⟩, k, rfl, hg⟩
  case pf => exact {
    chk := by kernel_rfl
    figures := ⟨_, by rfl⟩
    number_text := FnAt.at1 rfl rfl fun S a0 => rfl
    Thing_init := FnAt.at2 rfl rfl fun S a0 a1 => rfl
    Scalar_init := FnAt.at3 rfl rfl fun S a0 a1 a2 => rfl
    Array_init := FnAt.at2 rfl rfl fun S a0 a1 => rfl
    Hash_init := FnAt.at2 rfl rfl fun S a0 a1 => rfl
    Ref_init := FnAt.at2 rfl rfl fun S a0 a1 => rfl
    Heap_init := FnAt.at2 rfl rfl fun S a0 a1 => rfl
    next_number := FnAt.at1 rfl rfl fun S a0 => rfl
    new_scalar := FnAt.at2 rfl rfl fun S a0 a1 => rfl
    new_array := FnAt.at1 rfl rfl fun S a0 => rfl
    new_hash := FnAt.at1 rfl rfl fun S a0 => rfl
    value_of := FnAt.at1 rfl rfl fun S a0 => rfl
    to_text := FnAt.at1 rfl rfl fun S a0 => rfl
    fresh_scalars := FnAt.at2 rfl rfl fun S a0 a1 => rfl
    drop_member := FnAt.at2 rfl rfl fun S a0 a1 => rfl
    drop_members := FnAt.at2 rfl rfl fun S a0 a1 => rfl
    clear_array := FnAt.at2 rfl rfl fun S a0 a1 => rfl
    fill_array := FnAt.at3 rfl rfl fun S a0 a1 a2 => rfl
    array_values := FnAt.at1 rfl rfl fun S a0 => rfl
    plain_values := FnAt.at1 rfl rfl fun S a0 => rfl
    clear_hash := FnAt.at2 rfl rfl fun S a0 a1 => rfl
    flat_hash := FnAt.at1 rfl rfl fun S a0 => rfl
    fill_hash := FnAt.at3 rfl rfl fun S a0 a1 a2 => rfl
    fill_whole := FnAt.at3 rfl rfl fun S a0 a1 a2 => rfl
    assign_list := FnAt.at3 rfl rfl fun S a0 a1 a2 => rfl
    assigned_members := FnAt.at1 rfl rfl fun S a0 => rfl
    held_by := FnAt.at1 rfl rfl fun S a0 => rfl
    empty_out := FnAt.at1 rfl rfl fun S a0 => rfl
    in_order := FnAt.at1 rfl rfl fun S a0 => rfl
    Counter_init := FnAt.at3 rfl rfl fun S a0 a1 a2 => rfl
    hold := FnAt.at2 rfl rfl fun S a0 a1 => rfl
    let_go := FnAt.at2 rfl rfl fun S a0 a1 => rfl
    take := FnAt.at2 rfl rfl fun S a0 a1 => rfl
    put_off := FnAt.at3 rfl rfl fun S a0 a1 a2 => rfl
    store := FnAt.at3 rfl rfl fun S a0 a1 a2 => rfl
    fresh := FnAt.at2 rfl rfl fun S a0 a1 => rfl
    drop := FnAt.at2 rfl rfl fun S a0 a1 => rfl
    settle := FnAt.at2 rfl rfl fun S a0 a1 => rfl
    finish := FnAt.at2 rfl rfl fun S a0 a1 => rfl
    free := FnAt.at2 rfl rfl fun S a0 a1 => rfl
    Limits_init := ⟨_, _, _, _, _, FnAt.at1 rfl rfl fun S a0 => rfl⟩
    law_told := FnAt.at1 rfl rfl fun S a0 => rfl
    law_all := FnAt.at1 rfl rfl fun S a0 => rfl
    law_text := FnAt.at1 rfl rfl fun S a0 => rfl
    law_paired := FnAt.at1 rfl rfl fun S a0 => rfl
    law_flat := FnAt.at1 rfl rfl fun S a0 => rfl
    law_sources := FnAt.at3 rfl rfl fun S a0 a1 a2 => rfl
    law_targets := FnAt.at1 rfl rfl fun S a0 => rfl
    law_assigned := FnAt.at3 rfl rfl fun S a0 a1 a2 => rfl
    law_members := FnAt.at2 rfl rfl fun S a0 a1 => rfl
    law := FnAt.at1 rfl rfl fun S a0 => rfl }
theorem PySem.Challenge.cw_pc0225_01_holds : PySem.Challenge.rw_pc0225_01.Holds := by
  exact Mine.hd

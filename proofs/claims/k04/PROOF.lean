import PyProof.Rows.All
import Wide.All
import OpenK.AllK
import Wide.FinOn
import HandS.ForMost
import HandS.Exc
import HandS.ExcOwn
import HandS.Wide
import HandS.IsInst
import HandS.TupAny
import HandS.SortInts
import HandS.Zip
import HandS.Flow
import HandS.Style
import HandS.Star
import HandS.Set
import HandS.SetFor
import HandS.Strs
import HandS.Replace
import HandS.ReplaceLit
import HandS.Iter
import HandS.Text
import HandS.ReplaceList
import HandS.TupMul
import HandS.Conv
import PyProof.ListStr
import PySem.Challenge.RW_wearbinds_k04_expressions_recognized
set_option Elab.async false
set_option linter.all false
set_option maxRecDepth 100000
/-! PmA: deep data with owned and frozen nodes, and how a heap bears them. -/
namespace Pm
open PySem PySem.Spec PyProof.Rows L2
abbrev Sl := List (Option V)

/-- the kind of a compound thing -/
inductive Kd where
  | tup | lst | scr | dct (ks : List Key) | obj (C : Str) (fs : List Str)
  deriving DecidableEq
/-- data: an owned node (true) may be changed in place, a frozen one is shared and stays -/
inductive D where
  | non | bl (b : Bool) | int (i : Int) | str (x : Str) | op (v : V)
  | node (o : Bool) (k : Kd) (xs : List D)
abbrev D.tup (xs : List D) : D := .node false .tup xs
abbrev D.lst (o : Bool) (xs : List D) : D := .node o .lst xs
abbrev D.scr (xs : List D) : D := .node false .scr xs
abbrev D.dct (o : Bool) (ks : List Key) (xs : List D) : D := .node o (.dct ks) xs

mutual
def D.plain : D → Bool
  | .node o _ xs => !o && plainL xs
  | _ => true
def plainL : List D → Bool
  | [] => true
  | d :: ds => d.plain && plainL ds
end
mutual
def D.frz : D → D
  | .node _ k xs => .node false k (frzL xs)
  | d => d
def frzL : List D → List D
  | [] => []
  | d :: ds => d.frz :: frzL ds
end
theorem frzL_map : ∀ ds : List D, frzL ds = ds.map D.frz
  | [] => rfl
  | d :: ds => by rw [frzL, frzL_map ds, List.map_cons]
theorem plainL_all : ∀ ds : List D, plainL ds = ds.all D.plain
  | [] => rfl
  | d :: ds => by rw [plainL, plainL_all ds, List.all_cons]
mutual
theorem D.frz_of_plain : ∀ d : D, d.plain = true → d.frz = d
  | .non, _ => rfl
  | .bl _, _ => rfl
  | .int _, _ => rfl
  | .str _, _ => rfl
  | .op _, _ => rfl
  | .node o k xs, h => by
    rw [D.plain, Bool.and_eq_true, Bool.not_eq_true'] at h
    rw [D.frz, frzL_of_plain xs h.2, h.1]
theorem frzL_of_plain : ∀ ds : List D, plainL ds = true → frzL ds = ds
  | [], _ => rfl
  | d :: ds, h => by
    rw [plainL, Bool.and_eq_true] at h
    rw [frzL, D.frz_of_plain d h.1, frzL_of_plain ds h.2]
end
mutual
theorem D.plain_frz : ∀ d : D, d.frz.plain = true
  | .non => rfl
  | .bl _ => rfl
  | .int _ => rfl
  | .str _ => rfl
  | .op _ => rfl
  | .node o k xs => by
    rw [D.frz, D.plain, plainL_frz xs]
    rfl
theorem plainL_frz : ∀ ds : List D, plainL (frzL ds) = true
  | [] => rfl
  | d :: ds => by
    rw [frzL, plainL, D.plain_frz d, plainL_frz ds]
    rfl
end

/-! ### the heap's side -/
abbrev Fp := Addr → Prop
abbrev Fp0 : Fp := fun _ => False
/-- a thing at its address, as tracked -/
def Cell (H : Hp) (a : Addr) (ys : List V) : Kd → Prop
  | .tup => H a = some (.tup ys)
  | .lst => H a = some (.lst ys)
  | .scr => False
  | .dct ks => ks.length = ys.length ∧ H a = some (.dK (ks.zip ys))
  | .obj _ _ => False
/-- a frozen thing as it is read -/
def Frd (K : PySem.W.Frag) (Z : Hp) (a : Addr) (ys : List V) : Kd → Prop
  | .tup => SqT K Z a ys
  | .scr => SqL K Z a ys
  | k => Cell Z a ys k
mutual
def Rep (K : PySem.W.Frag) (Z H : Hp) : D → V → Fp → Prop
  | .non, v, _ => v = .non
  | .bl b, v, _ => v = .bl b
  | .int i, v, _ => v = .int i
  | .str x, v, _ => v = .str x
  | .op u, v, _ => v = u
  | .node false k ds, v, S => ∃ a ys, v = .ref a ∧ Frd K Z a ys k ∧ RepL K Z H ds ys S
  | .node true k ds, v, S => ∃ a ys S', v = .ref a ∧ Cell H a ys k ∧ S a ∧ ¬ S' a ∧ (∀ b, S' b → S b) ∧ RepL K Z H ds ys S'
def RepL (K : PySem.W.Frag) (Z H : Hp) : List D → List V → Fp → Prop
  | [], [], _ => True
  | d :: ds, v :: vs, S => ∃ S1 S2 : Fp, (∀ a, S1 a → S a) ∧ (∀ a, S2 a → S a) ∧ (∀ a, S1 a → S2 a → False) ∧ Rep K Z H d v S1 ∧ RepL K Z H ds vs S2
  | _, _, _ => False
end
section
variable {K : PySem.W.Frag} {Z Z' H H' : Hp} {S S' : Fp}
theorem Cell.same {a : Addr} {ys : List V} {k : Kd} (h : Cell H a ys k) (e : ∀ o, H a = some o → H' a = some o) : Cell H' a ys k := by
  cases k with
  | tup => exact e _ h
  | lst => exact e _ h
  | scr => exact h
  | dct ks => exact ⟨h.1, e _ h.2⟩
  | obj C fs => exact h
theorem SqT.same {a : Addr} {ys : List V} (h : SqT K Z a ys) (e : Same Z Z') : SqT K Z' a ys := by
  rcases h with (h | ⟨o, h⟩) | h
  · exact .inl (.inl (e _ _ h))
  · exact .inl (.inr ⟨o, e _ _ h⟩)
  · exact .inr h
theorem Frd.same {a : Addr} {ys : List V} {k : Kd} (h : Frd K Z a ys k) (e : Same Z Z') : Frd K Z' a ys k := by
  cases k with
  | tup => exact SqT.same h e
  | lst => exact e _ _ h
  | scr => exact Same.seq e h
  | dct ks => exact ⟨h.1, e _ _ h.2⟩
  | obj C fs => exact h
theorem Cell.frd {a : Addr} {ys : List V} {k : Kd} (h : Cell Z a ys k) : Frd K Z a ys k := by
  cases k with
  | tup => exact SqT.of h
  | lst => exact h
  | scr => exact h.elim
  | dct ks => exact h
  | obj C fs => exact h
mutual
/-- the data stay where what they lean on stays -/
theorem Rep.move : ∀ {d : D} {v : V} {S S' : Fp}, Rep K Z H d v S → Same Z Z' → (∀ a o, S a → H a = some o → H' a = some o) → (∀ a, S a → S' a) → Rep K Z' H' d v S'
  | .non, _, _, _, h, _, _, _ => h
  | .bl _, _, _, _, h, _, _, _ => h
  | .int _, _, _, _, h, _, _, _ => h
  | .str _, _, _, _, h, _, _, _ => h
  | .op _, _, _, _, h, _, _, _ => h
  | .node false k ds, v, S, S', h, z, k1, m => by
    obtain ⟨a, ys, e, c, r⟩ := h
    exact ⟨a, ys, e, c.same z, RepL.move r z k1 m⟩
  | .node true k ds, v, S, S', h, z, k1, m => by
    obtain ⟨a, ys, T, e, c, sa, na, sub, r⟩ := h
    exact ⟨a, ys, T, e, c.same fun o q => k1 a o sa q, m a sa, na, fun b hb => m b (sub b hb), RepL.move r z (fun b o hb => k1 b o (sub b hb)) fun _ x => x⟩
theorem RepL.move : ∀ {ds : List D} {vs : List V} {S S' : Fp}, RepL K Z H ds vs S → Same Z Z' → (∀ a o, S a → H a = some o → H' a = some o) → (∀ a, S a → S' a) → RepL K Z' H' ds vs S'
  | [], [], _, _, _, _, _, _ => trivial
  | [], _ :: _, _, _, h, _, _, _ => h.elim
  | _ :: _, [], _, _, h, _, _, _ => h.elim
  | d :: ds, v :: vs, S, S', h, z, k1, m => by
    obtain ⟨S1, S2, s1, s2, dj, r, q⟩ := h
    exact ⟨S1, S2, fun b hb => m b (s1 b hb), fun b hb => m b (s2 b hb), dj, Rep.move r z (fun b o hb => k1 b o (s1 b hb)) fun _ x => x, RepL.move q z (fun b o hb => k1 b o (s2 b hb)) fun _ x => x⟩
end
mutual
theorem Rep.plain : ∀ {d : D} {v : V} {S : Fp}, Rep K Z H d v S → d.plain = true → Rep K Z H' d v Fp0
  | .non, _, _, h, _ => h
  | .bl _, _, _, h, _ => h
  | .int _, _, _, h, _ => h
  | .str _, _, _, h, _ => h
  | .op _, _, _, h, _ => h
  | .node false k ds, v, S, h, p => by
    obtain ⟨a, ys, e, c, r⟩ := h
    rw [D.plain, Bool.and_eq_true] at p
    exact ⟨a, ys, e, c, RepL.plain r p.2⟩
  | .node true k ds, v, S, h, p => by
    rw [D.plain, Bool.and_eq_true] at p
    exact absurd p.1 (by decide)
theorem RepL.plain : ∀ {ds : List D} {vs : List V} {S : Fp}, RepL K Z H ds vs S → plainL ds = true → RepL K Z H' ds vs Fp0
  | [], [], _, _, _ => trivial
  | [], _ :: _, _, h, _ => h.elim
  | _ :: _, [], _, h, _ => h.elim
  | d :: ds, v :: vs, S, h, p => by
    obtain ⟨S1, S2, s1, s2, dj, r, q⟩ := h
    rw [plainL, Bool.and_eq_true] at p
    exact ⟨Fp0, Fp0, fun _ x => x, fun _ x => x, fun _ x _ => x, Rep.plain r p.1, RepL.plain q p.2⟩
end
/-- Z with what stands at S -/
noncomputable def thaw (Z H : Hp) (S : Fp) : Hp := fun a => open Classical in if S a then H a else Z a
theorem thaw_in {a : Addr} (h : S a) : thaw Z H S a = H a := by unfold thaw; rw [if_pos h]
theorem thaw_out {a : Addr} (h : ¬ S a) : thaw Z H S a = Z a := by unfold thaw; rw [if_neg h]
theorem thaw_same (sep : ∀ a, S a → Z a = none) : Same Z (thaw Z H S) := fun a o e => by
  by_cases h : S a
  · rw [sep a h] at e; cases e
  · rw [thaw_out h]; exact e
theorem thaw_le (s : Same Z H) : Same (thaw Z H S) H := fun a o e => by
  by_cases h : S a
  · rw [thaw_in h] at e; exact e
  · rw [thaw_out h] at e; exact s _ _ e
mutual
theorem Rep.frz : ∀ {d : D} {v : V} {T : Fp}, Rep K Z H d v T → (∀ a, S a → Z a = none) → (∀ a, T a → S a) → Rep K (thaw Z H S) H' d.frz v Fp0
  | .non, _, _, h, _, _ => h
  | .bl _, _, _, h, _, _ => h
  | .int _, _, _, h, _, _ => h
  | .str _, _, _, h, _, _ => h
  | .op _, _, _, h, _, _ => h
  | .node false k ds, v, T, h, sep, m => by
    obtain ⟨a, ys, e, c, r⟩ := h
    exact ⟨a, ys, e, c.same (thaw_same sep), RepL.frz r sep m⟩
  | .node true k ds, v, T, h, sep, m => by
    obtain ⟨a, ys, T', e, c, sa, na, sub, r⟩ := h
    exact ⟨a, ys, e, (c.same fun o q => by rw [thaw_in (m a sa)]; exact q).frd, RepL.frz r sep fun b hb => m b (sub b hb)⟩
theorem RepL.frz : ∀ {ds : List D} {vs : List V} {T : Fp}, RepL K Z H ds vs T → (∀ a, S a → Z a = none) → (∀ a, T a → S a) → RepL K (thaw Z H S) H' (frzL ds) vs Fp0
  | [], [], _, _, _, _ => trivial
  | [], _ :: _, _, h, _, _ => h.elim
  | _ :: _, [], _, h, _, _ => h.elim
  | d :: ds, v :: vs, T, h, sep, m => by
    obtain ⟨S1, S2, s1, s2, dj, r, q⟩ := h
    exact ⟨Fp0, Fp0, fun _ x => x, fun _ x => x, fun _ x _ => x, Rep.frz r sep fun b hb => m b (s1 b hb), RepL.frz q sep fun b hb => m b (s2 b hb)⟩
end
theorem RepL.length : ∀ {ds : List D} {vs : List V} {S : Fp}, RepL K Z H ds vs S → ds.length = vs.length
  | [], [], _, _ => rfl
  | [], _ :: _, _, h => h.elim
  | _ :: _, [], _, h => h.elim
  | _ :: ds, _ :: vs, _, ⟨_, _, _, _, _, _, q⟩ => by rw [List.length_cons, List.length_cons, RepL.length q]
theorem RepL.get : ∀ {ds : List D} {vs : List V} {S : Fp} {i : Nat} {d : D}, RepL K Z H ds vs S → ds[i]? = some d → ∃ v, vs[i]? = some v ∧ Rep K Z H d v S
  | [], _, _, _, _, _, e => by simp at e
  | _ :: _, [], _, _, _, h, _ => h.elim
  | d :: ds, v :: vs, S, 0, d', h, e => by
    obtain ⟨S1, S2, s1, s2, dj, r, q⟩ := h
    simp only [List.getElem?_cons_zero, Option.some.injEq] at e
    subst e
    exact ⟨v, rfl, Rep.move r (Same.refl Z) (fun _ _ _ x => x) s1⟩
  | d :: ds, v :: vs, S, i + 1, d', h, e => by
    obtain ⟨S1, S2, s1, s2, dj, r, q⟩ := h
    simp only [List.getElem?_cons_succ] at e
    obtain ⟨u, hu, ru⟩ := RepL.get q e
    exact ⟨u, by simpa using hu, Rep.move ru (Same.refl Z) (fun _ _ _ x => x) s2⟩
theorem RepL.none_of {ds : List D} {vs : List V} {i : Nat} (h : RepL K Z H ds vs S) (e : ds[i]? = none) : vs[i]? = none := by
  rw [List.getElem?_eq_none_iff] at e ⊢
  rw [← h.length]; exact e
/-- all plain: the footprint is nothing -/
theorem RepL.of_all : ∀ {ds : List D} {vs : List V}, ds.length = vs.length → (∀ (i : Nat) (d : D) (v : V), ds[i]? = some d → vs[i]? = some v → Rep K Z H d v Fp0) → RepL K Z H ds vs Fp0
  | [], [], _, _ => trivial
  | [], _ :: _, h, _ => by simp at h
  | _ :: _, [], h, _ => by simp at h
  | d :: ds, v :: vs, h, f => ⟨Fp0, Fp0, fun _ x => x, fun _ x => x, fun _ x _ => x, f 0 d v rfl rfl, RepL.of_all (by simpa using h) fun i d' v' e1 e2 => f (i + 1) d' v' (by simpa using e1) (by simpa using e2)⟩
theorem RepL.append : ∀ {ds es : List D} {vs ws : List V} {S1 S2 T : Fp}, RepL K Z H ds vs S1 → RepL K Z H es ws S2 → (∀ a, S1 a → T a) → (∀ a, S2 a → T a) → (∀ a, S1 a → S2 a → False) → RepL K Z H (ds ++ es) (vs ++ ws) T
  | [], es, [], ws, S1, S2, T, _, h2, _, m2, _ => RepL.move h2 (Same.refl Z) (fun _ _ _ x => x) m2
  | [], _, _ :: _, _, _, _, _, h, _, _, _, _ => h.elim
  | _ :: _, _, [], _, _, _, _, h, _, _, _, _ => h.elim
  | d :: ds, es, v :: vs, ws, S1, S2, T, h, h2, m1, m2, dj => by
    obtain ⟨T1, T2, t1, t2, tj, r, q⟩ := h
    refine ⟨T1, fun a => T2 a ∨ S2 a, fun a x => m1 a (t1 a x), fun a x => x.elim (fun y => m1 a (t2 a y)) (m2 a), fun a x y => y.elim (tj a x) (dj a (t1 a x)), r, ?_⟩
    exact RepL.append (T := fun a => T2 a ∨ S2 a) q h2 (fun a x => Or.inl x) (fun a x => Or.inr x) fun a x y => dj a (t2 a x) y
/-- one item taken out of its place (an int stands there), the rest apart from it -/
theorem RepL.take : ∀ {ds : List D} {vs : List V} {S : Fp} {i : Nat} {d : D}, RepL K Z H ds vs S → ds[i]? = some d →
    ∃ v, ∃ S1 S2 : Fp, vs[i]? = some v ∧ (∀ a, S1 a → S a) ∧ (∀ a, S2 a → S a) ∧ (∀ a, S1 a → S2 a → False) ∧ Rep K Z H d v S1 ∧
      ∀ (Z' H' : Hp) (e : D) (w : V) (T1 T : Fp), Same Z Z' → (∀ a o, S2 a → H a = some o → H' a = some o) → Rep K Z' H' e w T1 → (∀ a, T1 a → T a) → (∀ a, S2 a → T a) → (∀ a, T1 a → S2 a → False) → RepL K Z' H' (ds.set i e) (vs.set i w) T
  | [], _, _, _, _, _, e => by simp at e
  | _ :: _, [], _, _, _, h, _ => h.elim
  | d :: ds, v :: vs, S, 0, d', h, e => by
    obtain ⟨S1, S2, s1, s2, dj, r, q⟩ := h
    simp only [List.getElem?_cons_zero, Option.some.injEq] at e
    subst e
    exact ⟨v, S1, S2, rfl, s1, s2, dj, r, fun Z' H' e w T1 T z k r' m1 m2 dj' => ⟨T1, S2, m1, m2, dj', r', RepL.move q z k fun _ x => x⟩⟩
  | d :: ds, v :: vs, S, i + 1, d', h, e => by
    obtain ⟨S1, S2, s1, s2, dj, r, q⟩ := h
    simp only [List.getElem?_cons_succ] at e
    obtain ⟨u, U1, U2, hu, u1, u2, uj, ru, f⟩ := RepL.take q e
    refine ⟨u, U1, fun a => S1 a ∨ U2 a, by simpa using hu, fun a x => s2 a (u1 a x), fun a x => x.elim (s1 a) fun y => s2 a (u2 a y), fun a x y => y.elim (fun z => dj a z (u1 a x)) (uj a x), ru, ?_⟩
    intro Z' H' e w T1 T z k r' m1 m2 dj'
    refine ⟨S1, fun a => T1 a ∨ U2 a, fun a x => m2 a (.inl x), fun a x => x.elim (m1 a) fun y => m2 a (.inr y), fun a x y => y.elim (fun t => dj' a t (.inl x)) fun t => dj a x (u2 a t), Rep.move r z (fun a o x => k a o (.inl x)) fun _ x => x, ?_⟩
    exact f Z' H' e w T1 _ z (fun a o x => k a o (.inr x)) r' (fun a x => .inl x) (fun a x => .inr x) fun a x y => dj' a x (.inr y)
end

/-! ### slots -/
abbrev Env := List (Option D)
def EnvR (K : PySem.W.Frag) (Z H : Hp) : Env → Sl → Fp → Prop
  | [], [], _ => True
  | none :: ρ, _ :: σ, S => EnvR K Z H ρ σ S
  | some d :: ρ, some v :: σ, S => ∃ S1 S2 : Fp, (∀ a, S1 a → S a) ∧ (∀ a, S2 a → S a) ∧ (∀ a, S1 a → S2 a → False) ∧ Rep K Z H d v S1 ∧ EnvR K Z H ρ σ S2
  | _, _, _ => False
section
variable {K : PySem.W.Frag} {Z Z' H H' : Hp} {S S' : Fp}
theorem EnvR.length : ∀ {ρ : Env} {σ : Sl} {S : Fp}, EnvR K Z H ρ σ S → ρ.length = σ.length
  | [], [], _, _ => rfl
  | [], _ :: _, _, h => h.elim
  | none :: _, [], _, h => h.elim
  | some _ :: _, [], _, h => h.elim
  | none :: ρ, _ :: σ, S, h => by rw [List.length_cons, List.length_cons, EnvR.length (ρ := ρ) (σ := σ) h]
  | some _ :: ρ, none :: σ, S, h => h.elim
  | some _ :: ρ, some _ :: σ, S, ⟨_, _, _, _, _, _, q⟩ => by rw [List.length_cons, List.length_cons, EnvR.length q]
theorem EnvR.move : ∀ {ρ : Env} {σ : Sl} {S S' : Fp}, EnvR K Z H ρ σ S → Same Z Z' → (∀ a o, S a → H a = some o → H' a = some o) → (∀ a, S a → S' a) → EnvR K Z' H' ρ σ S'
  | [], [], _, _, _, _, _, _ => trivial
  | [], _ :: _, _, _, h, _, _, _ => h.elim
  | none :: _, [], _, _, h, _, _, _ => h.elim
  | some _ :: _, [], _, _, h, _, _, _ => h.elim
  | none :: ρ, _ :: σ, S, S', h, z, k, m => EnvR.move (ρ := ρ) (σ := σ) h z k m
  | some _ :: _, none :: _, _, _, h, _, _, _ => h.elim
  | some d :: ρ, some v :: σ, S, S', h, z, k, m => by
    obtain ⟨S1, S2, s1, s2, dj, r, q⟩ := h
    exact ⟨S1, S2, fun b hb => m b (s1 b hb), fun b hb => m b (s2 b hb), dj, Rep.move r z (fun b o hb => k b o (s1 b hb)) fun _ x => x, EnvR.move q z (fun b o hb => k b o (s2 b hb)) fun _ x => x⟩
/-- a slot is taken -/
theorem EnvR.take : ∀ {ρ : Env} {σ : Sl} {S : Fp} {i : Nat} {d : D}, EnvR K Z H ρ σ S → ρ[i]? = some (some d) →
    ∃ v, ∃ S1 S2 : Fp, σ[i]? = some (some v) ∧ (∀ a, S1 a → S a) ∧ (∀ a, S2 a → S a) ∧ (∀ a, S1 a → S2 a → False) ∧ Rep K Z H d v S1 ∧ EnvR K Z H (ρ.set i none) σ S2
  | [], _, _, _, _, _, e => by simp at e
  | none :: _, [], _, _, _, h, _ => h.elim
  | some _ :: _, [], _, _, _, h, _ => h.elim
  | none :: ρ, y :: σ, S, 0, d, h, e => by simp at e
  | none :: ρ, y :: σ, S, i + 1, d, h, e => by
    simp only [List.getElem?_cons_succ] at e
    obtain ⟨v, S1, S2, hv, s1, s2, dj, r, q⟩ := EnvR.take (ρ := ρ) (σ := σ) h e
    exact ⟨v, S1, S2, by simpa using hv, s1, s2, dj, r, q⟩
  | some _ :: _, none :: _, _, _, _, h, _ => h.elim
  | some d' :: ρ, some v :: σ, S, 0, d, h, e => by
    obtain ⟨S1, S2, s1, s2, dj, r, q⟩ := h
    simp only [List.getElem?_cons_zero, Option.some.injEq] at e
    subst e
    exact ⟨v, S1, S2, rfl, s1, s2, dj, r, q⟩
  | some d' :: ρ, some v' :: σ, S, i + 1, d, h, e => by
    obtain ⟨T1, T2, t1, t2, tj, tr, tq⟩ := h
    simp only [List.getElem?_cons_succ] at e
    obtain ⟨v, S1, S2, hv, s1, s2, dj, r, q⟩ := EnvR.take tq e
    refine ⟨v, S1, fun a => T1 a ∨ S2 a, by simpa using hv, fun a x => t2 a (s1 a x), fun a x => x.elim (t1 a) fun y => t2 a (s2 a y), fun a x y => y.elim (fun z => tj a z (s1 a x)) (dj a x), r, ?_⟩
    exact ⟨T1, S2, fun a x => .inl x, fun a x => .inr x, fun a x y => tj a x (s2 a y), tr, q⟩
/-- a slot is filled -/
theorem EnvR.put : ∀ {ρ : Env} {σ : Sl} {S1 S2 S : Fp} {i : Nat} {d : D} {v : V}, EnvR K Z H (ρ.set i none) σ S2 → i < ρ.length → Rep K Z H d v S1 → (∀ a, S1 a → S a) → (∀ a, S2 a → S a) → (∀ a, S1 a → S2 a → False) →
    EnvR K Z H (ρ.set i (some d)) (σ.set i (some v)) S
  | [], _, _, _, _, _, _, _, _, l, _, _, _, _ => by simp at l
  | _ :: _, [], _, _, _, 0, _, _, h, _, _, _, _, _ => h.elim
  | none :: _, [], _, _, _, _ + 1, _, _, h, _, _, _, _, _ => h.elim
  | some _ :: _, [], _, _, _, _ + 1, _, _, h, _, _, _, _, _ => h.elim
  | x :: ρ, y :: σ, S1, S2, S, 0, d, v, h, _, r, m1, m2, dj => ⟨S1, S2, m1, m2, dj, r, h⟩
  | none :: ρ, y :: σ, S1, S2, S, i + 1, d, v, h, l, r, m1, m2, dj => EnvR.put (ρ := ρ) (σ := σ) h (by simpa using l) r m1 m2 dj
  | some _ :: _, none :: _, _, _, _, _ + 1, _, _, h, _, _, _, _, _ => h.elim
  | some d' :: ρ, some v' :: σ, S1, S2, S, i + 1, d, v, h, l, r, m1, m2, dj => by
    obtain ⟨T1, T2, t1, t2, tj, tr, tq⟩ := h
    refine ⟨T1, fun a => S1 a ∨ T2 a, fun a x => m2 a (t1 a x), fun a x => x.elim (m1 a) fun y => m2 a (t2 a y), fun a x y => y.elim (fun z => dj a z (t1 a x)) (tj a x), tr, ?_⟩
    exact EnvR.put tq (by simpa using l) r (fun a x => .inl x) (fun a x => .inr x) fun a x y => dj a x (t2 a y)
/-- a slot forgotten -/
theorem EnvR.drop : ∀ {ρ : Env} {σ : Sl} {S : Fp} (i : Nat), EnvR K Z H ρ σ S → EnvR K Z H (ρ.set i none) σ S
  | [], [], _, _, _ => trivial
  | [], _ :: _, _, _, h => h.elim
  | none :: _, [], _, _, h => h.elim
  | some _ :: _, [], _, _, h => h.elim
  | none :: ρ, _ :: σ, S, 0, h => h
  | none :: ρ, _ :: σ, S, i + 1, h => EnvR.drop (ρ := ρ) (σ := σ) i h
  | some _ :: _, none :: _, _, _, h => h.elim
  | some d :: ρ, some v :: σ, S, 0, ⟨S1, S2, s1, s2, dj, r, q⟩ => EnvR.move q (Same.refl Z) (fun _ _ _ x => x) s2
  | some d :: ρ, some v :: σ, S, i + 1, ⟨S1, S2, s1, s2, dj, r, q⟩ => ⟨S1, S2, s1, s2, dj, r, EnvR.drop i q⟩
/-- what stands in a slot that is not known does not matter -/
theorem EnvR.any : ∀ {ρ : Env} {σ : Sl} {S : Fp} {i : Nat} (y : Option V), EnvR K Z H ρ σ S → ρ[i]? = some none → EnvR K Z H ρ (σ.set i y) S
  | [], _, _, _, _, _, e => by simp at e
  | none :: _, [], _, _, _, h, _ => h.elim
  | some _ :: _, [], _, _, _, h, _ => h.elim
  | none :: ρ, _ :: σ, S, 0, y, h, _ => h
  | none :: ρ, _ :: σ, S, i + 1, y, h, e => EnvR.any (ρ := ρ) (σ := σ) (i := i) y h (by simpa using e)
  | some _ :: _, none :: _, _, _, _, h, _ => h.elim
  | some d :: ρ, some v :: σ, S, 0, y, h, e => by simp at e
  | some d :: ρ, some v :: σ, S, i + 1, y, ⟨S1, S2, s1, s2, dj, r, q⟩, e => ⟨S1, S2, s1, s2, dj, r, EnvR.any y q (by simpa using e)⟩
end

/-! ### steps of the world -/
structure Wd (Z H : Hp) (S : Fp) : Prop where
  same : Same Z H
  sep : ∀ a, S a → Z a = none
  dom : ∀ a, S a → H a ≠ none
structure Step (Z H : Hp) (S : Fp) (Z' H' : Hp) (S' : Fp) : Prop where
  wd : Wd Z' H' S'
  zz : Same Z Z'
  fr : ∀ a o, ¬ S a → H a = some o → H' a = some o
  new : ∀ a, S' a → S a ∨ H a = none
  znew : ∀ a o, Z' a = some o → Z a = some o ∨ S a ∨ H a = none
section
variable {Z Z1 Z2 H H1 H2 : Hp} {S S1 S2 T : Fp}
theorem Step.refl (w : Wd Z H S) : Step Z H S Z H S := ⟨w, Same.refl Z, fun _ _ _ e => e, fun _ x => .inl x, fun _ _ e => .inl e⟩
theorem Step.trans (a : Step Z H S Z1 H1 S1) (b : Step Z1 H1 S1 Z2 H2 S2) : Step Z H S Z2 H2 S2 where
  wd := b.wd
  zz := a.zz.trans b.zz
  fr := fun x o n e => b.fr x o (fun q => (a.new x q).elim n fun z => by rw [e] at z; cases z) (a.fr x o n e)
  new := fun x q => by
    rcases b.new x q with h | h
    · exact a.new x h
    · by_cases hs : S x
      · exact .inl hs
      · cases e : H x with
        | none => exact .inr rfl
        | some o => rw [a.fr x o hs e] at h; cases h
  znew := fun x o q => by
    rcases b.znew x o q with h | h | h
    · exact a.znew x o h
    · rcases a.new x h with h | h
      · exact .inr (.inl h)
      · exact .inr (.inr h)
    · by_cases hs : S x
      · exact .inr (.inl hs)
      · cases e : H x with
        | none => exact .inr (.inr rfl)
        | some o => rw [a.fr x o hs e] at h; cases h
theorem Wd.less (w : Wd Z H S) (m : ∀ a, S1 a → S a) : Wd Z H S1 := ⟨w.same, fun a x => w.sep a (m a x), fun a x => w.dom a (m a x)⟩
/-- a part of what is owned is put aside -/
theorem Step.less (a : Step Z H S Z1 H1 S1) (m : ∀ a, S2 a → S1 a) : Step Z H S Z1 H1 S2 := ⟨a.wd.less m, a.zz, a.fr, fun x q => a.new x (m x q), a.znew⟩
/-- a step of a part is a step of the whole: T is put aside -/
theorem Step.frame (a : Step Z H S Z1 H1 S1) (w : Wd Z H (fun x => S x ∨ T x)) (dj : ∀ x, S x → T x → False) : Step Z H (fun x => S x ∨ T x) Z1 H1 (fun x => S1 x ∨ T x) where
  wd := ⟨a.wd.same, fun x q => q.elim (a.wd.sep x) fun t => by
      cases e : Z1 x with
      | none => rfl
      | some o =>
        rcases a.znew x o e with h | h | h
        · rw [w.sep x (.inr t)] at h; cases h
        · exact (dj x h t).elim
        · exact (w.dom x (.inr t) h).elim, fun x q => q.elim (a.wd.dom x) fun t => by
      cases e : H x with
      | none => exact (w.dom x (.inr t) e).elim
      | some o => rw [a.fr x o (fun h => dj x h t) e]; exact fun q => nomatch q⟩
  zz := a.zz
  fr := fun x o n e => a.fr x o (fun q => n (.inl q)) e
  new := fun x q => q.elim (fun h => (a.new x h).elim (fun z => .inl (.inl z)) .inr) fun t => .inl (.inr t)
  znew := fun x o e => (a.znew x o e).elim .inl fun h => h.elim (fun z => .inr (.inl (.inl z))) fun z => .inr (.inr z)
theorem Step.apart (a : Step Z H S Z1 H1 S1) (w : ∀ x, T x → H x ≠ none) (dj : ∀ x, S x → T x → False) : ∀ x, S1 x → T x → False := fun x q t => (a.new x q).elim (fun h => dj x h t) fun h => w x t h
/-- what is put aside stays -/
theorem Step.stay {K : PySem.W.Frag} {d : D} {v : V} (a : Step Z H S Z1 H1 S1) (dj : ∀ x, S x → T x → False) (r : Rep K Z H d v T) : Rep K Z1 H1 d v T := r.move a.zz (fun x o t e => a.fr x o (fun h => dj x h t) e) fun _ x => x
theorem Step.stayL {K : PySem.W.Frag} {ds : List D} {vs : List V} (a : Step Z H S Z1 H1 S1) (dj : ∀ x, S x → T x → False) (r : RepL K Z H ds vs T) : RepL K Z1 H1 ds vs T := r.move a.zz (fun x o t e => a.fr x o (fun h => dj x h t) e) fun _ x => x
theorem Step.stayE {K : PySem.W.Frag} {ρ : Env} {σ : Sl} (a : Step Z H S Z1 H1 S1) (dj : ∀ x, S x → T x → False) (r : EnvR K Z H ρ σ T) : EnvR K Z1 H1 ρ σ T := r.move a.zz (fun x o t e => a.fr x o (fun h => dj x h t) e) fun _ x => x
/-- a new object, owned -/
theorem Step.alloc {p : Addr} {o : HO} (w : Wd Z H S) (n : H p = none) : Step Z H S Z (upd H p o) (fun a => S a ∨ a = p) where
  wd := ⟨fun a u e => by rw [upd_ne (ne_of_none (w.same a u e) n)]; exact w.same a u e, fun a q => q.elim (w.sep a) fun e => by
      subst e
      cases e : Z a with
      | none => rfl
      | some u => exact absurd ((w.same a u e).symm.trans n) (fun z => nomatch z), fun a q e => by
      by_cases h : a = p
      · subst h; rw [upd_same] at e; cases e
      · rw [upd_ne h] at e; exact q.elim (fun s => w.dom a s e) h⟩
  zz := Same.refl Z
  fr := fun a u _ e => by rw [upd_ne (ne_of_none e n)]; exact e
  new := fun a q => q.elim .inl fun h => by subst h; exact .inr n
  znew := fun _ _ e => .inl e
/-- a new object, frozen -/
theorem Step.allocZ {p : Addr} {o : HO} (w : Wd Z H S) (n : H p = none) : Step Z H S (upd Z p o) (upd H p o) S where
  wd := ⟨fun a u e => by
      by_cases h : a = p
      · subst h; rw [upd_same] at e ⊢; exact e
      · rw [upd_ne h] at e ⊢; exact w.same a u e, fun a s => by
      have h : a ≠ p := fun h => by subst h; exact w.dom _ s n
      rw [upd_ne h]; exact w.sep a s, fun a s e => by
      have h : a ≠ p := fun h => by subst h; exact w.dom _ s n
      rw [upd_ne h] at e; exact w.dom a s e⟩
  zz := fun a u e => by rw [upd_ne (ne_of_none (w.same a u e) n)]; exact e
  fr := fun a u _ e => by rw [upd_ne (ne_of_none e n)]; exact e
  new := fun a q => .inl q
  znew := fun a u e => by
    by_cases h : a = p
    · subst h; exact .inr (.inr n)
    · rw [upd_ne h] at e; exact .inl e
/-- an owned object is written -/
theorem Step.write {p : Addr} {o : HO} (w : Wd Z H S) (s : S p) : Step Z H S Z (upd H p o) S where
  wd := ⟨fun a u e => by
      have h : a ≠ p := fun h => by subst h; rw [w.sep _ s] at e; cases e
      rw [upd_ne h]; exact w.same a u e, w.sep, fun a s' e => by
      by_cases h : a = p
      · subst h; rw [upd_same] at e; cases e
      · rw [upd_ne h] at e; exact w.dom a s' e⟩
  zz := Same.refl Z
  fr := fun a u n e => by rw [upd_ne fun h => n (by subst h; exact s)]; exact e
  new := fun a q => .inl q
  znew := fun _ _ e => .inl e
/-- a part is frozen -/
theorem Step.freeze (w : Wd Z H S) (m : ∀ a, T a → S a) (m2 : ∀ a, S1 a → S a) (dj : ∀ a, S1 a → T a → False) : Step Z H S (thaw Z H T) H S1 where
  wd := ⟨thaw_le w.same, fun a s => by rw [thaw_out fun t => dj a s t]; exact w.sep a (m2 a s), fun a s => w.dom a (m2 a s)⟩
  zz := thaw_same fun a t => w.sep a (m a t)
  fr := fun _ _ _ e => e
  new := fun a s => .inl (m2 a s)
  znew := fun a o e => by
    by_cases h : T a
    · exact .inr (.inl (m a h))
    · rw [thaw_out h] at e; exact .inl e
end
end Pm
/-! PmB: programs as functions over slots of data, and when a reading follows from such a function. -/
namespace Pm
open PySem PySem.Spec PyProof.Rows L2

structure XD where
  cls : Str
  fs : List (Str × D)
inductive Res (α : Type) where
  | stuck | ok (a : α) (ρ : Env) | exc (x : XD) (ρ : Env)
abbrev M (α : Type) := Env → Res α
/-- what an expression gives: data of its own, or what stands in a slot -/
inductive EV where
  | val (d : D) | ref (i : Nat)
inductive Fl where
  | nx | bk | ct | rt (d : D)
def ret {α : Type} (a : α) : M α := fun ρ => .ok a ρ
def bnd {α β : Type} (m : M α) (f : α → M β) : M β := fun ρ => match m ρ with
  | .stuck => .stuck
  | .ok a ρ' => f a ρ'
  | .exc x ρ' => .exc x ρ'
def lift {α : Type} : Option α → M α
  | some a => fun ρ => .ok a ρ
  | none => fun _ => .stuck
def peek1 (ρ : Env) : EV → Option D
  | .val d => some d
  | .ref i => ρ.getD i none
def peeks (ρ : Env) : List EV → Option (List D)
  | [] => some []
  | e :: es => match peek1 ρ e, peeks ρ es with
    | some d, some ds => some (d :: ds)
    | _, _ => none
/-- to take what an expression gave for keeps -/
def use1 : EV → M D
  | .val d => fun ρ => .ok d ρ
  | .ref i => fun ρ => match ρ.getD i none with
    | some d => .ok d.frz (ρ.set i (some d.frz))
    | none => .stuck
def useL : List EV → M (List D)
  | [] => ret []
  | e :: es => bnd (use1 e) fun d => bnd (useL es) fun ds => ret (d :: ds)

/-! ### what stands behind -/
section
variable (K : PySem.W.Frag) (mg : Str → Option Value)
def EVR (Z H : Hp) (σ : Sl) : EV → V → Fp → Prop
  | .val d, v, S => Rep K Z H d v S
  | .ref i, v, _ => σ[i]? = some (some v)
def EVsR (Z H : Hp) (σ : Sl) : List EV → List V → Fp → Prop
  | [], [], _ => True
  | e :: es, v :: vs, S => ∃ S1 S2 : Fp, (∀ a, S1 a → S a) ∧ (∀ a, S2 a → S a) ∧ (∀ a, S1 a → S2 a → False) ∧ EVR K Z H σ e v S1 ∧ EVsR Z H σ es vs S2
  | _, _, _ => False
def ExcR (Z : Hp) (x : XD) (cls : Value) (dd : Option Addr) : Prop :=
  ∃ C, mg x.cls = some (.ref C) ∧ cls = .ref C ∧ ((dd = none ∧ x.fs = []) ∨ ∃ d vs, dd = some d ∧ Z d = some (.xd ((x.fs.map (·.1)).zip vs)) ∧ RepL K Z Z (x.fs.map (·.2)) vs Fp0)
/-- what is asked of an exception -/
def XOut (W : WX) (Z H : Hp) (S : Fp) (σ : Sl) (x : XD) (ρ' : Env) : Prop :=
  ∀ cls dd Z' H' S', Step Z H S Z' H' S' → EnvR K Z' H' ρ' σ S' → ExcR K mg Z' x cls dd → W cls dd σ H'
def OutA (W : WX) (Z H : Hp) (S : Fp) (σ : Sl) (Q : List V → Hp → Prop) : Res (List EV) → Prop
  | .stuck => False
  | .ok es ρ' => ∀ vs Z' H' S' Sd, Step Z H S Z' H' (fun a => S' a ∨ Sd a) → (∀ a, S' a → Sd a → False) → EnvR K Z' H' ρ' σ S' → EVsR K Z' H' σ es vs Sd → Q vs H'
  | .exc x ρ' => XOut K mg W Z H S σ x ρ'
def OutE (W : WX) (Z H : Hp) (S : Fp) (σ : Sl) (Q : VK) : Res EV → Prop
  | .stuck => False
  | .ok e ρ' => ∀ v Z' H' S' Sd, Step Z H S Z' H' (fun a => S' a ∨ Sd a) → (∀ a, S' a → Sd a → False) → EnvR K Z' H' ρ' σ S' → EVR K Z' H' σ e v Sd → Q v H'
  | .exc x ρ' => XOut K mg W Z H S σ x ρ'
def OutT (W : WX) (Z H : Hp) (S : Fp) (σ : Sl) (Q : Bool → Hp → Prop) : Res Bool → Prop
  | .stuck => False
  | .ok b ρ' => ∀ Z' H' S', Step Z H S Z' H' S' → EnvR K Z' H' ρ' σ S' → Q b H'
  | .exc x ρ' => XOut K mg W Z H S σ x ρ'
def FlR (Z H : Hp) : Fl → V → Fp → Prop
  | .rt d, v, S => Rep K Z H d v S
  | _, _, _ => True
def FlGo (D : Ends) (σ : Sl) (v : V) (H : Hp) : Fl → Prop
  | .nx => D.nx σ H
  | .bk => D.bk σ H
  | .ct => D.ct σ H
  | .rt _ => D.rt v H
/-- slots that are not stored (A tells which may be) -/
def Keep (A : Nat → Bool) (σ σ' : Sl) : Prop := (∀ j : Nat, A j = false → σ'[j]? = σ[j]?) ∧ σ'.length = σ.length
def OutS (W : WX) (A : Nat → Bool) (σ : Sl) (Z H : Hp) (S : Fp) (D : Ends) : Res Fl → Prop
  | .stuck => False
  | .ok fl ρ' => ∀ σ' v Z' H' S' Sd, Keep A σ σ' → Step Z H S Z' H' (fun a => S' a ∨ Sd a) → (∀ a, S' a → Sd a → False) → EnvR K Z' H' ρ' σ' S' → FlR K Z' H' fl v Sd → FlGo D σ' v H' fl
  | .exc x ρ' => ∀ σ', Keep A σ σ' → XOut K mg W Z H S σ' x ρ'
def tE (W : WX) (f : M EV) : TE := fun σ H Q => ∃ Z ρ S, Wd Z H S ∧ EnvR K Z H ρ σ S ∧ OutE K mg W Z H S σ Q (f ρ)
def tA (W : WX) (f : M (List EV)) : TA := fun σ H Q => ∃ Z ρ S, Wd Z H S ∧ EnvR K Z H ρ σ S ∧ OutA K mg W Z H S σ Q (f ρ)
def tT (W : WX) (f : M Bool) : TT := fun σ H Q => ∃ Z ρ S, Wd Z H S ∧ EnvR K Z H ρ σ S ∧ OutT K mg W Z H S σ Q (f ρ)
def tS (W : WX) (A : Nat → Bool) (f : M Fl) : TS := fun D σ H => ∃ Z ρ S, Wd Z H S ∧ EnvR K Z H ρ σ S ∧ OutS K mg W A σ Z H S D (f ρ)
end

theorem Keep.refl {A : Nat → Bool} (σ : Sl) : Keep A σ σ := ⟨fun _ _ => rfl, rfl⟩
theorem Keep.trans {A : Nat → Bool} {σ σ1 σ2 : Sl} (a : Keep A σ σ1) (b : Keep A σ1 σ2) : Keep A σ σ2 := ⟨fun j h => (b.1 j h).trans (a.1 j h), b.2.trans a.2⟩
/-! ### weakening -/
section
variable {X : Cx} {e : Expr} {es : List Expr} {st : Stmt} {sts : List Stmt}
theorem PE.of {t t' : TE} (h : PE X e t) (i : ∀ σ H Q, t' σ H Q → t σ H Q) : PE X e t' := ⟨fun p s σ H Q I q => h.run p s σ H Q I (i σ H Q q)⟩
theorem PA.of {t t' : TA} (h : PA X es t) (i : ∀ σ H Q, t' σ H Q → t σ H Q) : PA X es t' := ⟨fun o p s σ H Q I q => h.run o p s σ H Q I (i σ H Q q)⟩
theorem PT.of {t t' : TT} (h : PT X e t) (i : ∀ σ H Q, t' σ H Q → t σ H Q) : PT X e t' := ⟨fun p s σ H Q I q => h.run p s σ H Q I (i σ H Q q)⟩
theorem PW.of {t t' : TT} (h : PW X e t) (i : ∀ σ H Q, t' σ H Q → t σ H Q) : PW X e t' := ⟨fun o p s σ H Q I q => h.run o p s σ H Q I (i σ H Q q)⟩
theorem PS.of {t t' : TS} (h : PS X st t) (i : ∀ D σ H, t' D σ H → t D σ H) : PS X st t' := ⟨fun p s σ H D I q => h.run p s σ H D I (i D σ H q)⟩
theorem PSs.of {t t' : TS} (h : PSs X sts t) (i : ∀ D σ H, t' D σ H → t D σ H) : PSs X sts t' := ⟨fun p s σ H D I q => h.run p s σ H D I (i D σ H q)⟩
end

section
variable {K : PySem.W.Frag} {mg : Str → Option Value} {W : WX} {Z H : Hp} {S : Fp} {σ : Sl}
theorem XOut.behind {Z1 H1 : Hp} {S1 Sa : Fp} {x : XD} {ρ' : Env} (st : Step Z H S Z1 H1 (fun a => S1 a ∨ Sa a)) (dj : ∀ a, S1 a → Sa a → False) (h : XOut K mg W Z H S σ x ρ') : XOut K mg W Z1 H1 S1 σ x ρ' :=
  fun cls dd Z' H' S' st' er xr => h cls dd Z' H' S' ((st.trans (st'.frame st.wd dj)).less fun a s => .inl s) er xr
/-! ### argument lists -/
def aNil : M (List EV) := ret []
def aCons (f : M EV) (fs : M (List EV)) : M (List EV) := bnd f fun e => bnd fs fun es => ret (e :: es)
theorem EVR.stay {Z' H' : Hp} {S1 Sa : Fp} {e : EV} {v : V} (h : EVR K Z H σ e v Sa) (st : Step Z H S1 Z' H' S) (dj : ∀ a, S1 a → Sa a → False) : EVR K Z' H' σ e v Sa := by
  cases e with
  | val d => exact st.stay dj h
  | ref i => exact h
theorem EVR.more {Sa Sb : Fp} {e : EV} {v : V} (h : EVR K Z H σ e v Sa) (m : ∀ a, Sa a → Sb a) : EVR K Z H σ e v Sb := by
  cases e with
  | val d => exact h.move (Same.refl Z) (fun _ _ _ x => x) m
  | ref i => exact h
theorem Step.to {Z' H' : Hp} {S1 S2 : Fp} (st : Step Z H S Z' H' S1) (m : ∀ a, S1 a ↔ S2 a) : Step Z H S Z' H' S2 := st.less fun a x => (m a).mpr x
theorem Wd.nil {Z H : Hp} {S : Fp} (w : Wd Z H S) : Step Z H S Z H (fun a => S a ∨ Fp0 a) := (Step.refl w).less fun a x => x.elim id False.elim
theorem tA_nil {Q : List V → Hp → Prop} (h : tA K mg W aNil σ H Q) : tNil σ H Q := by
  obtain ⟨Z, ρ, S, w, er, o⟩ := h
  exact o [] Z H S Fp0 w.nil (fun _ _ x => x) er trivial
theorem tA_cons {f : M EV} {fs : M (List EV)} {Q : List V → Hp → Prop} (h : tA K mg W (aCons f fs) σ H Q) : tCons (tE K mg W f) (tA K mg W fs) σ H Q := by
  obtain ⟨Z, ρ, S, w, er, o⟩ := h
  refine ⟨Z, ρ, S, w, er, ?_⟩
  simp only [aCons, bnd] at o
  cases e1 : f ρ with
  | stuck => rw [e1] at o; exact o
  | exc x ρ1 => rw [e1] at o; exact o
  | ok ev ρ1 =>
    rw [e1] at o
    intro v Z1 H1 S1 Sa st1 dj1 er1 r1
    refine ⟨Z1, ρ1, S1, st1.wd.less fun a x => .inl x, er1, ?_⟩
    cases e2 : fs ρ1 with
    | stuck => simp only [e2] at o; exact o
    | exc x ρ2 => simp only [e2] at o; exact o.behind st1 dj1
    | ok es ρ2 =>
      simp only [e2, ret] at o
      intro vs Z2 H2 S2 Sb st2 dj2 er2 r2
      have ap := st2.apart (T := Sa) (fun a x => st1.wd.dom a (.inr x)) dj1
      refine o (v :: vs) Z2 H2 S2 (fun a => Sa a ∨ Sb a) ((st1.trans (st2.frame st1.wd dj1)).less fun a x => ?_) (fun a x y => y.elim (ap a (.inl x)) (dj2 a x)) er2 ?_
      · rcases x with x | x | x
        · exact .inl (.inl x)
        · exact .inr x
        · exact .inl (.inr x)
      · exact ⟨Sa, Sb, fun a x => .inl x, fun a x => .inr x, fun a x y => ap a (.inr y) x, r1.stay st2 dj1, r2⟩
theorem pa_n {X : Cx} : PA X [] (tA X.K X.mg W aNil) := PA.of pa_nil fun _ _ _ => tA_nil
theorem pa_c {X : Cx} {e : Expr} {es : List Expr} {f : M EV} {fs : M (List EV)} (h : PE X e (tE X.K X.mg W f)) (hs : PA X es (tA X.K X.mg W fs)) (st : starEach (e :: es) X.env = (false, eval e X.env) :: starEach es X.env) :
    PA X (e :: es) (tA X.K X.mg W (aCons f fs)) := PA.of (pa_cons h hs st) fun _ _ _ => tA_cons
/-! ### what is seen -/
theorem peek1_rep {ρ : Env} {e : EV} {v : V} {d : D} {Sa : Fp} (er : EnvR K Z H ρ σ S) (r : EVR K Z H σ e v Sa) (p : peek1 ρ e = some d) : Rep K Z H d v (fun a => S a ∨ Sa a) := by
  cases e with
  | val d' =>
    simp only [peek1, Option.some.injEq] at p
    subst p
    exact Rep.move r (Same.refl Z) (fun _ _ _ x => x) fun a x => .inr x
  | ref i =>
    have q : ρ[i]? = some (some d) := by
      simp only [peek1, List.getD_eq_getElem?_getD] at p
      cases h : ρ[i]? with
      | none => rw [h] at p; cases p
      | some o => rw [h] at p; simpa using p
    obtain ⟨u, S1, S2, hu, s1, s2, dj, ru, _⟩ := er.take q
    have e : v = u := by
      have r' : σ[i]? = some (some v) := r
      rw [hu] at r'
      simpa using r'.symm
    subst e
    exact ru.move (Same.refl Z) (fun _ _ _ x => x) fun a x => .inl (s1 a x)
/-- data borne one by one, all within S -/
def RepB (K : PySem.W.Frag) (Z H : Hp) (S : Fp) : List D → List V → Prop
  | [], [] => True
  | d :: ds, v :: vs => Rep K Z H d v S ∧ RepB K Z H S ds vs
  | _, _ => False
theorem RepB.more {S' : Fp} (m : ∀ a, S a → S' a) : ∀ {ds : List D} {vs : List V}, RepB K Z H S ds vs → RepB K Z H S' ds vs
  | [], [], _ => trivial
  | [], _ :: _, h => h.elim
  | _ :: _, [], h => h.elim
  | _ :: _, _ :: _, h => ⟨h.1.move (Same.refl Z) (fun _ _ _ x => x) m, RepB.more m h.2⟩
theorem peeks_rep {ρ : Env} (er : EnvR K Z H ρ σ S) : ∀ {es : List EV} {vs : List V} {ds : List D} {Sa : Fp}, EVsR K Z H σ es vs Sa → peeks ρ es = some ds → RepB K Z H (fun a => S a ∨ Sa a) ds vs
  | [], [], ds, _, _, p => by
    simp only [peeks, Option.some.injEq] at p
    subst p
    trivial
  | [], _ :: _, _, _, h, _ => h.elim
  | _ :: _, [], _, _, h, _ => h.elim
  | e :: es, v :: vs, ds, Sa, h, p => by
    obtain ⟨S1, S2, s1, s2, dj, r, q⟩ := h
    simp only [peeks] at p
    split at p
    · rename_i d ds' h1 h2
      simp only [Option.some.injEq] at p
      subst p
      refine ⟨(peek1_rep er r h1).move (Same.refl Z) (fun _ _ _ x => x) fun a x => x.elim .inl fun y => .inr (s1 a y), ?_⟩
      exact (peeks_rep er q h2).more fun a x => x.elim .inl fun y => .inr (s2 a y)
    · cases p
/-- an operation upon values and the function of data that it is -/
def Snd (X : Cx) (r : List V → Hp → VK → Prop) (g : List D → Option D) : Prop :=
  ∀ (Z H : Hp) (S : Fp) (ds : List D) (vs : List V) (d : D) (Q : VK), Wd Z H S → RepB X.K Z H S ds vs → g ds = some d →
    (∀ v Z' H' Sd, Step Z H S Z' H' (fun a => S a ∨ Sd a) → Same H H' → (∀ a, S a → Sd a → False) → Rep X.K Z' H' d v Sd → Q v H') → r vs H Q
def app (g : List D → Option D) (fs : M (List EV)) : M EV := bnd fs fun es => fun ρ => match peeks ρ es with
  | some ds => match g ds with
    | some d => .ok (.val d) ρ
    | none => .stuck
  | none => .stuck
theorem tE_app {X : Cx} {r : List V → Hp → VK → Prop} {g : List D → Option D} {fs : M (List EV)} {Q : VK} (hs : Snd X r g) (h : tE X.K X.mg W (app g fs) σ H Q) : tA X.K X.mg W fs σ H fun vs H1 => r vs H1 Q := by
  obtain ⟨Z, ρ, S, w, er, o⟩ := h
  refine ⟨Z, ρ, S, w, er, ?_⟩
  simp only [app, bnd] at o
  cases e1 : fs ρ with
  | stuck => rw [e1] at o; exact o
  | exc x ρ1 => rw [e1] at o; exact o
  | ok es ρ1 =>
    simp only [e1] at o
    intro vs Z1 H1 S1 Sa st1 dj1 er1 r1
    cases e2 : peeks ρ1 es with
    | none => simp only [e2] at o; exact o.elim
    | some ds =>
      cases e3 : g ds with
      | none => simp only [e2, e3] at o; exact o.elim
      | some d =>
        simp only [e2, e3] at o
        refine hs Z1 H1 _ ds vs d Q st1.wd (peeks_rep er1 r1 e2) e3 fun v Z2 H2 Sd st2 sm dj2 rd => ?_
        exact o v Z2 H2 S1 Sd ((st1.trans st2).less fun a x => x.elim (fun y => .inl (.inl y)) .inr) (fun a x y => dj2 a (.inl x) y) (er1.move st2.zz (fun a ob _ e => sm a ob e) fun _ x => x) rd
/-! ### names, constants -/
def loc (i : Nat) : M EV := fun ρ => match ρ.getD i none with
  | some _ => .ok (.ref i) ρ
  | none => .stuck
def con (d : D) : M EV := ret (.val d)
theorem getD_some {ρ : Env} {i : Nat} {d : D} (h : ρ.getD i none = some d) : ρ[i]? = some (some d) := by
  rw [List.getD_eq_getElem?_getD] at h
  cases e : ρ[i]? with
  | none => rw [e] at h; cases h
  | some o => rw [e] at h; simpa using h
theorem tE_loc {i : Nat} {Q : VK} (h : tE K mg W (loc i) σ H Q) : tVar i σ H Q := by
  obtain ⟨Z, ρ, S, w, er, o⟩ := h
  simp only [loc] at o
  cases e : ρ.getD i none with
  | none => simp only [e] at o; exact o.elim
  | some d =>
    simp only [e] at o
    obtain ⟨v, S1, S2, hv, _⟩ := er.take (getD_some e)
    exact ⟨v, hv, o v Z H S Fp0 w.nil (fun _ _ x => x) er hv⟩
theorem pe_loc {X : Cx} {i : Nat} {x : Str} {pos : Pos} (hN : X.N[i]? = some x) (hv : Vis X.env.scope x) (hd : (x == ("__debug__" : Str)) = false) (hcd : (x == ("__classdict__" : Str)) = false) : PE X (.Name x pos) (tE X.K X.mg W (loc i)) :=
  PE.of (pe_var hN hv hd hcd) fun _ _ _ => tE_loc
theorem tE_con {d : D} {v : V} {Q : VK} (r : ∀ Z H : Hp, Rep K Z H d v Fp0) (h : tE K mg W (con d) σ H Q) : tC v σ H Q := by
  obtain ⟨Z, ρ, S, w, er, o⟩ := h
  exact o v Z H S Fp0 w.nil (fun _ _ x => x) er (r Z H)
/-! ### for keeps -/
theorem use1_ok {ρ ρ' : Env} {e : EV} {v : V} {d : D} {Sa T : Fp} (w : Wd Z H (fun a => (S a ∨ Sa a) ∨ T a)) (dj : ∀ a, S a → Sa a → False) (djT : ∀ a, S a ∨ Sa a → T a → False) (er : EnvR K Z H ρ σ S) (r : EVR K Z H σ e v Sa) (u : use1 e ρ = .ok d ρ') :
    ∃ Z' S', Step Z H (fun a => (S a ∨ Sa a) ∨ T a) Z' H (fun a => (S' a ∨ Sa a) ∨ T a) ∧ (∀ a, S' a → S a) ∧ EnvR K Z' H ρ' σ S' ∧ Rep K Z' H d v Sa := by
  cases e with
  | val d' =>
    simp only [use1, Res.ok.injEq] at u
    obtain ⟨rfl, rfl⟩ := u
    exact ⟨Z, S, Step.refl w, fun _ x => x, er, r⟩
  | ref i =>
    simp only [use1] at u
    cases e : ρ.getD i none with
    | none => rw [e] at u; cases u
    | some d0 =>
      rw [e] at u
      simp only [Res.ok.injEq] at u
      obtain ⟨rfl, rfl⟩ := u
      obtain ⟨v0, S1, S2, hv, s1, s2, dj2, r0, er0⟩ := er.take (getD_some e)
      have ev : v0 = v := by
        have r' : σ[i]? = some (some v) := r
        rw [hv] at r'
        simpa using r'
      subst ev
      have stp : Step Z H (fun a => (S a ∨ Sa a) ∨ T a) (thaw Z H S1) H (fun a => (S2 a ∨ Sa a) ∨ T a) := Step.freeze w (fun a x => .inl (.inl (s1 a x))) (fun a x => x.elim (fun y => .inl (y.elim (fun z => .inl (s2 a z)) .inr)) .inr) fun a x y => x.elim (fun z => z.elim (fun t => dj2 a y t) (fun t => dj a (s1 a y) t)) fun t => djT a (.inl (s1 a y)) t
      have rf : Rep K (thaw Z H S1) H d0.frz v0 Fp0 := Rep.frz r0 (fun a x => w.sep a (.inl (.inl (s1 a x)))) fun _ x => x
      refine ⟨thaw Z H S1, S2, stp, s2, ?_, rf.move (Same.refl _) (fun _ _ _ x => x) fun _ x => x.elim⟩
      have hi : i < ρ.length := (List.getElem?_eq_some_iff.mp (getD_some e)).1
      have q := EnvR.put (S := S2) (S1 := Fp0) (v := v0) (er0.move stp.zz (fun _ _ _ x => x) fun _ x => x) hi rf (fun _ x => x.elim) (fun _ x => x) (fun _ x _ => x)
      have es : σ.set i (some v0) = σ := by
        obtain ⟨hl, e1⟩ := List.getElem?_eq_some_iff.mp hv
        rw [← e1, List.set_getElem_self]
      rw [es] at q
      exact q
theorem EVsR.more : ∀ {es : List EV} {vs : List V} {B C : Fp}, EVsR K Z H σ es vs B → (∀ a, B a → C a) → EVsR K Z H σ es vs C
  | [], [], _, _, _, _ => trivial
  | [], _ :: _, _, _, h, _ => h.elim
  | _ :: _, [], _, _, h, _ => h.elim
  | _ :: _, _ :: _, _, _, ⟨B1, B2, b1, b2, bj, r, q⟩, m => ⟨B1, B2, fun a x => m a (b1 a x), fun a x => m a (b2 a x), bj, r, q⟩
theorem useL_ok : ∀ {es : List EV} {vs : List V} {ds : List D} {ρ ρ' : Env} {Z : Hp} {S Sa T : Fp}, Wd Z H (fun a => (S a ∨ Sa a) ∨ T a) → (∀ a, S a → Sa a → False) → (∀ a, S a ∨ Sa a → T a → False) → EnvR K Z H ρ σ S → EVsR K Z H σ es vs Sa → useL es ρ = .ok ds ρ' →
    ∃ Z' S', Step Z H (fun a => (S a ∨ Sa a) ∨ T a) Z' H (fun a => (S' a ∨ Sa a) ∨ T a) ∧ (∀ a, S' a → S a) ∧ EnvR K Z' H ρ' σ S' ∧ RepL K Z' H ds vs Sa
  | [], [], ds, ρ, ρ', Z, S, Sa, T, w, _, _, er, _, u => by
    simp only [useL, ret, Res.ok.injEq] at u
    obtain ⟨rfl, rfl⟩ := u
    exact ⟨Z, S, Step.refl w, fun _ x => x, er, trivial⟩
  | [], _ :: _, _, _, _, _, _, _, _, _, _, _, _, h, _ => h.elim
  | _ :: _, [], _, _, _, _, _, _, _, _, _, _, _, h, _ => h.elim
  | e :: es, v :: vs, ds, ρ, ρ', Z, S, Sa, T, w, dj, djT, er, h, u => by
    obtain ⟨A1, A0, a1, a0, aj0, r, q0⟩ := h
    obtain ⟨A2, hA2⟩ : ∃ A2 : Fp, A2 = fun a => Sa a ∧ ¬ A1 a := ⟨_, rfl⟩
    have q : EVsR K Z H σ es vs A2 := q0.more fun a x => by rw [hA2]; exact ⟨a0 a x, fun y => aj0 a y x⟩
    have a2 : ∀ a, A2 a → Sa a := fun a x => by rw [hA2] at x; exact x.1
    have aj : ∀ a, A1 a → A2 a → False := fun a x y => by rw [hA2] at y; exact y.2 x
    have a12 : ∀ a, Sa a → A1 a ∨ A2 a := fun a x => by
      by_cases h : A1 a
      · exact .inl h
      · exact .inr (by rw [hA2]; exact ⟨x, h⟩)
    simp only [useL, bnd] at u
    cases u1 : use1 e ρ with
    | stuck => rw [u1] at u; cases u
    | exc x ρ1 => rw [u1] at u; cases u
    | ok d ρ1 =>
      simp only [u1] at u
      cases u2 : useL es ρ1 with
      | stuck => rw [u2] at u; cases u
      | exc x ρ2 => rw [u2] at u; cases u
      | ok ds' ρ2 =>
        simp only [u2, ret, Res.ok.injEq] at u
        obtain ⟨rfl, rfl⟩ := u
        have w1 : Wd Z H (fun a => (S a ∨ A1 a) ∨ (A2 a ∨ T a)) := w.less fun a x => x.elim (fun y => .inl (y.elim .inl fun z => .inr (a1 a z))) fun y => y.elim (fun z => .inl (.inr (a2 a z))) .inr
        obtain ⟨Z1, S1, st1, m1, er1, r1⟩ := use1_ok w1 (fun a x y => dj a x (a1 a y)) (fun a x y => y.elim (fun z => x.elim (fun t => dj a t (a2 a z)) fun t => aj a t z) fun z => djT a (x.elim .inl fun t => .inr (a1 a t)) z) er r u1
        have w2 : Wd Z1 H (fun a => (S1 a ∨ A2 a) ∨ (A1 a ∨ T a)) := st1.wd.less fun a x => x.elim (fun y => y.elim (fun z => .inl (.inl z)) fun z => .inr (.inl z)) fun y => y.elim (fun z => .inl (.inr z)) fun z => .inr (.inr z)
        have q1 : EVsR K Z1 H σ es vs A2 := by
          have stay : ∀ {es : List EV} {vs : List V} {B : Fp}, EVsR K Z H σ es vs B → EVsR K Z1 H σ es vs B := by
            intro es
            induction es with
            | nil => intro vs B h; cases vs with
              | nil => trivial
              | cons => exact h.elim
            | cons e es ih => intro vs B h; cases vs with
              | nil => exact h.elim
              | cons v vs =>
                obtain ⟨B1, B2, b1, b2, bj, r, q⟩ := h
                refine ⟨B1, B2, b1, b2, bj, ?_, ih q⟩
                cases e with
                | val d => exact Rep.move r st1.zz (fun _ _ _ x => x) fun _ x => x
                | ref i => exact r
          exact stay q
        obtain ⟨Z2, S2, st2, m2, er2, r2⟩ := useL_ok w2 (fun a x y => dj a (m1 a x) (a2 a y)) (fun a x y => y.elim (fun z => x.elim (fun t => dj a (m1 a t) (a1 a z)) fun t => aj a z t) fun z => djT a (x.elim (fun t => .inl (m1 a t)) fun t => .inr (a2 a t)) z) er1 q1 u2
        refine ⟨Z2, S2, ?_, fun a x => m1 a (m2 a x), er2, A1, A2, a1, a2, aj, r1.move st2.zz (fun _ _ _ x => x) fun _ x => x, r2⟩
        have st1' : Step Z H (fun a => (S a ∨ Sa a) ∨ T a) Z1 H (fun a => (S1 a ∨ A2 a) ∨ (A1 a ∨ T a)) := by
          refine ⟨w2, st1.zz, fun a o n e => st1.fr a o (fun x => n ?_) e, fun a x => (st1.new a ?_).elim (fun y => .inl ?_) .inr, fun a o e => (st1.znew a o e).elim .inl fun y => .inr (y.elim (fun z => .inl ?_) .inr)⟩
          · exact x.elim (fun y => .inl (y.elim .inl fun z => .inr (a1 a z))) fun y => y.elim (fun z => .inl (.inr (a2 a z))) .inr
          · exact x.elim (fun y => y.elim (fun z => .inl (.inl z)) fun z => .inr (.inl z)) fun y => y.elim (fun z => .inl (.inr z)) fun z => .inr (.inr z)
          · exact y.elim (fun y => .inl (y.elim .inl fun z => .inr (a1 a z))) fun y => y.elim (fun z => .inl (.inr (a2 a z))) .inr
          · exact z.elim (fun y => .inl (y.elim .inl fun z => .inr (a1 a z))) fun y => y.elim (fun z => .inl (.inr (a2 a z))) .inr
        exact (st1'.trans st2).less fun a x => x.elim (fun y => y.elim (fun z => .inl (.inl z)) fun z => (a12 a z).elim (fun t => .inr (.inl t)) fun t => .inl (.inr t)) fun z => .inr (.inr z)
end
end Pm
/-! PmC: displays, tests, statements. -/
namespace Pm
open PySem PySem.Spec PyProof.Rows L2
section
variable {K : PySem.W.Frag} {mg : Str → Option Value} {W : WX} {Z H : Hp} {S : Fp} {σ : Sl} {X : Cx} {A : Nat → Bool}
/-- lists and tuples have at most so many items -/
abbrev cap : Nat := 1000000
theorem cap_le {n : Nat} (h : n ≤ cap) : n ≤ sizeLine := Nat.le_trans h (by rw [sizeLine_eq]; decide)
theorem cap_lt {n : Nat} (h : n ≤ cap) : n < sizeLine := Nat.lt_of_le_of_lt h (by rw [sizeLine_eq]; decide)
def cellOf (vs : List V) : Kd → HO
  | .tup => .tup vs
  | _ => .lst vs
/-- a display -/
def disp (o : Bool) (k : Kd) (fs : M (List EV)) : M EV := bnd fs fun es => bnd (useL es) fun ds => fun ρ => if ds.length ≤ cap then .ok (.val (.node o k ds)) ρ else .stuck
theorem disp_of {o : Bool} {k : Kd} {fs : M (List EV)} {Q : VK} (h : tE K mg W (disp o k fs) σ H Q)
    (f : ∀ (vs : List V) (Z1 H1 : Hp) (S1 Sd : Fp) (ds : List D), Wd Z1 H1 (fun a => S1 a ∨ Sd a) → (∀ a, S1 a → Sd a → False) → RepL K Z1 H1 ds vs Sd → ds.length ≤ cap → ∀ p, H1 p = none →
      ∃ Z2 H2 Sp, Step Z1 H1 (fun a => S1 a ∨ Sd a) Z2 H2 (fun a => S1 a ∨ Sp a) ∧ (∀ a, S1 a → Sp a → False) ∧ (∀ a o, H1 a = some o → H2 a = some o) ∧ Rep K Z2 H2 (.node o k ds) (.ref p) Sp ∧ H2 = upd H1 p (cellOf vs k)) :
    tA K mg W fs σ H fun vs H1 => vs.length ≤ sizeLine ∧ ∀ p, H1 p = none → Q (.ref p) (upd H1 p (cellOf vs k)) := by
  obtain ⟨Z, ρ, S, w, er, o⟩ := h
  refine ⟨Z, ρ, S, w, er, ?_⟩
  simp only [disp, bnd] at o
  cases e1 : fs ρ with
  | stuck => rw [e1] at o; exact o
  | exc x ρ1 => rw [e1] at o; exact o
  | ok es ρ1 =>
    simp only [e1] at o
    intro vs Z1 H1 S1 Sa st1 dj1 er1 r1
    cases e2 : useL es ρ1 with
    | stuck => rw [e2] at o; exact o.elim
    | exc x ρ2 =>
      exfalso
      have no : ∀ (es : List EV) (ρ ρ2 : Env) (x : XD), useL es ρ ≠ .exc x ρ2 := by
        intro es
        induction es with
        | nil => intro ρ ρ2 x q; cases q
        | cons e es ih =>
          intro ρ ρ2 x q
          simp only [useL, bnd] at q
          cases u1 : use1 e ρ with
          | stuck => rw [u1] at q; cases q
          | exc y ρ3 =>
            cases e with
            | val d => simp only [use1] at u1; cases u1
            | ref i =>
              simp only [use1] at u1
              split at u1 <;> cases u1
          | ok d ρ3 =>
            simp only [u1] at q
            cases u2 : useL es ρ3 with
            | stuck => rw [u2] at q; cases q
            | exc y ρ4 => exact ih _ _ _ u2
            | ok ds ρ4 => simp only [u2, ret] at q; cases q
      exact no _ _ _ _ e2
    | ok ds ρ2 =>
      simp only [e2] at o
      by_cases hl : ds.length ≤ cap
      · rw [if_pos hl] at o
        have w1 : Wd Z1 H1 (fun a => (S1 a ∨ Sa a) ∨ Fp0 a) := st1.wd.less fun a x => x.elim id False.elim
        obtain ⟨Z2, S2, st2, m2, er2, r2⟩ := useL_ok w1 dj1 (fun _ _ x => x) er1 r1 e2
        have len := r2.length
        refine ⟨by rw [← len]; exact cap_le hl, fun p hp => ?_⟩
        have w2 : Wd Z2 H1 (fun a => S2 a ∨ Sa a) := st2.wd.less fun a x => .inl x
        obtain ⟨Z3, H3, Sp, st3, dj3, k3, r3, e3⟩ := f vs Z2 H1 S2 Sa ds w2 (fun a x y => dj1 a (m2 a x) y) r2 hl p hp
        rw [← e3]
        refine o (.ref p) Z3 H3 S2 Sp ?_ dj3 (er2.move st3.zz (fun a ob _ e => k3 a ob e) fun _ x => x) r3
        have st2' : Step Z1 H1 (fun a => S1 a ∨ Sa a) Z2 H1 (fun a => S2 a ∨ Sa a) := ⟨w2, st2.zz, fun a o n e => e, fun a x => .inl (x.elim (fun y => .inl (m2 a y)) .inr), fun a o e => (st2.znew a o e).elim .inl fun y => .inr (y.elim (fun z => z.elim .inl False.elim) .inr)⟩
        exact (st1.trans st2').trans st3
      · rw [if_neg hl] at o
        exact o.elim
theorem pe_T {es : List Expr} {fs : M (List EV)} {x1 : Nat} {pos : Pos} (h : PA X es (tA X.K X.mg W fs)) : PE X (.Tuple es x1 pos) (tE X.K X.mg W (disp false .tup fs)) :=
  PE.of (pe_tup h) fun σ H Q q => disp_of q fun vs Z1 H1 S1 Sd ds w dj r hl p hp =>
    ⟨upd Z1 p (.tup vs), upd H1 p (.tup vs), Sd, Step.allocZ w hp, dj, fun a o e => by rw [upd_ne (ne_of_none e hp)]; exact e,
      ⟨p, vs, rfl, SqT.of upd_same, r.move (Step.allocZ (o := .tup vs) w hp).zz (fun a o _ e => by rw [upd_ne (ne_of_none e hp)]; exact e) fun _ x => x⟩, rfl⟩
theorem pe_L {es : List Expr} {fs : M (List EV)} {pos : Pos} (h : PA X es (tA X.K X.mg W fs)) : PE X (.List es pos) (tE X.K X.mg W (disp true .lst fs)) :=
  PE.of (pe_lst h) fun σ H Q q => disp_of q fun vs Z1 H1 S1 Sd ds w dj r hl p hp =>
    ⟨Z1, upd H1 p (.lst vs), fun a => Sd a ∨ a = p, (Step.alloc w hp).less fun a x => x.elim (fun y => .inl (.inl y)) fun y => y.elim (fun z => .inl (.inr z)) .inr,
      fun a x y => y.elim (dj a x) fun z => w.dom a (.inl x) (by rw [z]; exact hp), fun a o e => by rw [upd_ne (ne_of_none e hp)]; exact e,
      ⟨p, vs, Sd, rfl, upd_same, .inr rfl, fun x => w.dom p (.inr x) hp, fun a x => .inl x, r.move (Same.refl Z1) (fun a o _ e => by rw [upd_ne (ne_of_none e hp)]; exact e) fun _ x => x⟩, rfl⟩
/-! ### tests -/
def tst (f : M EV) : M Bool := bnd f fun e => fun ρ => match peek1 ρ e with
  | some (.bl b) => .ok b ρ
  | _ => .stuck
theorem tT_tst {f : M EV} {Q : Bool → Hp → Prop} (h : tT K mg W (tst f) σ H Q) : tE K mg W f σ H fun x H1 => ∃ c, x = .bl c ∧ Q c H1 := by
  obtain ⟨Z, ρ, S, w, er, o⟩ := h
  refine ⟨Z, ρ, S, w, er, ?_⟩
  simp only [tst, bnd] at o
  cases e1 : f ρ with
  | stuck => rw [e1] at o; exact o
  | exc x ρ1 => rw [e1] at o; exact o
  | ok ev ρ1 =>
    simp only [e1] at o
    intro v Z1 H1 S1 Sa st1 dj1 er1 r1
    split at o
    · rename_i b hb
      have r := peek1_rep er1 r1 hb
      exact ⟨b, r, o Z1 H1 S1 (st1.less fun a x => .inl x) er1⟩
    · exact o.elim
theorem pt_v {e : Expr} {f : M EV} (h : PE X e (tE X.K X.mg W f)) (he : ∀ whole, isTrue e X.env whole = (do let v ← whole; standAt e.pos; holding [v] (truthy v))) : PT X e (tT X.K X.mg W (tst f)) :=
  PT.of (pt_val h he) fun _ _ _ q => tT_tst q
def andT (a b : M Bool) : M Bool := bnd a fun c => if c = true then b else ret false
def orT (a b : M Bool) : M Bool := bnd a fun c => if c = true then ret true else b
def notT (a : M Bool) : M Bool := bnd a fun c => ret (!c)
theorem tT_bnd {α : Type} {a : M Bool} {k : Bool → M α} {R : Env → Prop} {Q : Bool → Hp → Prop} {ρ : Env} (w : Wd Z H S) (er : EnvR K Z H ρ σ S)
    (hx : ∀ x ρ1, a ρ = .exc x ρ1 → XOut K mg W Z H S σ x ρ1) (hs : a ρ ≠ .stuck)
    (hk : ∀ c ρ1 Z1 H1 S1, a ρ = .ok c ρ1 → Step Z H S Z1 H1 S1 → EnvR K Z1 H1 ρ1 σ S1 → Q c H1) : tT K mg W a σ H Q := by
  refine ⟨Z, ρ, S, w, er, ?_⟩
  cases e : a ρ with
  | stuck => exact absurd e hs
  | exc x ρ1 => exact hx x ρ1 e
  | ok c ρ1 => exact fun Z1 H1 S1 st er1 => hk c ρ1 Z1 H1 S1 e st er1
theorem XOut.after {Z1 H1 : Hp} {S1 : Fp} {x : XD} {ρ' : Env} (st : Step Z H S Z1 H1 S1) (h : XOut K mg W Z H S σ x ρ') : XOut K mg W Z1 H1 S1 σ x ρ' := fun cls dd Z' H' S' st' er xr => h cls dd Z' H' S' (st.trans st') er xr
theorem OutT.after {Z1 H1 : Hp} {S1 : Fp} {r : Res Bool} {Q : Bool → Hp → Prop} (st : Step Z H S Z1 H1 S1) (h : OutT K mg W Z H S σ Q r) : OutT K mg W Z1 H1 S1 σ Q r := by
  cases r with
  | stuck => exact h
  | exc x ρ => exact XOut.after st h
  | ok b ρ => exact fun Z' H' S' st' er => h Z' H' S' (st.trans st') er
theorem OutE.after {Z1 H1 : Hp} {S1 : Fp} {r : Res EV} {Q : VK} (st : Step Z H S Z1 H1 S1) (h : OutE K mg W Z H S σ Q r) : OutE K mg W Z1 H1 S1 σ Q r := by
  cases r with
  | stuck => exact h
  | exc x ρ => exact XOut.after st h
  | ok b ρ => exact fun v Z' H' S' Sd st' dj er r => h v Z' H' S' Sd (st.trans st') dj er r
theorem OutS.next {Z1 H1 : Hp} {S1 : Fp} {r : Res Fl} {D : Ends} {σ1 : Sl} (kp : Keep A σ σ1) (st : Step Z H S Z1 H1 S1) (h : OutS K mg W A σ Z H S D r) : OutS K mg W A σ1 Z1 H1 S1 D r := by
  cases r with
  | stuck => exact h
  | exc x ρ => exact fun σ' k => XOut.after st (h σ' (kp.trans k))
  | ok b ρ => exact fun σ' v Z' H' S' Sd k st' dj er r => h σ' v Z' H' S' Sd (kp.trans k) (st.trans st') dj er r
theorem OutS.after {Z1 H1 : Hp} {S1 : Fp} {r : Res Fl} {D : Ends} (st : Step Z H S Z1 H1 S1) (h : OutS K mg W A σ Z H S D r) : OutS K mg W A σ Z1 H1 S1 D r := h.next (Keep.refl σ) st
theorem tT_and {a b : M Bool} {Q : Bool → Hp → Prop} (h : tT K mg W (andT a b) σ H Q) : tAnd (tT K mg W a) (tT K mg W b) σ H Q := by
  obtain ⟨Z, ρ, S, w, er, o⟩ := h
  simp only [andT, bnd] at o
  refine tT_bnd (k := fun _ => a) (R := fun _ => True) w er (fun x ρ1 e => by rw [e] at o; exact o) (fun e => by rw [e] at o; exact o) fun c ρ1 Z1 H1 S1 e st er1 => ?_
  simp only [e] at o
  cases c with
  | true => exact ⟨Z1, ρ1, S1, st.wd, er1, by simpa using OutT.after st o⟩
  | false => exact OutT.after (r := .ok false ρ1) st (by simpa [ret] using o) Z1 H1 S1 (Step.refl st.wd) er1
theorem tT_or {a b : M Bool} {Q : Bool → Hp → Prop} (h : tT K mg W (orT a b) σ H Q) : tOr (tT K mg W a) (tT K mg W b) σ H Q := by
  obtain ⟨Z, ρ, S, w, er, o⟩ := h
  simp only [orT, bnd] at o
  refine tT_bnd (k := fun _ => a) (R := fun _ => True) w er (fun x ρ1 e => by rw [e] at o; exact o) (fun e => by rw [e] at o; exact o) fun c ρ1 Z1 H1 S1 e st er1 => ?_
  simp only [e] at o
  cases c with
  | false => exact ⟨Z1, ρ1, S1, st.wd, er1, by simpa using OutT.after st o⟩
  | true => exact OutT.after (r := .ok true ρ1) st (by simpa [ret] using o) Z1 H1 S1 (Step.refl st.wd) er1
theorem tT_not {a : M Bool} {Q : Bool → Hp → Prop} (h : tT K mg W (notT a) σ H Q) : tNot (tT K mg W a) σ H Q := by
  obtain ⟨Z, ρ, S, w, er, o⟩ := h
  simp only [notT, bnd] at o
  refine tT_bnd (k := fun _ => a) (R := fun _ => True) w er (fun x ρ1 e => by rw [e] at o; exact o) (fun e => by rw [e] at o; exact o) fun c ρ1 Z1 H1 S1 e st er1 => ?_
  simp only [e, ret] at o
  exact o Z1 H1 S1 st er1
/-- a test as a value -/
def bV (a : M Bool) : M EV := bnd a fun c => ret (.val (.bl c))
/-- and, or with bools ahead: values -/
def andE (a b : M EV) : M EV := bnd (tst a) fun c => if c = true then b else ret (.val (.bl false))
def orE (a b : M EV) : M EV := bnd (tst a) fun c => if c = true then ret (.val (.bl true)) else b
def notE (a : M EV) : M EV := bnd (tst a) fun c => ret (.val (.bl (!c)))
def ifE (c : M Bool) (a b : M EV) : M EV := bnd c fun t => if t = true then a else b
theorem tst_bnd {f : M EV} {R : V → Hp → Prop} {ρ : Env} (w : Wd Z H S) (er : EnvR K Z H ρ σ S)
    (hx : ∀ x ρ1, tst f ρ = .exc x ρ1 → XOut K mg W Z H S σ x ρ1) (hs : tst f ρ ≠ .stuck)
    (hk : ∀ c ρ1 Z1 H1 S1, tst f ρ = .ok c ρ1 → Step Z H S Z1 H1 S1 → EnvR K Z1 H1 ρ1 σ S1 → R (.bl c) H1) : tE K mg W f σ H R := by
  refine ⟨Z, ρ, S, w, er, ?_⟩
  simp only [tst, bnd] at hx hs hk
  cases e : f ρ with
  | stuck => simp only [e] at hs; exact absurd rfl hs
  | exc x ρ1 => simp only [e] at hx; exact hx x ρ1 rfl
  | ok ev ρ1 =>
    intro v Z1 H1 S1 Sa st dj er1 r1
    simp only [e] at hs hk
    split at hs
    · rename_i b hb
      simp only [hb] at hk
      have r : v = .bl b := peek1_rep er1 r1 hb
      subst r
      exact hk b ρ1 Z1 H1 S1 rfl (st.less fun a x => .inl x) er1
    · exact absurd rfl hs
theorem tE_and {a b : M EV} {Q : VK} (h : tE K mg W (andE a b) σ H Q) : tAndV (tE K mg W a) (tE K mg W b) σ H Q := by
  obtain ⟨Z, ρ, S, w, er, o⟩ := h
  simp only [andE, bnd] at o
  refine tst_bnd w er (fun x ρ1 e => by rw [e] at o; exact o) (fun e => by rw [e] at o; exact o) fun c ρ1 Z1 H1 S1 e st er1 => ?_
  simp only [e] at o
  refine ⟨c, rfl, ?_⟩
  cases c with
  | true => exact ⟨Z1, ρ1, S1, st.wd, er1, by simpa using OutE.after st o⟩
  | false => exact OutE.after (r := .ok (.val (.bl false)) ρ1) st (by simpa [ret] using o) (.bl false) Z1 H1 S1 Fp0 st.wd.nil (fun _ _ x => x) er1 rfl
theorem tE_or {a b : M EV} {Q : VK} (h : tE K mg W (orE a b) σ H Q) : tOrV (tE K mg W a) (tE K mg W b) σ H Q := by
  obtain ⟨Z, ρ, S, w, er, o⟩ := h
  simp only [orE, bnd] at o
  refine tst_bnd w er (fun x ρ1 e => by rw [e] at o; exact o) (fun e => by rw [e] at o; exact o) fun c ρ1 Z1 H1 S1 e st er1 => ?_
  simp only [e] at o
  refine ⟨c, rfl, ?_⟩
  cases c with
  | false => exact ⟨Z1, ρ1, S1, st.wd, er1, by simpa using OutE.after st o⟩
  | true => exact OutE.after (r := .ok (.val (.bl true)) ρ1) st (by simpa [ret] using o) (.bl true) Z1 H1 S1 Fp0 st.wd.nil (fun _ _ x => x) er1 rfl
theorem tE_not {a : M EV} {Q : VK} (h : tE K mg W (notE a) σ H Q) : tNotV (tE K mg W a) σ H Q := by
  obtain ⟨Z, ρ, S, w, er, o⟩ := h
  simp only [notE, bnd] at o
  refine tst_bnd w er (fun x ρ1 e => by rw [e] at o; exact o) (fun e => by rw [e] at o; exact o) fun c ρ1 Z1 H1 S1 e st er1 => ?_
  simp only [e, ret] at o
  exact ⟨c, rfl, o (.bl (!c)) Z1 H1 S1 Fp0 (st.trans st.wd.nil) (fun _ _ x => x) er1 rfl⟩
theorem tE_if {c : M Bool} {a b : M EV} {Q : VK} (h : tE K mg W (ifE c a b) σ H Q) : tIf (tT K mg W c) (tE K mg W a) (tE K mg W b) σ H Q := by
  obtain ⟨Z, ρ, S, w, er, o⟩ := h
  simp only [ifE, bnd] at o
  refine tT_bnd (k := fun _ => c) (R := fun _ => True) w er (fun x ρ1 e => by rw [e] at o; exact o) (fun e => by rw [e] at o; exact o) fun t ρ1 Z1 H1 S1 e st er1 => ?_
  simp only [e] at o
  cases t with
  | true => exact ⟨Z1, ρ1, S1, st.wd, er1, by simpa using OutE.after st o⟩
  | false => exact ⟨Z1, ρ1, S1, st.wd, er1, by simpa using OutE.after st o⟩
/-! ### statements -/
def sNx : M Fl := ret .nx
def seq (a b : M Fl) : M Fl := bnd a fun f => match f with
  | .nx => b
  | f => ret f
def ite (c : M Bool) (a b : M Fl) : M Fl := bnd c fun t => if t = true then a else b
def rtn (f : M EV) : M Fl := bnd f fun e => bnd (use1 e) fun d => ret (.rt d)
def drp (f : M EV) : M Fl := bnd f fun _ => ret .nx
theorem tS_nx {D : Ends} (h : tS K mg W A sNx D σ H) : tNext D σ H := by
  obtain ⟨Z, ρ, S, w, er, o⟩ := h
  exact o σ .non Z H S Fp0 (Keep.refl σ) w.nil (fun _ _ x => x) er trivial
theorem tS_seq {a b : M Fl} {D : Ends} (h : tS K mg W A (seq a b) D σ H) : tSeq (tS K mg W A a) (tS K mg W A b) D σ H := by
  obtain ⟨Z, ρ, S, w, er, o⟩ := h
  refine ⟨Z, ρ, S, w, er, ?_⟩
  simp only [seq, bnd] at o
  cases e1 : a ρ with
  | stuck => rw [e1] at o; exact o
  | exc x ρ1 => rw [e1] at o; exact o
  | ok f ρ1 =>
    simp only [e1] at o
    intro σ' v Z1 H1 S1 Sd kp st dj er1 r1
    cases f with
    | nx => exact ⟨Z1, ρ1, S1, st.wd.less fun a x => .inl x, er1, OutS.next kp (st.less fun a x => .inl x) o⟩
    | bk => exact o σ' v Z1 H1 S1 Sd kp st dj er1 r1
    | ct => exact o σ' v Z1 H1 S1 Sd kp st dj er1 r1
    | rt d => exact o σ' v Z1 H1 S1 Sd kp st dj er1 r1
theorem tS_if {c : M Bool} {a b : M Fl} {D : Ends} (h : tS K mg W A (ite c a b) D σ H) : tIfS (tT K mg W c) (tS K mg W A a) (tS K mg W A b) D σ H := by
  obtain ⟨Z, ρ, S, w, er, o⟩ := h
  simp only [ite, bnd] at o
  refine tT_bnd (k := fun _ => c) (R := fun _ => True) w er (fun x ρ1 e => by rw [e] at o; exact o σ (Keep.refl σ)) (fun e => by rw [e] at o; exact o) fun t ρ1 Z1 H1 S1 e st er1 => ?_
  simp only [e] at o
  cases t with
  | true => exact ⟨Z1, ρ1, S1, st.wd, er1, by simpa using OutS.after st o⟩
  | false => exact ⟨Z1, ρ1, S1, st.wd, er1, by simpa using OutS.after st o⟩
theorem use1_noexc {e : EV} {ρ ρ' : Env} {x : XD} : use1 e ρ ≠ .exc x ρ' := by
  cases e with
  | val d => exact fun q => nomatch q
  | ref i =>
    intro q
    simp only [use1] at q
    split at q <;> cases q
/-- an expression's data for keeps, then what follows -/
theorem keep_of {f : M EV} {k : D → M Fl} {D' : Ends} {R : V → Hp → Prop} {ρ : Env} (w : Wd Z H S) (er : EnvR K Z H ρ σ S) (o : OutS K mg W A σ Z H S D' (bnd f (fun e => bnd (use1 e) k) ρ))
    (hk : ∀ v d ρ1 Z1 H1 S1 Sd, Step Z H S Z1 H1 (fun a => S1 a ∨ Sd a) → (∀ a, S1 a → Sd a → False) → EnvR K Z1 H1 ρ1 σ S1 → Rep K Z1 H1 d v Sd → OutS K mg W A σ Z H S D' (k d ρ1) → R v H1) : tE K mg W f σ H R := by
  refine ⟨Z, ρ, S, w, er, ?_⟩
  simp only [bnd] at o
  cases e1 : f ρ with
  | stuck => rw [e1] at o; exact o
  | exc x ρ1 => rw [e1] at o; exact o σ (Keep.refl σ)
  | ok ev ρ1 =>
    simp only [e1] at o
    intro v Z1 H1 S1 Sa st dj er1 r1
    cases e2 : use1 ev ρ1 with
    | stuck => rw [e2] at o; exact o.elim
    | exc x ρ2 => exact absurd e2 use1_noexc
    | ok d ρ2 =>
      simp only [e2] at o
      have w1 : Wd Z1 H1 (fun a => (S1 a ∨ Sa a) ∨ Fp0 a) := st.wd.less fun a x => x.elim id False.elim
      obtain ⟨Z2, S2, st2, m2, er2, r2⟩ := use1_ok w1 dj (fun _ _ x => x) er1 r1 e2
      have st2' : Step Z1 H1 (fun a => S1 a ∨ Sa a) Z2 H1 (fun a => S2 a ∨ Sa a) := ⟨st2.wd.less fun a x => .inl x, st2.zz, fun a o n e => e, fun a x => .inl (x.elim (fun y => .inl (m2 a y)) .inr), fun a o e => (st2.znew a o e).elim .inl fun y => .inr (y.elim (fun z => z.elim .inl False.elim) .inr)⟩
      exact hk v d ρ2 Z2 H1 S2 Sa (st.trans st2') (fun a x y => dj a (m2 a x) y) er2 r2 o
theorem tS_rtn {f : M EV} {D : Ends} (h : tS K mg W A (rtn f) D σ H) : tRet (tE K mg W f) D σ H := by
  obtain ⟨Z, ρ, S, w, er, o⟩ := h
  exact keep_of w er o fun v d ρ1 Z1 H1 S1 Sd st dj er1 r1 o1 => o1 σ v Z1 H1 S1 Sd (Keep.refl σ) st dj er1 r1
theorem tS_drp {f : M EV} {D : Ends} (h : tS K mg W A (drp f) D σ H) : tDrop (tE K mg W f) D σ H := by
  obtain ⟨Z, ρ, S, w, er, o⟩ := h
  refine ⟨Z, ρ, S, w, er, ?_⟩
  simp only [drp, bnd] at o
  cases e1 : f ρ with
  | stuck => rw [e1] at o; exact o
  | exc x ρ1 => rw [e1] at o; exact o σ (Keep.refl σ)
  | ok ev ρ1 =>
    simp only [e1, ret] at o
    exact fun v Z1 H1 S1 Sa st dj er1 r1 => o σ .non Z1 H1 S1 Fp0 (Keep.refl σ) (st.less fun a x => x.elim .inl False.elim) (fun _ _ x => x) er1 trivial
/-- a local name is returned: it is the def's own -/
def mov (i : Nat) : M EV := fun ρ => match ρ.getD i none with
  | some d => .ok (.val d) (ρ.set i none)
  | none => .stuck
theorem tE_mov {i : Nat} {Q : VK} (h : tE K mg W (mov i) σ H Q) : tVar i σ H Q := by
  obtain ⟨Z, ρ, S, w, er, o⟩ := h
  simp only [mov] at o
  cases e : ρ.getD i none with
  | none => simp only [e] at o; exact o.elim
  | some d =>
    simp only [e] at o
    obtain ⟨v, S1, S2, hv, s1, s2, dj, r, er2⟩ := er.take (getD_some e)
    exact ⟨v, hv, o v Z H S2 S1 ((Step.refl w).less fun a x => x.elim (s2 a) (s1 a)) (fun a x y => dj a y x) er2 r⟩
/-! ### targets -/
abbrev Tg := D → M Unit
def tG (K : PySem.W.Frag) (A : Nat → Bool) (g : Tg) : TG := fun v σ H Q => ∃ Z ρ S Sd d, Wd Z H (fun a => S a ∨ Sd a) ∧ (∀ a, S a → Sd a → False) ∧ EnvR K Z H ρ σ S ∧ Rep K Z H d v Sd ∧
  match g d ρ with
  | .ok _ ρ' => ∀ σ' Z' H' S', Keep A σ σ' → Step Z H (fun a => S a ∨ Sd a) Z' H' S' → EnvR K Z' H' ρ' σ' S' → Q σ' H'
  | _ => False
def tGs (K : PySem.W.Frag) (A : Nat → Bool) (g : List D → M Unit) : TGs := fun vs σ H Q => ∃ Z ρ S Sd ds, Wd Z H (fun a => S a ∨ Sd a) ∧ (∀ a, S a → Sd a → False) ∧ EnvR K Z H ρ σ S ∧ RepL K Z H ds vs Sd ∧
  match g ds ρ with
  | .ok _ ρ' => ∀ σ' Z' H' S', Keep A σ σ' → Step Z H (fun a => S a ∨ Sd a) Z' H' S' → EnvR K Z' H' ρ' σ' S' → Q σ' H'
  | _ => False
theorem PG.of {tg : Expr} {t t' : TG} (h : PG X tg t) (i : ∀ v σ H Q, t' v σ H Q → t v σ H Q) : PG X tg t' := ⟨fun p s σ H v u Q I r q => h.run p s σ H v u Q I r (i v σ H Q q)⟩
theorem PGs.of {tg : List Expr} {t t' : TGs} (h : PGs X tg t) (i : ∀ v σ H Q, t' v σ H Q → t v σ H Q) : PGs X tg t' := ⟨fun p s σ H v u Q I r q => h.run p s σ H v u Q I r (i v σ H Q q)⟩
def gN (i : Nat) : Tg := fun d ρ => if i < ρ.length then .ok () (ρ.set i (some d)) else .stuck
theorem tG_N {i : Nat} {v : V} {Q : Sl → Hp → Prop} (hA : A i = true) (h : tG K A (gN i) v σ H Q) : gName i v σ H Q := by
  obtain ⟨Z, ρ, S, Sd, d, w, dj, er, r, o⟩ := h
  simp only [gN] at o
  by_cases hi : i < ρ.length
  · rw [if_pos hi] at o
    exact o _ Z H (fun a => S a ∨ Sd a) ⟨fun j hj => List.getElem?_set_ne (fun e => by rw [← e, hA] at hj; cases hj), List.length_set⟩ (Step.refl w) (EnvR.put (er.drop i) hi r (fun a x => .inr x) (fun a x => .inl x) fun a x y => dj a y x)
  · rw [if_neg hi] at o
    exact o.elim
def gs0 : List D → M Unit := fun ds ρ => match ds with
  | [] => .ok () ρ
  | _ => .stuck
def gsC (g : Tg) (gs : List D → M Unit) : List D → M Unit := fun ds => match ds with
  | d :: ds => bnd (g d) fun _ => gs ds
  | [] => fun _ => .stuck
def gT (gs : List D → M Unit) (n : Nat) : Tg := fun d => match d with
  | .node _ .tup ds => if ds.length = n then gs ds else fun _ => .stuck
  | _ => fun _ => .stuck
theorem tGs_0 {vs : List V} {Q : Sl → Hp → Prop} (h : tGs K A gs0 vs σ H Q) : gNil vs σ H Q := by
  obtain ⟨Z, ρ, S, Sd, ds, w, dj, er, r, o⟩ := h
  cases ds with
  | cons d ds => simp only [gs0] at o
  | nil =>
    cases vs with
    | cons v vs => exact r.elim
    | nil => exact ⟨rfl, by simp only [gs0] at o; exact o σ Z H S (Keep.refl σ) ((Step.refl w).less fun a x => .inl x) er⟩
theorem tGs_C {g : Tg} {gs : List D → M Unit} {vs : List V} {Q : Sl → Hp → Prop} (h : tGs K A (gsC g gs) vs σ H Q) : gCons (tG K A g) (tGs K A gs) vs σ H Q := by
  obtain ⟨Z, ρ, S, Sd, ds, w, dj, er, r, o⟩ := h
  cases ds with
  | nil => simp only [gsC] at o
  | cons d ds =>
    cases vs with
    | nil => exact r.elim
    | cons v vs =>
      obtain ⟨A1, A2, a1, a2, aj, r1, r2⟩ := r
      simp only [gsC, bnd] at o
      refine ⟨v, vs, rfl, Z, ρ, S, A1, d, w.less fun a x => x.elim .inl fun y => .inr (a1 a y), fun a x y => dj a x (a1 a y), er, r1, ?_⟩
      cases e1 : g d ρ with
      | stuck => simp only [e1] at o
      | exc x ρ1 => simp only [e1] at o
      | ok u ρ1 =>
        simp only [e1] at o
        intro σ1 Z1 H1 S1 kp st er1
        have w' : Wd Z H (fun a => (S a ∨ A1 a) ∨ A2 a) := w.less fun a x => x.elim (fun y => y.elim .inl fun z => .inr (a1 a z)) fun y => .inr (a2 a y)
        have d1 : ∀ a, (S a ∨ A1 a) → A2 a → False := fun a x y => x.elim (fun z => dj a z (a2 a y)) fun z => aj a z y
        have st' := st.frame w' d1
        refine ⟨Z1, ρ1, S1, A2, ds, st'.wd, st.apart (fun a x => w'.dom a (.inr x)) d1, er1, st.stayL d1 r2, ?_⟩
        cases e2 : gs ds ρ1 with
        | stuck => rw [e2] at o; exact o
        | exc x ρ2 => rw [e2] at o; exact o
        | ok u2 ρ2 =>
          rw [e2] at o
          intro σ2 Z2 H2 S2 kp2 st2 er2
          refine o σ2 Z2 H2 S2 (kp.trans kp2) ?_ er2
          have st0 : Step Z H (fun a => S a ∨ Sd a) Z1 H1 (fun a => S1 a ∨ A2 a) := ⟨st'.wd, st'.zz, fun a o n e => st'.fr a o (fun x => n (x.elim (fun y => y.elim .inl fun z => .inr (a1 a z)) fun y => .inr (a2 a y))) e,
            fun a x => (st'.new a x).elim (fun y => .inl (y.elim (fun y => y.elim .inl fun z => .inr (a1 a z)) fun y => .inr (a2 a y))) .inr, fun a o e => (st'.znew a o e).elim .inl fun y => .inr (y.elim (fun y => .inl (y.elim (fun y => y.elim .inl fun z => .inr (a1 a z)) fun y => .inr (a2 a y))) .inr)⟩
          exact st0.trans st2
theorem tG_T {gs : List D → M Unit} {n : Nat} {v : V} {Q : Sl → Hp → Prop} (h : tG K A (gT gs n) v σ H Q) : gTup K n (tGs K A gs) v σ H Q := by
  obtain ⟨Z, ρ, S, Sd, d, w, dj, er, r, o⟩ := h
  cases d with
  | node b k ds =>
    cases k with
    | tup =>
      simp only [gT] at o
      by_cases hn : ds.length = n
      · rw [if_pos hn] at o
        cases b with
        | false =>
          obtain ⟨a, ys, rfl, c, rl⟩ := r
          exact ⟨a, ys, rfl, SqT.same c w.same, by rw [← rl.length]; exact hn, Z, ρ, S, Sd, ds, w, dj, er, rl, o⟩
        | true =>
          obtain ⟨a, ys, S', rfl, c, sa, na, sub, rl⟩ := r
          refine ⟨a, ys, rfl, SqT.of c, by rw [← rl.length]; exact hn, Z, ρ, S, Sd, ds, w, dj, er, rl.move (Same.refl Z) (fun _ _ _ x => x) sub, o⟩
      · rw [if_neg hn] at o
        simp only at o
    | _ => simp only [gT] at o
  | _ => simp only [gT] at o
def asg (f : M EV) (g : Tg) : M Fl := bnd f fun e => bnd (use1 e) fun d => fun ρ => match g d ρ with
  | .ok _ ρ' => .ok .nx ρ'
  | _ => .stuck
theorem tS_asg {f : M EV} {g : Tg} {D : Ends} (h : tS K mg W A (asg f g) D σ H) : tAsg (tE K mg W f) (tG K A g) D σ H := by
  obtain ⟨Z, ρ, S, w, er, o⟩ := h
  refine keep_of w er o fun v d ρ1 Z1 H1 S1 Sd st dj er1 r1 o1 => ?_
  refine ⟨Z1, ρ1, S1, Sd, d, st.wd, dj, er1, r1, ?_⟩
  cases e1 : g d ρ1 with
  | stuck => simp only [e1] at o1; exact o1
  | exc x ρ2 => simp only [e1] at o1; exact o1
  | ok u ρ2 =>
    simp only [e1] at o1
    exact fun σ' Z' H' S' kp st' er' => o1 σ' .non Z' H' S' Fp0 kp (st.trans (st'.less fun a x => x.elim id False.elim)) (fun _ _ x => x) er' trivial
end
end Pm
/-! PmD: loops, calls, what a def keeps. -/
namespace Pm
open PySem PySem.Spec PyProof.Rows L2
section
variable {K : PySem.W.Frag} {mg : Str → Option Value} {W : WX} {Z H : Hp} {S : Fp} {σ : Sl} {X : Cx} {A : Nat → Bool}
/-! ### while -/
def wIt (c : M Bool) (b : M Fl) : Nat → Env → Option (Res Fl)
  | 0, _ => none
  | n + 1, ρ => match c ρ with
    | .stuck => some .stuck
    | .exc x ρ1 => some (.exc x ρ1)
    | .ok false ρ1 => some (.ok .nx ρ1)
    | .ok true ρ1 => match b ρ1 with
      | .stuck => some .stuck
      | .exc x ρ2 => some (.exc x ρ2)
      | .ok (.rt d) ρ2 => some (.ok (.rt d) ρ2)
      | .ok .bk ρ2 => some (.ok .nx ρ2)
      | .ok .nx ρ2 => wIt c b n ρ2
      | .ok .ct ρ2 => wIt c b n ρ2
noncomputable def whl (c : M Bool) (b : M Fl) : M Fl := fun ρ => open Classical in if h : ∃ n r, wIt c b n ρ = some r then Classical.choose (Classical.choose_spec h) else .stuck
theorem wIt_more {c : M Bool} {b : M Fl} : ∀ {n : Nat} {ρ : Env} {r : Res Fl}, wIt c b n ρ = some r → ∀ k, wIt c b (n + k) ρ = some r
  | 0, _, _, h, _ => nomatch h
  | n + 1, ρ, r, h, k => by
    rw [show n + 1 + k = (n + k) + 1 by omega]
    simp only [wIt] at h ⊢
    split at h
    · exact h
    · exact h
    · exact h
    · split at h
      · exact h
      · exact h
      · exact h
      · exact h
      · exact wIt_more h k
      · exact wIt_more h k
theorem wIt_one {c : M Bool} {b : M Fl} {n m : Nat} {ρ : Env} {r r' : Res Fl} (h : wIt c b n ρ = some r) (h' : wIt c b m ρ = some r') : r = r' := by
  have a := wIt_more h m
  have b' := wIt_more h' n
  rw [Nat.add_comm m n, a] at b'
  exact Option.some.inj b'
theorem whl_of {c : M Bool} {b : M Fl} {n : Nat} {ρ : Env} {r : Res Fl} (h : wIt c b n ρ = some r) : whl c b ρ = r := by
  have q : ∃ n r, wIt c b n ρ = some r := ⟨n, r, h⟩
  unfold whl
  rw [dif_pos q]
  exact wIt_one (Classical.choose_spec (Classical.choose_spec q)) h
theorem whl_or {c : M Bool} {b : M Fl} {ρ : Env} (h : whl c b ρ ≠ .stuck) : ∃ n, wIt c b n ρ = some (whl c b ρ) := by
  by_cases q : ∃ n r, wIt c b n ρ = some r
  · obtain ⟨n, r, e⟩ := q
    exact ⟨n, by rw [whl_of e]; exact e⟩
  · exfalso
    apply h
    unfold whl
    rw [dif_neg q]
/-- one turn of a while -/
theorem whl_eq {c : M Bool} {b : M Fl} {ρ : Env} : whl c b ρ = match c ρ with
    | .stuck => .stuck
    | .exc x ρ1 => .exc x ρ1
    | .ok false ρ1 => .ok .nx ρ1
    | .ok true ρ1 => match b ρ1 with
      | .stuck => .stuck
      | .exc x ρ2 => .exc x ρ2
      | .ok (.rt d) ρ2 => .ok (.rt d) ρ2
      | .ok .bk ρ2 => .ok .nx ρ2
      | .ok .nx ρ2 => whl c b ρ2
      | .ok .ct ρ2 => whl c b ρ2 := by
  have go : ∀ {ρ2 : Env}, (∀ n, wIt c b (n + 1) ρ = wIt c b n ρ2) → whl c b ρ = whl c b ρ2 := fun {ρ2} f => by
    by_cases q : ∃ n r, wIt c b n ρ2 = some r
    · obtain ⟨n, r, e⟩ := q
      rw [whl_of e]
      exact whl_of (n := n + 1) (by rw [f]; exact e)
    · have q2 : ¬ ∃ n r, wIt c b n ρ = some r := fun ⟨n, r, e⟩ => by
        cases n with
        | zero => cases e
        | succ n => exact q ⟨n, r, by rw [← f]; exact e⟩
      unfold whl
      rw [dif_neg q, dif_neg q2]
  cases e1 : c ρ with
  | stuck => exact whl_of (n := 1) (by simp only [wIt, e1])
  | exc x ρ1 => exact whl_of (n := 1) (by simp only [wIt, e1])
  | ok t ρ1 =>
    cases t with
    | false => exact whl_of (n := 1) (by simp only [wIt, e1])
    | true =>
      simp only
      cases e2 : b ρ1 with
      | stuck => exact whl_of (n := 1) (by simp only [wIt, e1, e2])
      | exc x ρ2 => exact whl_of (n := 1) (by simp only [wIt, e1, e2])
      | ok f ρ2 =>
        cases f with
        | rt d => exact whl_of (n := 1) (by simp only [wIt, e1, e2])
        | bk => exact whl_of (n := 1) (by simp only [wIt, e1, e2])
        | nx => exact go fun n => by simp only [wIt, e1, e2]
        | ct => exact go fun n => by simp only [wIt, e1, e2]
theorem tS_while {c : M Bool} {b : M Fl} {D : Ends} (h : tS K mg W A (whl c b) D σ H) : tWhile (tT K mg W c) (tS K mg W A b) D σ H := by
  obtain ⟨Z, ρ, S, w, er, o⟩ := h
  have ns : whl c b ρ ≠ .stuck := fun e => by rw [e] at o; exact o
  obtain ⟨n, hn⟩ := whl_or ns
  refine ⟨fun m σ' H' => ∃ Z ρ S r, Wd Z H' S ∧ EnvR K Z H' ρ σ' S ∧ wIt c b m ρ = some r ∧ OutS K mg W A σ' Z H' S D r, ⟨n, Z, ρ, S, _, w, er, hn, o⟩, ?_⟩
  rintro m σ H ⟨Z, ρ, S, r, w, er, hm, o⟩
  cases m with
  | zero => cases hm
  | succ m =>
    simp only [wIt] at hm
    refine tT_bnd (k := fun _ => c) (R := fun _ => True) w er (fun x ρ1 e => ?_) (fun e => ?_) fun t ρ1 Z1 H1 S1 e st er1 => ?_
    · simp only [e, Option.some.injEq] at hm
      subst hm
      exact o σ (Keep.refl σ)
    · simp only [e, Option.some.injEq] at hm
      subst hm
      exact o
    · simp only [e] at hm
      cases t with
      | false =>
        simp only [Option.some.injEq] at hm
        subst hm
        rw [if_neg Bool.false_ne_true]
        exact o σ .non Z1 H1 S1 Fp0 (Keep.refl σ) (st.less fun a x => x.elim id False.elim) (fun _ _ x => x) er1 trivial
      | true =>
        rw [if_pos rfl]
        refine ⟨fun σ' H' => ∃ Z ρ S r, Wd Z H' S ∧ EnvR K Z H' ρ σ' S ∧ wIt c b m ρ = some r ∧ OutS K mg W A σ' Z H' S D r, fun σ' H' q => ⟨m, Nat.lt_succ_self m, q⟩, Z1, ρ1, S1, st.wd, er1, ?_⟩
        simp only at hm
        cases e2 : b ρ1 with
        | stuck =>
          simp only [e2, Option.some.injEq] at hm
          subst hm
          exact o
        | exc x ρ2 =>
          simp only [e2, Option.some.injEq] at hm
          subst hm
          exact fun σ' k => XOut.after st (o σ' k)
        | ok f ρ2 =>
          simp only [e2] at hm
          intro σ' v Z2 H2 S2 Sd kp st2 dj er2 r2
          have again : wIt c b m ρ2 = some r → ∃ Z ρ S r, Wd Z H2 S ∧ EnvR K Z H2 ρ σ' S ∧ wIt c b m ρ = some r ∧ OutS K mg W A σ' Z H2 S D r := fun q =>
            ⟨Z2, ρ2, S2, r, st2.wd.less fun a x => .inl x, er2, q, OutS.next kp ((st.trans st2).less fun a x => .inl x) o⟩
          cases f with
          | rt d =>
            simp only [Option.some.injEq] at hm
            subst hm
            exact o σ' v Z2 H2 S2 Sd kp (st.trans st2) dj er2 r2
          | bk =>
            simp only [Option.some.injEq] at hm
            subst hm
            exact o σ' .non Z2 H2 S2 Fp0 kp (st.trans (st2.less fun a x => x.elim .inl False.elim)) (fun _ _ x => x) er2 trivial
          | nx => exact again hm
          | ct => exact again hm
theorem ps_whl {c : Expr} {body : List Stmt} {f : M Bool} {b : M Fl} {pos : Pos} (hp : PassesOwn (model X.prog X.w) X.A X.env X.xe) (hc : PT X c (tT X.K X.mg W f)) (hb : PSs X body (tS X.K X.mg W A b)) : PS X (.While c body [] pos) (tS X.K X.mg W A (whl f b)) :=
  PS.of (ps_while hp hc hb) fun _ _ _ q => tS_while q
/-! ### for -/
def WalkR (K : PySem.W.Frag) (J : It) (Z : Hp) (ds : List D) : Prop := ∀ (Z' H' : Hp), Same Z Z' → Same Z' H' → (∀ i, ds.length ≤ i → J.stop i H') ∧
  ∀ i d, ds[i]? = some d → J.go i H' ∧ ∀ x H'' S', Wd Z' H' S' → J.yld i H' x H'' → ∃ Z'', Step Z' H' S' Z'' H'' S' ∧ (∀ a o, H' a = some o → H'' a = some o) ∧ Rep K Z'' H'' d x Fp0
def OutI (K : PySem.W.Frag) (mg : Str → Option Value) (W : WX) (Z H : Hp) (S : Fp) (σ : Sl) (R : It → Hp → Prop) : Res (List D) → Prop
  | .stuck => False
  | .ok ds ρ' => ∀ J Z' H' S', Step Z H S Z' H' S' → EnvR K Z' H' ρ' σ S' → WalkR K J Z' ds → R J H'
  | .exc x ρ' => XOut K mg W Z H S σ x ρ'
def tI (K : PySem.W.Frag) (mg : Str → Option Value) (W : WX) (s : M (List D)) : TI := fun σ H R => ∃ Z ρ S, Wd Z H S ∧ EnvR K Z H ρ σ S ∧ OutI K mg W Z H S σ R (s ρ)
theorem PI.of {tg iter : Expr} {t t' : TI} (h : PI X tg iter t) (i : ∀ σ H Q, t' σ H Q → t σ H Q) : PI X tg iter t' := ⟨fun p s σ H R I q => h.run p s σ H R I (i σ H R q)⟩
def forIt (g : Tg) (b : M Fl) : List D → M Fl
  | [] => ret .nx
  | d :: ds => fun ρ => match g d ρ with
    | .ok _ ρ' => bnd b (fun f => match f with
      | .nx => forIt g b ds
      | .ct => forIt g b ds
      | .bk => ret .nx
      | .rt d => ret (.rt d)) ρ'
    | _ => .stuck
def forS (s : M (List D)) (g : Tg) (b : M Fl) : M Fl := bnd s (forIt g b)
theorem tS_for {s : M (List D)} {g : Tg} {b : M Fl} {D : Ends} (h : tS K mg W A (forS s g b) D σ H) : tFor (tI K mg W s) (tG K A g) (tS K mg W A b) D σ H := by
  obtain ⟨Z, ρ, S, w, er, o⟩ := h
  refine ⟨Z, ρ, S, w, er, ?_⟩
  simp only [forS, bnd] at o
  cases e1 : s ρ with
  | stuck => rw [e1] at o; exact o
  | exc x ρ1 => rw [e1] at o; exact o σ (Keep.refl σ)
  | ok ds ρ1 =>
    simp only [e1] at o
    intro J Z1 H1 S1 st er1 wk
    refine ⟨fun i m σ' H' => ∃ Z' ρ' S', Same Z1 Z' ∧ Wd Z' H' S' ∧ EnvR K Z' H' ρ' σ' S' ∧ i + m = ds.length ∧ OutS K mg W A σ' Z' H' S' D (forIt g b (ds.drop i) ρ'), ⟨ds.length, Z1, ρ1, S1, Same.refl _, st.wd, er1, by omega, OutS.after st o⟩, ?_⟩
    rintro i m σ2 H2 ⟨Z2, ρ2, S2, z2, w2, er2, him, o2⟩
    obtain ⟨w3, w4⟩ := wk Z2 H2 z2 w2.same
    by_cases hi : i < ds.length
    · obtain ⟨go, yl⟩ := w4 i ds[i] (List.getElem?_eq_getElem hi)
      have ed : ds.drop i = ds[i] :: ds.drop (i + 1) := List.drop_eq_getElem_cons hi
      rw [ed] at o2
      refine .inr ⟨go, fun σ' H' => ∃ Z' ρ' S', Same Z1 Z' ∧ Wd Z' H' S' ∧ EnvR K Z' H' ρ' σ' S' ∧ (i + 1) + (m - 1) = ds.length ∧ OutS K mg W A σ' Z' H' S' D (forIt g b (ds.drop (i + 1)) ρ'), fun σ' H' q => ⟨m - 1, by omega, q⟩, fun x H3 y => ?_⟩
      obtain ⟨Z3, st3, k3, r3⟩ := yl x H3 S2 w2 y
      have er3 : EnvR K Z3 H3 ρ2 σ2 S2 := er2.move st3.zz (fun a o _ e => k3 a o e) fun _ x => x
      refine ⟨Z3, ρ2, S2, Fp0, ds[i], st3.wd.less fun a x => x.elim id False.elim, fun _ _ x => x, er3, r3, ?_⟩
      have o3 := OutS.after st3 o2
      simp only [forIt, bnd] at o3
      cases e2 : g ds[i] ρ2 with
      | stuck => simp only [e2] at o3; exact o3
      | exc x ρ3 => simp only [e2] at o3; exact o3
      | ok u ρ3 =>
        simp only [e2] at o3
        intro σ4 Z4 H4 S4 kp4 st4 er4
        have st34 : Step Z3 H3 S2 Z4 H4 S4 := (Step.less (Step.refl st3.wd) (S2 := fun a => S2 a ∨ Fp0 a) (fun a x => x.elim id False.elim)).trans st4
        have zz4 : Same Z1 Z4 := z2.trans (st3.zz.trans st4.zz)
        refine ⟨Z4, ρ3, S4, st4.wd, er4, ?_⟩
        cases e3 : b ρ3 with
        | stuck => simp only [e3] at o3; exact o3
        | exc x ρ4 => simp only [e3] at o3; exact fun σ' k => XOut.after st34 (o3 σ' (kp4.trans k))
        | ok f ρ4 =>
          simp only [e3] at o3
          intro σ5 v Z5 H5 S5 Sd kp5 st5 dj er5 r5
          have again : OutS K mg W A σ2 Z3 H3 S2 D (forIt g b (ds.drop (i + 1)) ρ4) → ∃ Z' ρ' S', Same Z1 Z' ∧ Wd Z' H5 S' ∧ EnvR K Z' H5 ρ' σ5 S' ∧ (i + 1) + (m - 1) = ds.length ∧ OutS K mg W A σ5 Z' H5 S' D (forIt g b (ds.drop (i + 1)) ρ') := fun q =>
            ⟨Z5, ρ4, S5, zz4.trans st5.zz, st5.wd.less fun a x => .inl x, er5, by omega, OutS.next (kp4.trans kp5) ((st34.trans st5).less fun a x => .inl x) q⟩
          cases f with
          | rt d => exact o3 σ5 v Z5 H5 S5 Sd (kp4.trans kp5) (st34.trans st5) dj er5 r5
          | bk => exact o3 σ5 .non Z5 H5 S5 Fp0 (kp4.trans kp5) (st34.trans (st5.less fun a x => x.elim .inl False.elim)) (fun _ _ x => x) er5 trivial
          | nx => exact again o3
          | ct => exact again o3
    · refine .inl ⟨w3 i (by omega), ?_⟩
      rw [List.drop_eq_nil_of_le (by omega)] at o2
      exact o2 σ2 .non Z2 H2 S2 Fp0 (Keep.refl σ2) w2.nil (fun _ _ x => x) er2 trivial
theorem ps_forS {tg iter : Expr} {body : List Stmt} {s : M (List D)} {g : Tg} {b : M Fl} {pos : Pos} (hp : PassesOwn (model X.prog X.w) X.A X.env X.xe) (hc : X.calm = true) (hi : PI X tg iter (tI X.K X.mg W s)) (hg : PG X tg (tG X.K A g))
    (hb : PSs X body (tS X.K X.mg W A b)) (hs : ∀ x, foldedSetIterable iter X.env x = pure x) : PS X (.For tg iter body [] pos) (tS X.K X.mg W A (forS s g b)) :=
  PS.of (ps_for hp hc hi hg hb hs) fun _ _ _ q => tS_for q
/-! ### what is walked -/
/-- a list or a tuple: what it holds is frozen -/
def srcSeq (f : M EV) (k : Kd) : M (List D) := bnd f fun e => bnd (use1 e) fun d => match d with
  | .node _ k' ds => if k' = k then ret (frzL ds) else fun _ => .stuck
  | _ => fun _ => .stuck
theorem srcSeq_of {f : M EV} {k : Kd} {R : It → Hp → Prop} (h : tI K mg W (srcSeq f k) σ H R) (hk : k = .lst ∨ k = .tup) :
    tE K mg W f σ H fun x H1 => ∃ a, x = .ref a ∧ ∃ Z' ys ds, Same Z' H1 ∧ Frd K Z' a ys k ∧ RepL K Z' H1 ds ys Fp0 ∧ ∀ J, WalkR K J Z' ds → R J H1 := by
  obtain ⟨Z, ρ, S, w, er, o⟩ := h
  refine ⟨Z, ρ, S, w, er, ?_⟩
  simp only [srcSeq, bnd] at o
  cases e1 : f ρ with
  | stuck => rw [e1] at o; exact o
  | exc x ρ1 => rw [e1] at o; exact o
  | ok ev ρ1 =>
    simp only [e1] at o
    intro v Z1 H1 S1 Sa st1 dj1 er1 r1
    cases e2 : use1 ev ρ1 with
    | stuck => rw [e2] at o; exact o.elim
    | exc x ρ2 => exact absurd e2 use1_noexc
    | ok d ρ2 =>
      simp only [e2] at o
      have w1 : Wd Z1 H1 (fun a => (S1 a ∨ Sa a) ∨ Fp0 a) := st1.wd.less fun a x => x.elim id False.elim
      obtain ⟨Z2, S2, st2, m2, er2, r2⟩ := use1_ok w1 dj1 (fun _ _ x => x) er1 r1 e2
      have st2' : Step Z1 H1 (fun a => S1 a ∨ Sa a) Z2 H1 (fun a => S2 a ∨ Sa a) := ⟨st2.wd.less fun a x => .inl x, st2.zz, fun a o n e => e, fun a x => .inl (x.elim (fun y => .inl (m2 a y)) .inr), fun a o e => (st2.znew a o e).elim .inl fun y => .inr (y.elim (fun z => z.elim .inl False.elim) .inr)⟩
      cases d with
      | node b k' ds =>
        simp only at o
        by_cases hk' : k' = k
        · subst hk'
          rw [if_pos rfl] at o
          simp only [ret] at o
          have w2 := st2'.wd
          have st3 : Step Z2 H1 (fun a => S2 a ∨ Sa a) (thaw Z2 H1 Sa) H1 S2 := Step.freeze w2 (fun a x => .inr x) (fun a x => .inl x) fun a x y => dj1 a (m2 a x) y
          have r3 := Rep.frz (S := Sa) (H' := H1) r2 (fun a x => w2.sep a (.inr x)) fun _ x => x
          obtain ⟨a, ys, rfl, c, rl⟩ := r3
          exact ⟨a, rfl, thaw Z2 H1 Sa, ys, frzL ds, st3.wd.same, c, rl, fun J wk => o J _ H1 S2 ((st1.trans st2').trans st3) (er2.move st3.zz (fun _ _ _ x => x) fun _ x => x) wk⟩
        · rw [if_neg hk'] at o
          exact o.elim
      | _ => exact o.elim
theorem walk_tup {a : Addr} {ys : List V} {ds : List D} {H1 : Hp} (c : SqT K Z a ys) (rl : RepL K Z H1 ds ys Fp0) : WalkR K (Itt K a) Z ds := by
  intro Z' H' z1 z2
  have c' : SqT K H' a ys := SqT.same (SqT.same c z1) z2
  refine ⟨fun i hi => ⟨ys, c', by rw [← rl.length]; exact hi⟩, fun i d hd => ?_⟩
  obtain ⟨x, hx, rx⟩ := rl.get hd
  refine ⟨⟨ys, x, c', hx⟩, fun y H'' S' w h => ?_⟩
  obtain ⟨rfl, h⟩ := h
  have e := h ys c'
  rw [hx] at e
  cases e
  exact ⟨Z', Step.refl w, fun _ _ e => e, rx.move z1 (fun _ _ x => x.elim) fun _ x => x⟩
theorem walk_lst' {a : Addr} {ys : List V} {ds : List D} {H1 : Hp} (c : SqL K Z a ys) (rl : RepL K Z H1 ds ys Fp0) : WalkR K (Itl K a) Z ds := by
  intro Z' H' z1 z2
  have c' : SqL K H' a ys := Same.seq z2 (Same.seq z1 c)
  refine ⟨fun i hi => ⟨ys, c', by rw [← rl.length]; exact hi⟩, fun i d hd => ?_⟩
  obtain ⟨x, hx, rx⟩ := rl.get hd
  refine ⟨⟨ys, x, c', hx⟩, fun y H'' S' w h => ?_⟩
  obtain ⟨rfl, h⟩ := h
  have e := h ys c'
  rw [hx] at e
  cases e
  exact ⟨Z', Step.refl w, fun _ _ e => e, rx.move z1 (fun _ _ x => x.elim) fun _ x => x⟩
theorem pi_seqL {tg l : Expr} {f : M EV} (h : PE X l (tE X.K X.mg W f)) : PI X tg l (tI X.K X.mg W (srcSeq f .lst)) :=
  PI.of (pi_list h) fun σ H R q => by
    obtain ⟨Z, ρ, S, w, er, o⟩ := srcSeq_of q (.inl rfl)
    refine ⟨Z, ρ, S, w, er, ?_⟩
    cases e : f ρ with
    | stuck => rw [e] at o; exact o
    | exc x ρ1 => rw [e] at o; exact o
    | ok ev ρ1 =>
      rw [e] at o
      intro v Z1 H1 S1 Sd st dj er1 r1
      obtain ⟨a, rfl, Z', ys, ds, sm, c, rl, k⟩ := o v Z1 H1 S1 Sd st dj er1 r1
      exact ⟨a, rfl, ⟨ys, Same.seq sm (SqL.of c)⟩, k _ (walk_lst' (SqL.of c) rl)⟩
theorem pi_seqT {tg l : Expr} {f : M EV} (h : PE X l (tE X.K X.mg W f)) : PI X tg l (tI X.K X.mg W (srcSeq f .tup)) :=
  PI.of (pi_tup h) fun σ H R q => by
    obtain ⟨Z, ρ, S, w, er, o⟩ := srcSeq_of q (.inr rfl)
    refine ⟨Z, ρ, S, w, er, ?_⟩
    cases e : f ρ with
    | stuck => rw [e] at o; exact o
    | exc x ρ1 => rw [e] at o; exact o
    | ok ev ρ1 =>
      rw [e] at o
      intro v Z1 H1 S1 Sd st dj er1 r1
      obtain ⟨a, rfl, Z', ys, ds, sm, c, rl, k⟩ := o v Z1 H1 S1 Sd st dj er1 r1
      exact ⟨a, rfl, ⟨ys, SqT.same c sm⟩, k _ (walk_tup c rl)⟩
end
end Pm
/-! PmE: what a def keeps, calls, the law's end. -/
namespace Pm
open PySem PySem.Spec PyProof.Rows L2

/-- what a def makes of its arguments: what it hands back, and the arguments as they lie then -/
inductive FR where
  | stuck | ret (d : D) (as : List D) | exc (x : XD) (as : List D)
abbrev FSem := List D → FR
/-- a def by its body: n parameters, m slots in all; those at reb are stored anew -/
def reFrz (reb : List Nat) : Nat → List D → List D
  | _, [] => []
  | i, d :: ds => (if i ∈ reb then d.frz else d) :: reFrz reb (i + 1) ds
def argsBack (reb : List Nat) (ρ : Env) : Nat → List D → Option (List D)
  | _, [] => some []
  | i, d :: ds => match (if d.plain || decide (i ∈ reb) then some d else ρ.getD i none), argsBack reb ρ (i + 1) ds with
    | some a, some as => some (a :: as)
    | _, _ => none
def mkF (n m : Nat) (reb : List Nat) (b : M Fl) : FSem := fun ds =>
  if ds.length = n ∧ n ≤ m then
    match b ((reFrz reb 0 ds).map some ++ List.replicate (m - n) none) with
    | .stuck => .stuck
    | .ok (.rt d) ρ => match argsBack reb ρ 0 (reFrz reb 0 ds) with
      | some as => .ret d as
      | none => .stuck
    | .ok .nx ρ => match argsBack reb ρ 0 (reFrz reb 0 ds) with
      | some as => .ret .non as
      | none => .stuck
    | .ok _ _ => .stuck
    | .exc x ρ => match argsBack reb ρ 0 (reFrz reb 0 ds) with
      | some as => .exc x as
      | none => .stuck
  else .stuck
section
variable (K : PySem.W.Frag) (mg : Str → Option Value)
def OutF (Z H : Hp) (S : Fp) (vs : List V) (Q : VK) (E : XK) : FR → Prop
  | .stuck => False
  | .ret d as => ∀ v Z' H' S' Sd, Step Z H S Z' H' (fun a => S' a ∨ Sd a) → (∀ a, S' a → Sd a → False) → RepL K Z' H' as vs S' → Rep K Z' H' d v Sd → Q v H'
  | .exc x as => ∀ cls dd Z' H' S', Step Z H S Z' H' S' → RepL K Z' H' as vs S' → ExcR K mg Z' x cls dd → E cls dd H'
def spG (f : FSem) : Sp := fun vs H Q E => ∃ Z S ds, Wd Z H S ∧ RepL K Z H ds vs S ∧ OutF K mg Z H S vs Q E (f ds)
end
structure FnG (P : Program) (w : World) (K : PySem.W.Frag) (mg : Str → Option Value) (base : Heap) (k : Nat) (f : Addr) (fd : FuncData) (ps : List Str) (g : FSem) : Prop where
  len : ∀ ds, g ds ≠ .stuck → ds.length = ps.length
  run : ∀ (A : Around) (outer : List PySem.Env) (s : Shared) (H : Hp) (args : Args) (us : List Value) (vs : List V) (Q : VK) (E : XK),
    A.guards = some [] → Room k A → Env0 P w K mg base A outer s H → BindsTo s fd args (ps.zip us) → Vals vs us → spG K mg g vs H Q E →
    codeAny (model P w) A (.call (.ref f) args) (CR (L2.CX P w) outer P w H s Q E) s

section
variable {K : PySem.W.Frag} {mg : Str → Option Value} {W : WX} {Z H : Hp} {S : Fp} {σ : Sl} {X : Cx}
theorem spG_len {g : FSem} {n : Nat} {vs : List V} {Q : VK} {E : XK} (l : ∀ ds, g ds ≠ .stuck → ds.length = n) (h : spG K mg g vs H Q E) : vs.length = n := by
  obtain ⟨Z, S, ds, w, r, o⟩ := h
  rw [← r.length]
  exact l ds fun e => by rw [e] at o; exact o
theorem mkF_len {n m : Nat} {reb : List Nat} {b : M Fl} (ds : List D) (h : mkF n m reb b ds ≠ .stuck) : ds.length = n := by
  unfold mkF at h
  by_cases e : ds.length = n ∧ n ≤ m
  · exact e.1
  · rw [if_neg e] at h
    exact absurd rfl h
/-! ### a body's function is its def's -/
theorem env_start : ∀ {ds : List D} {vs : List V} {S : Fp} (k : Nat), RepL K Z H ds vs S → EnvR K Z H (ds.map some ++ List.replicate k none) (vs.map some ++ List.replicate k none) S
  | [], [], S, 0, _ => trivial
  | [], [], S, k + 1, h => by
    rw [List.replicate_succ, List.replicate_succ]
    exact env_start (ds := []) (vs := []) (S := S) k trivial
  | [], _ :: _, _, _, h => h.elim
  | _ :: _, [], _, _, h => h.elim
  | d :: ds, v :: vs, S, k, ⟨S1, S2, s1, s2, dj, r, q⟩ => ⟨S1, S2, s1, s2, dj, r, env_start k q⟩
theorem reFrz_ok {reb : List Nat} : ∀ {ds : List D} {vs : List V} {i : Nat} {Z : Hp} {S T : Fp}, Wd Z H (fun a => S a ∨ T a) → (∀ a, S a → T a → False) → RepL K Z H ds vs S →
    ∃ Z' S', Step Z H (fun a => S a ∨ T a) Z' H (fun a => S' a ∨ T a) ∧ (∀ a, S' a → S a) ∧ RepL K Z' H (reFrz reb i ds) vs S'
  | [], [], _, Z, S, T, w, _, _ => ⟨Z, S, Step.refl w, fun _ x => x, trivial⟩
  | [], _ :: _, _, _, _, _, _, _, h => h.elim
  | _ :: _, [], _, _, _, _, _, _, h => h.elim
  | d :: ds, v :: vs, i, Z, S, T, w, dj, ⟨S1, S2, s1, s2, sj, r, q⟩ => by
    have w2 : Wd Z H (fun a => S2 a ∨ (S1 a ∨ T a)) := w.less fun a x => x.elim (fun y => .inl (s2 a y)) fun y => y.elim (fun z => .inl (s1 a z)) .inr
    obtain ⟨Z1, S', st, m, r1⟩ := reFrz_ok (reb := reb) (i := i + 1) w2 (fun a x y => y.elim (fun z => sj a z x) fun z => dj a (s2 a x) z) q
    have st0 : Step Z H (fun a => S a ∨ T a) Z1 H (fun a => S' a ∨ (S1 a ∨ T a)) := by
      have sub : ∀ a, (S2 a ∨ (S1 a ∨ T a)) → (S a ∨ T a) := fun a x => x.elim (fun y => .inl (s2 a y)) fun y => y.elim (fun z => .inl (s1 a z)) .inr
      exact ⟨st.wd, st.zz, fun a o n e => e, fun a x => (st.new a x).elim (fun y => .inl (sub a y)) .inr, fun a o e => (st.znew a o e).elim .inl fun y => .inr (y.elim (fun z => .inl (sub a z)) .inr)⟩
    unfold reFrz
    by_cases hi : i ∈ reb
    · rw [if_pos hi]
      have st1 : Step Z1 H (fun a => S' a ∨ (S1 a ∨ T a)) (thaw Z1 H S1) H (fun a => S' a ∨ T a) := Step.freeze st.wd (fun a x => .inr (.inl x)) (fun a x => x.elim .inl fun y => .inr (.inr y)) fun a x y => x.elim (fun z => sj a y (m a z)) fun z => dj a (s1 a y) z
      have rf : Rep K (thaw Z1 H S1) H d.frz v Fp0 := Rep.frz (r.move st.zz (fun _ _ _ x => x) fun _ x => x) (fun a x => st.wd.sep a (.inr (.inl x))) fun _ x => x
      exact ⟨_, S', st0.trans st1, fun a x => s2 a (m a x), Fp0, S', fun _ x => x.elim, fun _ x => x, fun _ x _ => x, rf, r1.move st1.zz (fun _ _ _ x => x) fun _ x => x⟩
    · rw [if_neg hi]
      refine ⟨Z1, fun a => S1 a ∨ S' a, st0.less fun a x => x.elim (fun y => y.elim (fun z => .inr (.inl z)) .inl) fun y => .inr (.inr y), fun a x => x.elim (s1 a) fun y => s2 a (m a y), S1, S', fun a x => .inl x, fun a x => .inr x, fun a x y => sj a x (m a y), r.move st.zz (fun _ _ _ x => x) fun _ x => x, r1⟩
/-- the slots of the parameters that are not stored hold the arguments -/
def Held (reb : List Nat) (σ : Sl) : Nat → List V → Prop
  | _, [] => True
  | i, v :: vs => (i ∉ reb → σ[i]? = some (some v)) ∧ Held reb σ (i + 1) vs
theorem reFrz_plain {reb : List Nat} : ∀ {ds : List D} {i j : Nat} {d : D}, (reFrz reb i ds)[j]? = some d → (i + j) ∈ reb → d.plain = true
  | [], _, _, _, h, _ => by simp [reFrz] at h
  | e :: ds, i, 0, d, h, m => by
    simp only [reFrz, List.getElem?_cons_zero, Option.some.injEq] at h
    rw [if_pos (by simpa using m)] at h
    rw [← h]
    exact D.plain_frz e
  | e :: ds, i, j + 1, d, h, m => by
    simp only [reFrz, List.getElem?_cons_succ] at h
    exact reFrz_plain h (by rw [show i + 1 + j = i + (j + 1) by omega]; exact m)
theorem back_ok {reb : List Nat} {ρ : Env} : ∀ {ds : List D} {vs : List V} {as : List D} {i : Nat} {S S0 : Fp} {Z0 H0 : Hp} {ρ1 : Env}, RepL K Z0 H0 ds vs S0 → Same Z0 Z → (∀ j d, ds[j]? = some d → (i + j) ∈ reb → d.plain = true) → Held reb σ i vs → (∀ j, i ≤ j → ρ1[j]? = ρ[j]?) → EnvR K Z H ρ1 σ S → argsBack reb ρ i ds = some as → RepL K Z H as vs S
  | [], [], as, i, S, S0, Z0, H0, ρ1, _, _, _, _, _, _, h => by
    simp only [argsBack, Option.some.injEq] at h
    subst h
    trivial
  | [], _ :: _, _, _, _, _, _, _, _, r, _, _, _, _, _, _ => r.elim
  | _ :: _, [], _, _, _, _, _, _, _, r, _, _, _, _, _, _ => r.elim
  | d :: ds, v :: vs, as, i, S, S0, Z0, H0, ρ1, ⟨S1, S2, s1, s2, sj, r, q⟩, zz, pl, ⟨hv, hh⟩, hρ, er, h => by
    simp only [argsBack] at h
    split at h
    · rename_i a as' h1 h2
      simp only [Option.some.injEq] at h
      subst h
      by_cases hp : (d.plain || decide (i ∈ reb)) = true
      · rw [if_pos hp, Option.some.injEq] at h1
        subst h1
        have hpl : d.plain = true := by
          cases e : d.plain with
          | true => rfl
          | false =>
            rw [e, Bool.false_or, decide_eq_true_eq] at hp
            have := pl 0 d rfl (by simpa using hp)
            rw [e] at this
            exact this
        have rp : Rep K Z H d v Fp0 := (Rep.plain (H' := H0) r hpl).move zz (fun _ _ x => x.elim) fun _ x => x
        exact ⟨Fp0, S, fun _ x => x.elim, fun _ x => x, fun _ x _ => x, rp, back_ok q zz (fun j d' e m => pl (j + 1) d' (by simpa using e) (by rw [show i + (j + 1) = i + 1 + j by omega]; exact m)) hh (fun j hj => hρ j (by omega)) er h2⟩
      · rw [if_neg hp] at h1
        have ni : i ∉ reb := fun m => hp (by rw [decide_eq_true m, Bool.or_true])
        have e1 : ρ1[i]? = some (some a) := by rw [hρ i (Nat.le_refl _)]; exact getD_some h1
        obtain ⟨u, T1, T2, hu, t1, t2, tj, ra, er2⟩ := er.take e1
        have eu : u = v := by
          have := hv ni
          rw [hu] at this
          simpa using this
        subst eu
        refine ⟨T1, T2, t1, t2, tj, ra, ?_⟩
        exact back_ok q zz (fun j d' e m => pl (j + 1) d' (by simpa using e) (by rw [show i + (j + 1) = i + 1 + j by omega]; exact m)) hh (fun j hj => by rw [List.getElem?_set_ne (by omega)]; exact hρ j (by omega)) er2 h2
    · cases h
def parA (n : Nat) (reb : List Nat) (j : Nat) : Bool := decide (j ∈ reb) || decide (n ≤ j)
theorem held_of {reb : List Nat} {n : Nat} : ∀ {vs : List V} {i : Nat} {σ0 : Sl}, Keep (parA n reb) σ0 σ → i + vs.length ≤ n → (∀ j v, vs[j]? = some v → σ0[i + j]? = some (some v)) → Held reb σ i vs
  | [], _, _, _, _, _ => trivial
  | v :: vs, i, σ0, k, l, h => ⟨fun m => by
      rw [k.1 i (by
        rw [List.length_cons] at l
        simp only [parA, Bool.or_eq_false_iff, decide_eq_false_iff_not]
        exact ⟨m, by omega⟩)]
      exact h 0 v rfl, held_of k (by rw [List.length_cons] at l; omega) fun j u e => by
      rw [show i + 1 + j = i + (j + 1) by omega]
      exact h (j + 1) u (by simpa using e)⟩
theorem start_get {N : List Str} {vs : List V} {j : Nat} {v : V} (h : vs[j]? = some v) : (start N vs)[j]? = some (some v) := by
  have hj : j < vs.length := (List.getElem?_eq_some_iff.mp h).1
  unfold L2.start
  rw [List.getElem?_append_left (by simpa using hj), List.getElem?_map, h]
  rfl
/-- a body's reading from what its function makes of the arguments -/
theorem body_in {n m : Nat} {reb : List Nat} {b : M Fl} {N : List Str} {vs : List V} {Q : VK} {E : XK} (hm : N.length = m) (hn : vs.length = n) (h : spG K mg (mkF n m reb b) vs H Q E) :
    tS K mg (fun cls d _ H => E cls d H) (parA n reb) b { nx := fun _ H' => Q .non H', rt := Q } (start N vs) H := by
  obtain ⟨Z, S, ds, w, r, o⟩ := h
  have hd : ds.length = n := r.length.trans hn
  unfold mkF at o
  by_cases hc : ds.length = n ∧ n ≤ m
  · rw [if_pos hc] at o
    have w0 : Wd Z H (fun a => S a ∨ Fp0 a) := w.less fun a x => x.elim id False.elim
    obtain ⟨Z1, S1, st, m1, r1⟩ := reFrz_ok (reb := reb) (i := 0) w0 (fun _ _ x => x) r
    have st' : Step Z H S Z1 H S1 := ⟨st.wd.less fun a x => .inl x, st.zz, fun _ _ _ e => e, fun a x => .inl (m1 a x), fun a o e => (st.znew a o e).elim .inl fun y => .inr (y.elim (fun z => z.elim .inl False.elim) .inr)⟩
    have er : EnvR K Z1 H ((reFrz reb 0 ds).map some ++ List.replicate (m - n) none) (start N vs) S1 := by
      have q := env_start (m - n) r1
      unfold L2.start
      rw [hm, hn]
      exact q
    refine ⟨Z1, _, S1, st'.wd, er, ?_⟩
    have back : ∀ {ρ' : Env} {as : List D} {σ' : Sl} {Z' H' : Hp} {S' : Fp}, Same Z1 Z' → Keep (parA n reb) (start N vs) σ' → EnvR K Z' H' ρ' σ' S' → argsBack reb ρ' 0 (reFrz reb 0 ds) = some as → RepL K Z' H' as vs S' := fun {ρ' as σ' Z' H' S'} zz kp er' ab =>
      back_ok r1 zz (fun j d e mm => reFrz_plain e mm) (held_of kp (by omega) fun j v e => by rw [Nat.zero_add]; exact start_get e) (fun _ _ => rfl) er' ab
    cases e1 : b ((reFrz reb 0 ds).map some ++ List.replicate (m - n) none) with
    | stuck => rw [e1] at o; exact o
    | exc x ρ' =>
      simp only [e1] at o
      cases e2 : argsBack reb ρ' 0 (reFrz reb 0 ds) with
      | none => rw [e2] at o; exact o.elim
      | some as =>
        simp only [e2] at o
        exact fun σ' kp cls dd Z' H' S' st2 er2 xr => o cls dd Z' H' S' (st'.trans st2) (back st2.zz kp er2 e2) xr
    | ok f ρ' =>
      simp only [e1] at o
      intro σ' v Z' H' S' Sd kp st2 dj er2 fr
      cases f with
      | bk => exact o.elim
      | ct => exact o.elim
      | nx =>
        simp only at o
        cases e2 : argsBack reb ρ' 0 (reFrz reb 0 ds) with
        | none => rw [e2] at o; exact o.elim
        | some as =>
          simp only [e2] at o
          exact o .non Z' H' S' Fp0 ((st'.trans st2).less fun a x => x.elim .inl False.elim) (fun _ _ x => x) (back st2.zz kp er2 e2) rfl
      | rt d =>
        simp only at o
        cases e2 : argsBack reb ρ' 0 (reFrz reb 0 ds) with
        | none => rw [e2] at o; exact o.elim
        | some as =>
          simp only [e2] at o
          exact o v Z' H' S' Sd (st'.trans st2) dj (back st2.zz kp er2 e2) fr
  · rw [if_neg hc] at o
    exact o.elim
end

/-! ### the rule for a def -/
section
variable {P : Program} {w : World} {K : PySem.W.Frag} {mg : Str → Option Value} {base : Heap}
/-- the context in which the body of a def at f runs -/
abbrev cxG (P : Program) (w : World) (K : PySem.W.Frag) (mg : Str → Option Value) (base : Heap) (N : List Str) (qual : Str) (sc : Scope) (f : Addr) (cdv : Value) (A : Around) (outer : List PySem.Env) (s : Shared) (H : Hp) (E : XK) : Cx :=
  cxOf (L2.CX P w) P w K mg base N qual sc f cdv A outer s H E
theorem fnG {x qual : Str} {st : Stmt} {f : Addr} {fd : FuncData} {N ps : List Str} {k m : Nat} {reb : List Nat} {b : M Fl} (F : Fun K x qual st f fd) (Sc : FnScope N ps (defScope st)) (hm : N.length = m)
    (body : ∀ (cdv : Value) (A : Around) (outer : List PySem.Env) (s : Shared) (H : Hp) (E : XK), A.guards = some [] → Room k (A.deeper (envOfC qual (defScope st) s.heap.objs.size f cdv)) →
      PSs (cxG P w K mg base N qual (defScope st) f cdv A outer s H E) (defBody st) (tS K mg (fun cls d _ H => E cls d H) (parA ps.length reb) b)) :
    FnG P w K mg base (k + 1) f fd ps (mkF ps.length m reb b) := by
  obtain ⟨oc, od, kV, doc, pm, an, cdv, ct, osl, rfl, lk, hcd⟩ := F.ex
  refine ⟨mkF_len, fun A outer s H args us vs Q E hgd hr e0 hb r hsp => ?_⟩
  have hl : vs.length = ps.length := spG_len mkF_len hsp
  have KX : K.In s.heap := e0.mod.kin.keeps fun b o e => (e0.bs b o e).1
  have lim : s.heap.NoLimit := e0.mod.nolimit.keeps fun b o e => (e0.bs b o e).1
  refine codeAny_call_function hr.depth (KX _ _ lk) rfl Sc.co Sc.gen rfl (PySem.W.codeRec_of KX hcd) (hb _ _ _ _ ?_)
  refine wpAny_newFunctionEnv_cells Sc.kind (fun y hy => ?_) fun env he s1 z => ?_
  · rcases Sc.par y.1 (List.of_mem_zip (a := y.1) (b := y.2) hy).1 with q | q
    · exact .inl q
    · exact .inr ⟨q, PySem.W.cellsFrom_some _ _ _ (.inl q)⟩
  · subst he
    refine ⟨lim.keeps z.toInCall.keep, codeAny_func ?_⟩
    have ht := body cdv A outer s H E hgd (hr.deeper _)
    have I : Inv (cxG P w K mg base N qual (defScope st) f cdv A outer s H E) [] (start N vs) H s1 := inv_start Sc hr.hd e0 hl r z
    refine wpAny_mono (ht.run [] s1 (start N vs) H _ I (body_in hm hl hsp)) (fun fl s' hs => ?_) fun _ _ hs => hs
    cases fl with
    | ret u =>
      obtain ⟨v, σ', H', J, rv, q⟩ := hs
      exact ⟨v, H', J.os, J.bare, J.base, J.hok, rv, q⟩
    | next =>
      obtain ⟨σ', H', J, q⟩ := hs
      exact ⟨V.non, H', J.os, J.bare, J.base, J.hok, rfl, q⟩
    | brk =>
      obtain ⟨_, _, _, q⟩ := hs
      exact q.elim
    | cont =>
      obtain ⟨_, _, _, q⟩ := hs
      exact q.elim
end
end Pm
/-! PmF: calls of defs, the law's end. -/
namespace Pm
open PySem PySem.Spec PyProof.Rows L2
def takes (ρ : Env) : List EV → Option (List D × Env)
  | [] => some ([], ρ)
  | .val d :: es => match takes ρ es with
    | some (ds, ρ') => some (d :: ds, ρ')
    | none => none
  | .ref i :: es => match ρ.getD i none with
    | none => none
    | some d => match takes (if d.plain then ρ else ρ.set i none) es with
      | some (ds, ρ') => some (d :: ds, ρ')
      | none => none
def puts : List EV → List D → List D → Env → Env
  | .ref i :: es, d :: ds, a :: as, ρ => puts es ds as (if d.plain then ρ else ρ.set i (some a))
  | .val _ :: es, _ :: ds, _ :: as, ρ => puts es ds as ρ
  | _, _, _, ρ => ρ
def callF (g : FSem) (fs : M (List EV)) : M EV := bnd fs fun es => fun ρ => match takes ρ es with
  | none => .stuck
  | some (ds, ρ1) => match g ds with
    | .stuck => .stuck
    | .ret d as => .ok (.val d) (puts es ds as ρ1)
    | .exc x as => .exc x (puts es ds as ρ1)
section
variable {K : PySem.W.Frag} {mg : Str → Option Value} {W : WX} {Z H : Hp} {S : Fp} {σ : Sl} {X : Cx}
theorem takes_ok : ∀ {es : List EV} {vs : List V} {ds : List D} {ρ ρ' : Env} {S Sa : Fp}, EnvR K Z H ρ σ S → EVsR K Z H σ es vs Sa → (∀ a, S a → Sa a → False) → takes ρ es = some (ds, ρ') →
    ∃ S1 T, (∀ a, S1 a → S a) ∧ (∀ a, T a → S a ∨ Sa a) ∧ (∀ a, S1 a → T a → False) ∧ EnvR K Z H ρ' σ S1 ∧ RepL K Z H ds vs T
  | [], [], ds, ρ, ρ', S, Sa, er, _, dj, h => by
    simp only [takes, Option.some.injEq, Prod.mk.injEq] at h
    obtain ⟨rfl, rfl⟩ := h
    exact ⟨S, Fp0, fun _ x => x, fun _ x => x.elim, fun _ _ x => x, er, trivial⟩
  | [], _ :: _, _, _, _, _, _, _, r, _, _ => r.elim
  | _ :: _, [], _, _, _, _, _, _, r, _, _ => r.elim
  | .val d :: es, v :: vs, ds, ρ, ρ', S, Sa, er, ⟨A1, A2, a1, a2, aj, r, q⟩, dj, h => by
    simp only [takes] at h
    cases e : takes ρ es with
    | none => rw [e] at h; cases h
    | some p =>
      obtain ⟨ds', ρ1⟩ := p
      simp only [e, Option.some.injEq, Prod.mk.injEq] at h
      obtain ⟨rfl, rfl⟩ := h
      obtain ⟨S1, T, m1, m2, tj, er1, rl⟩ := takes_ok er q (fun a x y => dj a x (a2 a y)) e
      refine ⟨S1, fun a => A1 a ∨ T a, m1, fun a x => x.elim (fun y => .inr (a1 a y)) fun y => (m2 a y).elim .inl fun z => .inr (a2 a z), fun a x y => y.elim (fun z => dj a (m1 a x) (a1 a z)) (tj a x), er1, ?_⟩
      refine ⟨A1, T, fun a x => .inl x, fun a x => .inr x, fun a x y => (m2 a y).elim (fun z => dj a z (a1 a x)) fun z => aj a x z, r, rl⟩
  | .ref i :: es, v :: vs, ds, ρ, ρ', S, Sa, er, ⟨A1, A2, a1, a2, aj, r, q⟩, dj, h => by
    simp only [takes] at h
    cases e0 : ρ.getD i none with
    | none => simp only [e0] at h; cases h
    | some d =>
      simp only [e0] at h
      obtain ⟨u, U1, U2, hu, u1, u2, uj, ru, eu⟩ := er.take (getD_some e0)
      have ev : u = v := by
        have r' : σ[i]? = some (some v) := r
        rw [hu] at r'
        simpa using r'
      subst ev
      cases hp : d.plain with
      | true =>
        simp only [hp, if_true] at h
        cases e : takes ρ es with
        | none => rw [e] at h; cases h
        | some p =>
          obtain ⟨ds', ρ1⟩ := p
          simp only [e, Option.some.injEq, Prod.mk.injEq] at h
          obtain ⟨rfl, rfl⟩ := h
          obtain ⟨S1, T, m1, m2, tj, er1, rl⟩ := takes_ok er q (fun a x y => dj a x (a2 a y)) e
          exact ⟨S1, T, m1, fun a x => (m2 a x).elim .inl fun z => .inr (a2 a z), tj, er1, Fp0, T, fun _ x => x.elim, fun _ x => x, fun _ x _ => x, ru.plain hp, rl⟩
      | false =>
        simp only [hp, Bool.false_eq_true, if_false] at h
        cases e : takes (ρ.set i none) es with
        | none => rw [e] at h; cases h
        | some p =>
          obtain ⟨ds', ρ1⟩ := p
          simp only [e, Option.some.injEq, Prod.mk.injEq] at h
          obtain ⟨rfl, rfl⟩ := h
          obtain ⟨S1, T, m1, m2, tj, er1, rl⟩ := takes_ok eu q (fun a x y => dj a (u2 a x) (a2 a y)) e
          refine ⟨S1, fun a => U1 a ∨ T a, fun a x => u2 a (m1 a x), fun a x => x.elim (fun y => .inl (u1 a y)) fun y => (m2 a y).elim (fun z => .inl (u2 a z)) fun z => .inr (a2 a z), fun a x y => y.elim (fun z => uj a z (m1 a x)) (tj a x), er1, ?_⟩
          exact ⟨U1, T, fun a x => .inl x, fun a x => .inr x, fun a x y => (m2 a y).elim (fun z => uj a x z) fun z => dj a (u1 a x) (a2 a z), ru, rl⟩
theorem puts_ok : ∀ {es : List EV} {vs : List V} {ds as : List D} {ρ : Env} {Z0 H0 : Hp} {S S0 T : Fp}, EnvR K Z H ρ σ S → EVsR K Z0 H0 σ es vs S0 → RepL K Z H as vs T → (∀ a, S a → T a → False) → EnvR K Z H (puts es ds as ρ) σ (fun a => S a ∨ T a)
  | [], _, ds, as, ρ, _, _, S, _, T, er, _, _, _ => by
    unfold puts
    exact er.move (Same.refl Z) (fun _ _ _ x => x) fun a x => .inl x
  | _ :: _, [], _, _, _, _, _, _, _, _, _, r, _, _ => r.elim
  | e :: es, v :: vs, [], as, ρ, _, _, S, _, T, er, _, _, _ => by
    have q : puts (e :: es) [] as ρ = ρ := by cases e <;> rfl
    rw [q]
    exact er.move (Same.refl Z) (fun _ _ _ x => x) fun a x => .inl x
  | e :: es, v :: vs, d :: ds, [], ρ, _, _, S, _, T, er, _, rl, _ => rl.elim
  | .val d' :: es, v :: vs, d :: ds, a' :: as, ρ, Z0, H0, S, S0, T, er, ⟨A1, A2, _, _, _, r, q⟩, ⟨T1, T2, t1, t2, tj, ra, rl⟩, dj =>
    (puts_ok (ds := ds) er q rl fun a x y => dj a x (t2 a y)).move (Same.refl Z) (fun _ _ _ x => x) fun a x => x.elim .inl fun y => .inr (t2 a y)
  | .ref i :: es, v :: vs, d :: ds, a' :: as, ρ, Z0, H0, S, S0, T, er, ⟨A1, A2, _, _, _, r, q⟩, ⟨T1, T2, t1, t2, tj, ra, rl⟩, dj => by
    unfold puts
    cases hp : d.plain with
    | true =>
      rw [if_pos rfl]
      exact (puts_ok (ds := ds) er q rl fun a x y => dj a x (t2 a y)).move (Same.refl Z) (fun _ _ _ x => x) fun a x => x.elim .inl fun y => .inr (t2 a y)
    | false =>
      rw [if_neg Bool.false_ne_true]
      have r' : σ[i]? = some (some v) := r
      obtain ⟨hi, e1⟩ := List.getElem?_eq_some_iff.mp r'
      have er2 : EnvR K Z H (ρ.set i (some a')) σ (fun a => S a ∨ T1 a) := by
        have p := EnvR.put (S := fun a => S a ∨ T1 a) (er.drop i) (by rw [er.length]; exact hi) ra (fun a x => .inr x) (fun a x => .inl x) fun a x y => dj a y (t1 a x)
        have es' : σ.set i (some v) = σ := by rw [← e1, List.set_getElem_self]
        rw [es'] at p
        exact p
      exact (puts_ok (ds := ds) er2 q rl fun a x y => x.elim (fun z => dj a z (t2 a y)) fun z => tj a z y).move (Same.refl Z) (fun _ _ _ x => x) fun a x => x.elim (fun y => y.elim .inl fun z => .inr (t1 a z)) fun y => .inr (t2 a y)
theorem tE_call {g : FSem} {fs : M (List EV)} {Q : VK} (h : tE K mg W (callF g fs) σ H Q) : tA K mg W fs σ H fun vs H1 => spG K mg g vs H1 Q (fun cls d H => W cls d σ H) := by
  obtain ⟨Z, ρ, S, w, er, o⟩ := h
  refine ⟨Z, ρ, S, w, er, ?_⟩
  simp only [callF, bnd] at o
  cases e1 : fs ρ with
  | stuck => rw [e1] at o; exact o
  | exc x ρ1 => rw [e1] at o; exact o
  | ok es ρ1 =>
    simp only [e1] at o
    intro vs Z1 H1 S1 Sa st1 dj1 er1 r1
    cases e2 : takes ρ1 es with
    | none => simp only [e2] at o; exact o.elim
    | some p =>
      obtain ⟨ds, ρ2⟩ := p
      simp only [e2] at o
      obtain ⟨S2, T, m1, m2, tj, er2, rl⟩ := takes_ok er1 r1 dj1 e2
      have w2 : Wd Z1 H1 (fun a => T a ∨ S2 a) := st1.wd.less fun a x => x.elim (m2 a) fun y => .inl (m1 a y)
      have st1' : Step Z H S Z1 H1 (fun a => T a ∨ S2 a) := st1.less fun a x => x.elim (m2 a) fun y => .inl (m1 a y)
      refine ⟨Z1, T, ds, w2.less fun a x => .inl x, rl, ?_⟩
      cases e3 : g ds with
      | stuck => simp only [e3] at o; exact o
      | ret d as =>
        simp only [e3] at o
        intro v Z3 H3 S3 Sd st3 dj3 ra rd
        have st3' := st3.frame w2 fun a x y => tj a y x
        have ap := st3.apart (fun a x => w2.dom a (.inr x)) fun a x y => tj a y x
        have er3 : EnvR K Z3 H3 ρ2 σ S2 := st3.stayE (fun a x y => tj a y x) er2
        have er4 := puts_ok (ds := ds) er3 r1 ra fun a x y => ap a (.inl y) x
        exact o v Z3 H3 (fun a => S2 a ∨ S3 a) Sd ((st1'.trans st3').less fun a x => x.elim (fun y => y.elim .inr fun z => .inl (.inl z)) fun y => .inl (.inr y)) (fun a x y => x.elim (fun z => ap a (.inr y) z) fun z => dj3 a z y) er4 rd
      | exc x as =>
        simp only [e3] at o
        intro cls dd Z3 H3 S3 st3 ra xr
        have st3' := st3.frame w2 fun a x y => tj a y x
        have ap := st3.apart (fun a x => w2.dom a (.inr x)) fun a x y => tj a y x
        have er3 : EnvR K Z3 H3 ρ2 σ S2 := st3.stayE (fun a x y => tj a y x) er2
        have er4 := puts_ok (ds := ds) er3 r1 ra fun a x y => ap a y x
        exact o cls dd Z3 H3 (fun a => S2 a ∨ S3 a) ((st1'.trans st3').less fun a x => x.elim .inr .inl) er4 xr
/-- a def of the module, called by its place -/
theorem run_G {k : Nat} {f : Addr} {fd : FuncData} {ps : List Str} {g : FSem} {pins : List (Addr × Obj)} {s : Shared} {Q : VK} {us : List Value} {kws : List (Str × Value)} {ws : List Value} {vs : List V} (F : FnG X.prog X.w X.K X.mg X.base k f fd ps g) (hgd : X.A.guards = some []) (hr : Room k X.A)
    (tk : Takes X W) (hb : ws.length = ps.length → BindsTo s fd ⟨us, kws⟩ (ps.zip ws)) (I : Inv X pins σ H s) (r : Vals vs ws) (h : spG X.K X.mg g vs H Q (fun cls d H => W cls d σ H)) :
    codeAny (model X.prog X.w) X.A (.call (.ref f) ⟨us, kws⟩) (fun r s' => match r with
      | .ok (.ret u) => EP X pins σ Q u s'
      | .ok _ => False
      | .error e => X.xe e s') s := by
  have hl : ws.length = ps.length := by rw [← r.length]; exact spG_len F.len h
  refine codeAny_mono (F.run X.A X.stack s H ⟨us, kws⟩ ws vs Q _ hgd hr I.env0 (hb hl) r h) fun r s' hq => ?_
  cases r with
  | error e => exact passAt tk σ pins H s e s' I hq
  | ok fl =>
    cases fl with
    | ret u => exact I.after hq
    | next => exact hq.elim
    | brk => exact hq.elim
    | cont => exact hq.elim
theorem pe_callG {k : Nat} {f : Addr} {fd : FuncData} {ps : List Str} {g : FSem} {x : Str} {p pos : Pos} {e : Expr} {es : List Expr} {fs : M (List EV)} (F : FnG X.prog X.w X.K X.mg X.base k f fd ps g) (hgd : X.A.guards = some []) (hr : Room k X.A) (tk : Takes X W)
    (hg : Gl X x) (hm : X.mg x = some (.ref f)) (hk : PySem.W.keepIn X.K (.ref f) = true) (hb : Binds X.K fd ps []) (ha : PA X (e :: es) (tA X.K X.mg W fs)) (hdb : (x == ("__debug__" : Str)) = false)
    (he : starEach (e :: es) X.env = (false, eval e X.env) :: starEach es X.env) (hpl : (backTo pos (starEach es X.env)).any (·.1) = false) : PE X (.Call (.Name x p) (e :: es) [] pos) (tE X.K X.mg W (callF g fs)) := by
  refine ⟨fun pins s σ H Q I h => ?_⟩
  refine wpAny_Call_Name_kw (ld_glob I hg hm ?_ hdb)
  refine PySem.W.callWith_K (h₀ := X.base) I.ok.mod.kin hk (thn (ha.run pos pins s σ H _ I (tE_call h)) fun us s1 ⟨vs, H1, I1, r, q⟩ => ⟨I1.kIn, ?_⟩) he hpl
  refine wpAny_call (codeAny_mono (run_G (ws := us) F hgd hr tk (fun hl => by have b := hb s1 us I1.kIn (by rw [List.append_nil]; exact hl); rw [List.append_nil] at b; exact b) I1 r q) fun r s' hq => ?_)
  cases r with
  | error e => exact hq
  | ok fl =>
    cases fl with
    | ret u => exact hq
    | next => exact hq.elim
    | brk => exact hq.elim
    | cont => exact hq.elim
theorem pe_callG0 {k : Nat} {f : Addr} {fd : FuncData} {ps : List Str} {g : FSem} {x : Str} {p pos : Pos} (F : FnG X.prog X.w X.K X.mg X.base k f fd ps g) (hgd : X.A.guards = some []) (hr : Room k X.A) (tk : Takes X W)
    (hg : Gl X x) (hm : X.mg x = some (.ref f)) (hk : PySem.W.keepIn X.K (.ref f) = true) (hb : Binds X.K fd ps []) (hdb : (x == ("__debug__" : Str)) = false) : PE X (.Call (.Name x p) [] [] pos) (tE X.K X.mg W (callF g aNil)) := by
  refine ⟨fun pins s σ H Q I h => ?_⟩
  refine wpAny_Call_Name_kw (ld_glob I hg hm ?_ hdb)
  have q : spG X.K X.mg g [] H Q _ := tA_nil (tE_call h)
  refine PySem.W.callWith_K0 I.kIn hk (wpAny_call (codeAny_mono (run_G (us := []) (kws := []) (ws := []) F hgd hr tk (fun hl => by have b := hb s [] I.kIn hl; exact b) I .nil q) fun r s' hq => ?_))
  cases r with
  | error e => exact hq
  | ok fl =>
    cases fl with
    | ret u => exact hq
    | next => exact hq.elim
    | brk => exact hq.elim
    | cont => exact hq.elim
end
end Pm
/-! PmH: operators and built-ins upon data. -/
namespace Pm
open PySem PySem.Spec PyProof.Rows L2
section
variable {K : PySem.W.Frag} {mg : Str → Option Value} {W : WX} {Z H : Hp} {S : Fp} {σ : Sl} {X : Cx}
theorem tE_mono {f : M EV} {Q Q' : VK} (i : ∀ v H, Q v H → Q' v H) (h : tE K mg W f σ H Q) : tE K mg W f σ H Q' := by
  obtain ⟨Z, ρ, S, w, er, o⟩ := h
  refine ⟨Z, ρ, S, w, er, ?_⟩
  cases e : f ρ with
  | stuck => rw [e] at o; exact o
  | exc x ρ1 => rw [e] at o; exact o
  | ok ev ρ1 =>
    rw [e] at o
    exact fun v Z' H' S' Sd st dj er r => i _ _ (o v Z' H' S' Sd st dj er r)
def Opd (X : Cx) (f : Value → Value → Sem Value) (g : List D → Option D) : Prop := ∃ r : R2, OpR X f r ∧ Snd X (fun vs H Q => ∃ x y, vs = [x, y] ∧ r x y H Q) g
theorem two_of {fa fb : M EV} {r : R2} {Q : VK} (h : tA K mg W (aCons fa (aCons fb aNil)) σ H fun vs H1 => ∃ x y, vs = [x, y] ∧ r x y H1 Q) : tOp r (tE K mg W fa) (tE K mg W fb) σ H Q := by
  refine tE_mono (fun x H1 q => ?_) (tA_cons h)
  refine tE_mono (fun y H2 q => ?_) (tA_cons q)
  have q' := tA_nil q
  obtain ⟨x', y', e, q''⟩ := q'
  cases e
  exact q''
abbrev bin (g : List D → Option D) (fa fb : M EV) : M EV := app g (aCons fa (aCons fb aNil))
abbrev un (g : List D → Option D) (fa : M EV) : M EV := app g (aCons fa aNil)
theorem pe_bin {a b : Expr} {op : Operator} {fa fb : M EV} {g : List D → Option D} {pos : Pos} (ho : Opd X (binaryOp op) g) (ha : PE X a (tE X.K X.mg W fa)) (hb : PE X b (tE X.K X.mg W fb)) : PE X (.BinOp a op b pos) (tE X.K X.mg W (bin g fa fb)) := by
  obtain ⟨r, h1, h2⟩ := ho
  exact PE.of (pe_op h1 ha hb) fun σ H Q q => two_of (tE_app h2 q)
theorem pe_cmpG {a b : Expr} {op : CmpOp} {fa fb : M EV} {g : List D → Option D} {pos : Pos} (ho : Opd X (compareOp op) g) (ha : PE X a (tE X.K X.mg W fa)) (hb : PE X b (tE X.K X.mg W fb)) (hm : behindInMarks op b = false) : PE X (.Compare a [op] [b] pos) (tE X.K X.mg W (bin g fa fb)) := by
  obtain ⟨r, h1, h2⟩ := ho
  exact PE.of (pe_cmpR h1 ha hb hm) fun σ H Q q => two_of (tE_app h2 q)
theorem pt_cmpG {a b : Expr} {op : CmpOp} {fa fb : M EV} {g : List D → Option D} {pos : Pos} (ho : Opd X (compareOp op) g) (ha : PE X a (tE X.K X.mg W fa)) (hb : PE X b (tE X.K X.mg W fb)) (hm : behindInMarks op b = false) : PT X (.Compare a [op] [b] pos) (tT X.K X.mg W (tst (bin g fa fb))) := by
  obtain ⟨r, h1, h2⟩ := ho
  refine PT.of (pt_cmpR h1 ha hb hm) fun σ H Q q => ?_
  exact two_of (r := r) (tE_app h2 (tT_tst q))
theorem Opd.or {f : Value → Value → Sem Value} {g1 g2 g : List D → Option D} (h1 : Opd X f g1) (h2 : Opd X f g2) (hg : ∀ ds d, g ds = some d → g1 ds = some d ∨ g2 ds = some d) : Opd X f g := by
  obtain ⟨r1, a1, b1⟩ := h1
  obtain ⟨r2, a2, b2⟩ := h2
  refine ⟨_, OpR.or a1 a2, fun Z H S ds vs d Q w r e k => ?_⟩
  rcases hg ds d e with e | e
  · obtain ⟨x, y, ev, q⟩ := b1 Z H S ds vs d Q w r e k
    exact ⟨x, y, ev, .inl q⟩
  · obtain ⟨x, y, ev, q⟩ := b2 Z H S ds vs d Q w r e k
    exact ⟨x, y, ev, .inr q⟩
/-- nothing is made -/
theorem snd_pure {r : List V → Hp → VK → Prop} {g : List D → Option D} (h : ∀ (Z H : Hp) (S : Fp) (ds : List D) (vs : List V) (d : D) (Q : VK), Wd Z H S → RepB X.K Z H S ds vs → g ds = some d → (∀ v, Rep X.K Z H d v Fp0 → Q v H) → r vs H Q) : Snd X r g :=
  fun Z H S ds vs d Q w rb e k => h Z H S ds vs d Q w rb e fun v rv => k v Z H Fp0 w.nil (fun _ _ e => e) (fun _ _ x => x) rv
/-! ### shapes of arguments -/
theorem rb1 {d : D} {vs : List V} (h : RepB K Z H S [d] vs) : ∃ v, vs = [v] ∧ Rep K Z H d v S := by
  cases vs with
  | nil => exact h.elim
  | cons v vs =>
    cases vs with
    | nil => exact ⟨v, rfl, h.1⟩
    | cons u us => exact h.2.elim
theorem rb2 {d e : D} {vs : List V} (h : RepB K Z H S [d, e] vs) : ∃ v u, vs = [v, u] ∧ Rep K Z H d v S ∧ Rep K Z H e u S := by
  cases vs with
  | nil => exact h.elim
  | cons v vs =>
    obtain ⟨u, rfl, r⟩ := rb1 h.2
    exact ⟨v, u, rfl, h.1, r⟩
/-- two ints -/
def on2I (g : Int → Int → Option D) : List D → Option D
  | [.int i, .int j] => g i j
  | _ => none
theorem on2I_inv {g : Int → Int → Option D} {ds : List D} {d : D} (h : on2I g ds = some d) : ∃ i j, ds = [.int i, .int j] ∧ g i j = some d := by
  unfold on2I at h
  split at h
  · exact ⟨_, _, rfl, h⟩
  · cases h
theorem opd_I {f : Value → Value → Sem Value} {C : Int → Int → Prop} {hv : Int → Int → V} {g : Int → Int → Option D} (ho : OpR X f (rI C hv)) (hg : ∀ i j d, g i j = some d → C i j ∧ ∀ Z H, Rep X.K Z H d (hv i j) Fp0) : Opd X f (on2I g) := by
  refine ⟨_, ho, snd_pure fun Z H S ds vs d Q w rb e k => ?_⟩
  obtain ⟨i, j, rfl, eg⟩ := on2I_inv e
  obtain ⟨v, u, rfl, rv, ru⟩ := rb2 rb
  obtain ⟨c, rd⟩ := hg i j d eg
  exact ⟨v, u, rfl, i, j, rv, ru, c, k _ (rd Z H)⟩
theorem opd_I0 {f : Value → Value → Sem Value} {hv : Int → Int → V} {g : Int → Int → Option D} (ho : OpR X f (rI0 hv)) (hg : ∀ i j d, g i j = some d → ∀ Z H, Rep X.K Z H d (hv i j) Fp0) : Opd X f (on2I g) := by
  refine ⟨_, ho, snd_pure fun Z H S ds vs d Q w rb e k => ?_⟩
  obtain ⟨i, j, rfl, eg⟩ := on2I_inv e
  obtain ⟨v, u, rfl, rv, ru⟩ := rb2 rb
  exact ⟨v, u, rfl, i, j, rv, ru, k _ (hg i j d eg Z H)⟩
/-! ### numbers -/
def mulOk (i j : Int) : Bool := decide (i.natAbs < 2 ^ 64 ∨ j.natAbs < 2 ^ 64 ∨ i.natAbs.log2 + j.natAbs.log2 < 1000000)
def divOk (j : Int) : Bool := decide (j.natAbs.log2 < 9000)
def powOk (i j : Int) : Bool := decide (0 ≤ j ∧ j ≤ 1000000 ∧ i.natAbs < 2 ^ 64)
def iDiv (i j : Int) : Option D := if 0 < j then (if divOk j = true then some (.int (i / j)) else none) else if j < 0 then (if divOk j = true then some (.int (i.fdiv j)) else none) else none
def iMod (i j : Int) : Option D := if 0 < j then some (.int (i % j)) else if j < 0 then some (.int (i.fmod j)) else none
def iMul (i j : Int) : Option D := if mulOk i j = true then some (.int (i * j)) else none
def iPow (i j : Int) : Option D := if powOk i j = true then some (.int (i ^ j.toNat)) else none
def CDivA (i j : Int) : Prop := j ≠ 0 ∧ j.natAbs.log2 < 9000
theorem op_fdivA : OpR X (binaryOp .FloorDiv) (rI CDivA fun i j => .int (i.fdiv j)) := opI fun _ _ _ _ _ _ _ hc q => floordiv_int hc.1 q (.inl (PyProof.noPylong_of_log2 hc.2))
theorem iop_fdivA : OpR X (inplaceOp .FloorDiv) (rI CDivA fun i j => .int (i.fdiv j)) := opI fun _ _ _ _ _ _ _ hc q => ifloordiv_int hc.1 q (.inl (PyProof.noPylong_of_log2 hc.2))
theorem iop_modA : OpR X (inplaceOp .Mod) (rI (fun _ j => j ≠ 0) fun i j => .int (i.fmod j)) := opI fun _ _ _ _ _ _ _ hc q => imod_int hc q
theorem mulOk_ok {i j : Int} (h : mulOk i j = true) : IntMulOk i j := by
  have h' := of_decide_eq_true h
  rcases h' with h' | h' | h'
  · exact .of_left (intBits_le_64 (by omega) (by omega))
  · exact .of_right (intBits_le_64 (by omega) (by omega))
  · exact CMulW.ok h'
theorem op_mulA : OpR X (binaryOp .Mult) (rI IntMulOk fun i j => .int (i * j)) := opI fun _ _ _ _ _ _ _ hc q => mul_int q hc
theorem iop_mulA : OpR X (inplaceOp .Mult) (rI IntMulOk fun i j => .int (i * j)) := opI fun _ _ _ _ _ _ _ hc q => imul_int q hc
theorem iDiv_ok {i j : Int} {d : D} (h : iDiv i j = some d) : CDivA i j ∧ d = .int (i.fdiv j) := by
  unfold iDiv at h
  split at h
  · split at h
    · rename_i hj hd
      refine ⟨⟨by omega, of_decide_eq_true hd⟩, ?_⟩
      rw [Int.fdiv_eq_ediv_of_nonneg i (by omega)]
      exact (Option.some.inj h).symm
    · cases h
  · split at h
    · split at h
      · rename_i hj hd
        exact ⟨⟨by omega, of_decide_eq_true hd⟩, (Option.some.inj h).symm⟩
      · cases h
    · cases h
theorem iMod_ok {i j : Int} {d : D} (h : iMod i j = some d) : j ≠ 0 ∧ d = .int (i.fmod j) := by
  unfold iMod at h
  split at h
  · refine ⟨by omega, ?_⟩
    rw [Int.fmod_eq_emod_of_nonneg i (by omega)]
    exact (Option.some.inj h).symm
  · split at h
    · exact ⟨by omega, (Option.some.inj h).symm⟩
    · cases h
theorem iMul_ok {i j : Int} {d : D} (h : iMul i j = some d) : IntMulOk i j ∧ d = .int (i * j) := by
  unfold iMul at h
  split at h
  · rename_i c
    exact ⟨mulOk_ok c, (Option.some.inj h).symm⟩
  · cases h
theorem opd_divI : Opd X (binaryOp .FloorDiv) (on2I iDiv) := opd_I op_fdivA fun i j d h => ⟨(iDiv_ok h).1, fun Z H => by rw [(iDiv_ok h).2]; rfl⟩
theorem opd_modI : Opd X (binaryOp .Mod) (on2I iMod) := opd_I op_modN fun i j d h => ⟨(iMod_ok h).1, fun Z H => by rw [(iMod_ok h).2]; rfl⟩
theorem opd_mulI : Opd X (binaryOp .Mult) (on2I iMul) := opd_I op_mulA fun i j d h => ⟨(iMul_ok h).1, fun Z H => by rw [(iMul_ok h).2]; rfl⟩
theorem opd_powI : Opd X (binaryOp .Pow) (on2I iPow) := opd_I op_pow fun i j d h => by
  unfold iPow at h
  split at h
  · rename_i c
    refine ⟨show 0 ≤ j ∧ j ≤ 1000000 ∧ i.natAbs < 2 ^ 64 from of_decide_eq_true c, fun Z H => ?_⟩
    rw [← Option.some.inj h]
    rfl
  · cases h
def iAdd (i j : Int) : Option D := some (.int (i + j))
def iSub (i j : Int) : Option D := some (.int (i - j))
theorem opd_addI : Opd X (binaryOp .Add) (on2I iAdd) := opd_I0 op_add fun i j d h Z H => by rw [← Option.some.inj h]; rfl
theorem opd_subI : Opd X (binaryOp .Sub) (on2I iSub) := opd_I0 op_sub fun i j d h Z H => by rw [← Option.some.inj h]; rfl
theorem iopd_addI : Opd X (inplaceOp .Add) (on2I iAdd) := opd_I0 iop_add fun i j d h Z H => by rw [← Option.some.inj h]; rfl
theorem iopd_subI : Opd X (inplaceOp .Sub) (on2I iSub) := opd_I0 iop_sub fun i j d h Z H => by rw [← Option.some.inj h]; rfl
theorem iopd_divI : Opd X (inplaceOp .FloorDiv) (on2I iDiv) := opd_I iop_fdivA fun i j d h => ⟨(iDiv_ok h).1, fun Z H => by rw [(iDiv_ok h).2]; rfl⟩
theorem iopd_modI : Opd X (inplaceOp .Mod) (on2I iMod) := opd_I iop_modA fun i j d h => ⟨(iMod_ok h).1, fun Z H => by rw [(iMod_ok h).2]; rfl⟩
theorem iopd_mulI : Opd X (inplaceOp .Mult) (on2I iMul) := opd_I iop_mulA fun i j d h => ⟨(iMul_ok h).1, fun Z H => by rw [(iMul_ok h).2]; rfl⟩
def iLt (i j : Int) : Option D := some (.bl (decide (i < j)))
def iLe (i j : Int) : Option D := some (.bl (decide (i ≤ j)))
def iGt (i j : Int) : Option D := some (.bl (decide (j < i)))
def iGe (i j : Int) : Option D := some (.bl (decide (j ≤ i)))
theorem opd_ltI : Opd X (compareOp .Lt) (on2I iLt) := opd_I0 op_lt fun i j d h Z H => by rw [← Option.some.inj h]; rfl
theorem opd_leI : Opd X (compareOp .LtE) (on2I iLe) := opd_I0 op_le fun i j d h Z H => by rw [← Option.some.inj h]; rfl
theorem opd_gtI : Opd X (compareOp .Gt) (on2I iGt) := opd_I0 op_gt fun i j d h Z H => by rw [← Option.some.inj h]; rfl
theorem opd_geI : Opd X (compareOp .GtE) (on2I iGe) := opd_I0 op_ge fun i j d h Z H => by rw [← Option.some.inj h]; rfl
end
end Pm
/-! PmI: equality, membership, sequences, texts, repr upon data. -/
namespace Pm
open PySem PySem.Spec PyProof.Rows L2
/-! ### data without ownership -/
mutual
def toP : D → PyData
  | .non => .none
  | .bl b => .bool b
  | .int i => .int i
  | .str x => .str x
  | .op _ => .none
  | .node _ .lst xs => .list (toPL xs)
  | .node _ .tup xs => .tuple (toPL xs)
  | .node _ _ _ => .none
def toPL : List D → List PyData
  | [] => []
  | d :: ds => toP d :: toPL ds
end
mutual
def deq : D → D → Bool
  | .non, .non => true
  | .bl a, .bl b => a == b
  | .bl a, .int j => (if a then 1 else 0) == j
  | .int i, .bl b => i == (if b then 1 else 0)
  | .int i, .int j => i == j
  | .str x, .str y => x == y
  | .node _ .lst xs, .node _ .lst ys => deqL xs ys
  | .node _ .tup xs, .node _ .tup ys => deqL xs ys
  | _, _ => false
def deqL : List D → List D → Bool
  | [], [] => true
  | x :: xs, y :: ys => deq x y && deqL xs ys
  | _, _ => false
end
/-- data that are compared and shown: at most n deep, numbers of less than 1900 bits if they are to be shown -/
def shp : Nat → D → Bool
  | _, .non => true
  | _, .bl _ => true
  | _, .int _ => true
  | _, .str x => PyData.strOk x
  | n + 1, .node _ .lst xs => xs.all (shp n)
  | n + 1, .node _ .tup xs => xs.all (shp n)
  | _, _ => false
def shw : Nat → D → Bool
  | _, .non => true
  | _, .bl _ => true
  | _, .int i => decide (i.natAbs.log2 < 1900)
  | _, .str _ => true
  | n + 1, .node _ .lst xs => xs.all (shw n)
  | n + 1, .node _ .tup xs => xs.all (shw n)
  | _, _ => false
section
variable {K : PySem.W.Frag} {mg : Str → Option Value} {W : WX} {Z H : Hp} {S : Fp} {σ : Sl} {X : Cx}
theorem rep_lst {b : Bool} {ds : List D} {v : V} (w : Same Z H) (r : Rep K Z H (.node b .lst ds) v S) : ∃ a ys, v = .ref a ∧ H a = some (.lst ys) ∧ RepL K Z H ds ys S := by
  cases b with
  | false =>
    obtain ⟨a, ys, e, c, q⟩ := r
    exact ⟨a, ys, e, w _ _ c, q⟩
  | true =>
    obtain ⟨a, ys, S', e, c, sa, na, sub, q⟩ := r
    exact ⟨a, ys, e, c, q.move (Same.refl Z) (fun _ _ _ x => x) sub⟩
theorem rep_tup {b : Bool} {ds : List D} {v : V} (w : Same Z H) (r : Rep K Z H (.node b .tup ds) v S) : ∃ a ys, v = .ref a ∧ SqT K H a ys ∧ RepL K Z H ds ys S := by
  cases b with
  | false =>
    obtain ⟨a, ys, e, c, q⟩ := r
    exact ⟨a, ys, e, SqT.same c w, q⟩
  | true =>
    obtain ⟨a, ys, S', e, c, sa, na, sub, q⟩ := r
    exact ⟨a, ys, e, SqT.of c, q.move (Same.refl Z) (fun _ _ _ x => x) sub⟩
theorem dp_all (w : Same Z H) {n : Nat} (ih : ∀ (d : D) (v : V) (S : Fp), shp n d = true → Rep K Z H d v S → Dp K H v (toP d)) : ∀ {ds : List D} {vs : List V} {S : Fp}, ds.all (shp n) = true → RepL K Z H ds vs S → DpAll K H vs (toPL ds)
  | [], [], _, _, _ => .nil
  | [], _ :: _, _, _, h => h.elim
  | _ :: _, [], _, _, h => h.elim
  | d :: ds, v :: vs, S, h, ⟨S1, S2, s1, s2, dj, r, q⟩ => by
    rw [List.all_cons, Bool.and_eq_true] at h
    exact .cons (ih d v S1 h.1 r) (dp_all w ih h.2 q)
theorem dp_of (w : Same Z H) : ∀ (n : Nat) (d : D) (v : V) (S : Fp), shp n d = true → Rep K Z H d v S → Dp K H v (toP d) := by
  intro n
  induction n with
  | zero =>
    intro d v S h r
    cases d with
    | non => obtain rfl : v = .non := r; exact .non
    | bl b => obtain rfl : v = .bl b := r; exact .bl b
    | int i => obtain rfl : v = .int i := r; exact .int i
    | str x => obtain rfl : v = .str x := r; exact .str x
    | op u => simp [shp] at h
    | node b k xs => cases k <;> simp [shp] at h
  | succ n ih =>
    intro d v S h r
    cases d with
    | non => obtain rfl : v = .non := r; exact .non
    | bl b => obtain rfl : v = .bl b := r; exact .bl b
    | int i => obtain rfl : v = .int i := r; exact .int i
    | str x => obtain rfl : v = .str x := r; exact .str x
    | op u => simp [shp] at h
    | node b k xs =>
      cases k with
      | lst =>
        obtain ⟨a, ys, rfl, c, q⟩ := rep_lst w r
        exact .lst (SqL.of c) (dp_all w ih (by simpa [shp] using h) q)
      | tup =>
        obtain ⟨a, ys, rfl, c, q⟩ := rep_tup w r
        exact .tup c (dp_all w ih (by simpa [shp] using h) q)
      | dct ks => simp [shp] at h
      | scr => simp [shp] at h
      | obj C fs => simp [shp] at h
theorem shp_can : ∀ (n : Nat) (d : D), shp n d = true → PyData.canLay0 (toP d) = true ∧ PyData.depth (toP d) ≤ n := by
  intro n
  induction n with
  | zero =>
    intro d h
    cases d with
    | non => exact ⟨rfl, Nat.zero_le _⟩
    | bl b => exact ⟨rfl, Nat.zero_le _⟩
    | int i => exact ⟨rfl, Nat.zero_le _⟩
    | str x => exact ⟨by simpa [shp, toP, PyData.canLay0] using h, Nat.zero_le _⟩
    | op u => simp [shp] at h
    | node b k xs => cases k <;> simp [shp] at h
  | succ n ih =>
    have all : ∀ xs : List D, xs.all (shp n) = true → PyData.canLayAll0 (toPL xs) = true ∧ PyData.depthAll (toPL xs) ≤ n := by
      intro xs
      induction xs with
      | nil => intro _; exact ⟨rfl, Nat.zero_le _⟩
      | cons x xs ih2 =>
        intro h
        rw [List.all_cons, Bool.and_eq_true] at h
        obtain ⟨a1, a2⟩ := ih x h.1
        obtain ⟨b1, b2⟩ := ih2 h.2
        refine ⟨by simp only [toPL, PyData.canLayAll0, a1, b1] <;> rfl, ?_⟩
        simp only [toPL, PyData.depthAll]
        omega
    intro d h
    cases d with
    | non => exact ⟨rfl, Nat.zero_le _⟩
    | bl b => exact ⟨rfl, Nat.zero_le _⟩
    | int i => exact ⟨rfl, Nat.zero_le _⟩
    | str x => exact ⟨by simpa [shp, toP, PyData.canLay0] using h, Nat.zero_le _⟩
    | op u => simp [shp] at h
    | node b k xs =>
      cases k with
      | lst =>
        obtain ⟨a1, a2⟩ := all xs (by simpa [shp] using h)
        refine ⟨by simpa [toP, PyData.canLay0] using a1, ?_⟩
        simp only [toP, PyData.depth]
        omega
      | tup =>
        obtain ⟨a1, a2⟩ := all xs (by simpa [shp] using h)
        refine ⟨by simpa [toP, PyData.canLay0] using a1, ?_⟩
        simp only [toP, PyData.depth]
        omega
      | dct ks => simp [shp] at h
      | scr => simp [shp] at h
      | obj C fs => simp [shp] at h
theorem eqv_all {n : Nat} (ih : ∀ d e : D, shp n d = true → shp n e = true → PyData.eqv (toP d) (toP e) = deq d e) : ∀ xs ys : List D, xs.all (shp n) = true → ys.all (shp n) = true → PyData.eqvAll (toPL xs) (toPL ys) = deqL xs ys
  | [], [], _, _ => rfl
  | [], _ :: _, _, _ => rfl
  | _ :: _, [], _, _ => rfl
  | x :: xs, y :: ys, h1, h2 => by
    rw [List.all_cons, Bool.and_eq_true] at h1 h2
    simp only [toPL, PyData.eqvAll, deqL]
    rw [ih x y h1.1 h2.1, eqv_all ih xs ys h1.2 h2.2]
theorem eqv_deq : ∀ (n : Nat) (d e : D), shp n d = true → shp n e = true → PyData.eqv (toP d) (toP e) = deq d e := by
  intro n
  induction n with
  | zero =>
    intro d e h1 h2
    cases d with
    | op u => simp [shp] at h1
    | node b k xs => cases k <;> simp [shp] at h1
    | _ =>
      cases e with
      | op u => simp [shp] at h2
      | node b k xs => cases k <;> simp [shp] at h2
      | _ => simp [toP, PyData.eqv, deq]
  | succ n ih =>
    intro d e h1 h2
    cases d with
    | op u => simp [shp] at h1
    | node b k xs =>
      cases k with
      | dct ks => simp [shp] at h1
      | scr => simp [shp] at h1
      | obj C fs => simp [shp] at h1
      | lst =>
        cases e with
        | op u => simp [shp] at h2
        | node b' k' ys =>
          cases k' with
          | dct ks => simp [shp] at h2
          | scr => simp [shp] at h2
          | obj C fs => simp [shp] at h2
          | lst =>
            simp only [toP, PyData.eqv, deq]
            exact eqv_all ih xs ys (by simpa [shp] using h1) (by simpa [shp] using h2)
          | tup => simp [toP, PyData.eqv, deq]
        | _ => simp [toP, PyData.eqv, deq]
      | tup =>
        cases e with
        | op u => simp [shp] at h2
        | node b' k' ys =>
          cases k' with
          | dct ks => simp [shp] at h2
          | scr => simp [shp] at h2
          | obj C fs => simp [shp] at h2
          | tup =>
            simp only [toP, PyData.eqv, deq]
            exact eqv_all ih xs ys (by simpa [shp] using h1) (by simpa [shp] using h2)
          | lst => simp [toP, PyData.eqv, deq]
        | _ => simp [toP, PyData.eqv, deq]
    | _ =>
      cases e with
      | op u => simp [shp] at h2
      | node b k xs =>
        cases k with
        | dct ks => simp [shp] at h2
        | scr => simp [shp] at h2
        | obj C fs => simp [shp] at h2
        | _ => simp [toP, PyData.eqv, deq]
      | _ => simp [toP, PyData.eqv, deq]
/-! ### ==, != -/
def opEqD : List D → Option D
  | [d, e] => if shp 60 d && shp 60 e then some (.bl (deq d e)) else none
  | _ => none
def opNeD : List D → Option D
  | [d, e] => if shp 60 d && shp 60 e then some (.bl (!deq d e)) else none
  | _ => none
theorem shaped_of {d : D} (h : shp 60 d = true) : SeqAt.shaped (toP d) = true := by
  obtain ⟨a, b⟩ := shp_can 60 d h
  unfold SeqAt.shaped
  rw [a, decide_eq_true (by omega : PyData.depth (toP d) ≤ 64)]
  rfl
theorem opd_eqD (hu : X.A.units + 64 < cLine) : Opd X (compareOp .Eq) opEqD := by
  refine ⟨_, op_eqD hu, snd_pure fun Z H S ds vs d Q w rb e k => ?_⟩
  unfold opEqD at e
  split at e
  · rename_i x y
    split at e
    · rename_i c
      rw [Bool.and_eq_true] at c
      obtain ⟨v, u, rfl, rv, ru⟩ := rb2 rb
      refine ⟨v, u, rfl, toP x, toP y, dp_of w.same _ _ _ _ c.1 rv, dp_of w.same _ _ _ _ c.2 ru, shaped_of c.1, shaped_of c.2, ?_⟩
      rw [eqv_deq 60 x y c.1 c.2]
      exact k _ (by rw [← Option.some.inj e]; rfl)
    · cases e
  · cases e
theorem opd_neD (hu : X.A.units + 64 < cLine) : Opd X (compareOp .NotEq) opNeD := by
  refine ⟨_, op_neD hu, snd_pure fun Z H S ds vs d Q w rb e k => ?_⟩
  unfold opNeD at e
  split at e
  · rename_i x y
    split at e
    · rename_i c
      rw [Bool.and_eq_true] at c
      obtain ⟨v, u, rfl, rv, ru⟩ := rb2 rb
      refine ⟨v, u, rfl, toP x, toP y, dp_of w.same _ _ _ _ c.1 rv, dp_of w.same _ _ _ _ c.2 ru, shaped_of c.1, shaped_of c.2, ?_⟩
      rw [eqv_deq 60 x y c.1 c.2]
      exact k _ (by rw [← Option.some.inj e]; rfl)
    · cases e
  · cases e
def opEq : List D → Option D
  | [.str x, .str y] => some (.bl (x == y))
  | ds => opEqD ds
def opNe : List D → Option D
  | [.str x, .str y] => some (.bl (!(x == y)))
  | ds => opNeD ds
def opEqS : List D → Option D
  | [.str x, .str y] => some (.bl (x == y))
  | _ => none
def opNeS : List D → Option D
  | [.str x, .str y] => some (.bl (!(x == y)))
  | _ => none
theorem opd_eqS : Opd X (compareOp .Eq) opEqS := by
  refine ⟨_, op_eq, snd_pure fun Z H S ds vs d Q w rb e k => ?_⟩
  unfold opEqS at e
  split at e
  · rename_i x y
    obtain ⟨v, u, rfl, rv, ru⟩ := rb2 rb
    obtain rfl : v = .str x := rv
    obtain rfl : u = .str y := ru
    refine ⟨_, _, rfl, rfl, ?_⟩
    cases e
    refine k _ ?_
    show V.bl (decide (V.str x = V.str y)) = V.bl (x == y)
    rw [show (x == y) = decide (x = y) from rfl]
    simp
  · cases e
theorem opd_neS : Opd X (compareOp .NotEq) opNeS := by
  refine ⟨_, op_ne, snd_pure fun Z H S ds vs d Q w rb e k => ?_⟩
  unfold opNeS at e
  split at e
  · rename_i x y
    obtain ⟨v, u, rfl, rv, ru⟩ := rb2 rb
    obtain rfl : v = .str x := rv
    obtain rfl : u = .str y := ru
    refine ⟨_, _, rfl, rfl, ?_⟩
    cases e
    refine k _ ?_
    show V.bl (!decide (V.str x = V.str y)) = V.bl (!(x == y))
    rw [show (x == y) = decide (x = y) from rfl]
    simp
  · cases e
theorem opd_eq (hu : X.A.units + 64 < cLine) : Opd X (compareOp .Eq) opEq := Opd.or opd_eqS (opd_eqD hu) fun ds d h => by
  unfold opEq at h
  split at h
  · exact .inl h
  · exact .inr h
theorem opd_ne (hu : X.A.units + 64 < cLine) : Opd X (compareOp .NotEq) opNe := Opd.or opd_neS (opd_neD hu) fun ds d h => by
  unfold opNe at h
  split at h
  · exact .inl h
  · exact .inr h
/-! ### is None -/
def D.isNon : D → Bool
  | .non => true
  | _ => false
def opIsN : List D → Option D
  | [d, .non] => match d with
    | .op _ => none
    | _ => some (.bl d.isNon)
  | _ => none
def opNotN : List D → Option D
  | [d, .non] => match d with
    | .op _ => none
    | _ => some (.bl (!d.isNon))
  | _ => none
theorem isNon_rep {d : D} {v : V} (h : ∀ u, d ≠ .op u) (r : Rep K Z H d v S) : decide (v = .non) = d.isNon := by
  cases d with
  | op u => exact absurd rfl (h u)
  | node b k xs =>
    have q : ∃ a, v = .ref a := by
      cases b with
      | false => obtain ⟨a, _, e, _⟩ := r; exact ⟨a, e⟩
      | true => obtain ⟨a, _, _, e, _⟩ := r; exact ⟨a, e⟩
    obtain ⟨a, rfl⟩ := q
    rfl
  | non => obtain rfl : v = .non := r; rfl
  | bl b => obtain rfl : v = .bl b := r; rfl
  | int b => obtain rfl : v = .int b := r; rfl
  | str b => obtain rfl : v = .str b := r; rfl
theorem opd_isN : Opd X (compareOp .Is) opIsN := by
  refine ⟨_, op_isN, snd_pure fun Z H S ds vs d Q w rb e k => ?_⟩
  unfold opIsN at e
  split at e
  · rename_i x
    obtain ⟨v, u, rfl, rv, ru⟩ := rb2 rb
    split at e
    · cases e
    · rename_i hx
      refine ⟨v, u, rfl, ru, ?_⟩
      rw [isNon_rep (fun u q => hx u q) rv]
      exact k _ (by rw [← Option.some.inj e]; rfl)
  · cases e
theorem opd_notN : Opd X (compareOp .IsNot) opNotN := by
  refine ⟨_, op_notN, snd_pure fun Z H S ds vs d Q w rb e k => ?_⟩
  unfold opNotN at e
  split at e
  · rename_i x
    obtain ⟨v, u, rfl, rv, ru⟩ := rb2 rb
    split at e
    · cases e
    · rename_i hx
      refine ⟨v, u, rfl, ru, ?_⟩
      rw [isNon_rep (fun u q => hx u q) rv]
      exact k _ (by rw [← Option.some.inj e]; rfl)
  · cases e
end
end Pm
/-! PmJ: items, cuts, stores, methods, built-ins. -/
namespace Pm
open PySem PySem.Spec PyProof.Rows L2
section
variable {K : PySem.W.Frag} {mg : Str → Option Value} {W : WX} {Z H : Hp} {S : Fp} {σ : Sl} {X : Cx} {A : Nat → Bool}
theorem tE_fin {fs : M (List EV)} {F : List EV → M EV} {Q : VK} {R : List V → Hp → Prop} (h : tE K mg W (bnd fs F) σ H Q)
    (hR : ∀ es ρ1 vs Z1 H1 S1 Sa, Wd Z1 H1 (fun a => S1 a ∨ Sa a) → (∀ a, S1 a → Sa a → False) → EnvR K Z1 H1 ρ1 σ S1 → EVsR K Z1 H1 σ es vs Sa → OutE K mg W Z1 H1 (fun a => S1 a ∨ Sa a) σ Q (F es ρ1) → R vs H1) : tA K mg W fs σ H R := by
  obtain ⟨Z, ρ, S, w, er, o⟩ := h
  refine ⟨Z, ρ, S, w, er, ?_⟩
  simp only [bnd] at o
  cases e1 : fs ρ with
  | stuck => rw [e1] at o; exact o
  | exc x ρ1 => rw [e1] at o; exact o
  | ok es ρ1 =>
    simp only [e1] at o
    exact fun vs Z1 H1 S1 Sa st dj er1 r1 => hR es ρ1 vs Z1 H1 S1 Sa st.wd dj er1 r1 (OutE.after st o)
theorem ev1 {e : EV} {vs : List V} (h : EVsR K Z H σ [e] vs S) : ∃ v A1, vs = [v] ∧ (∀ a, A1 a → S a) ∧ EVR K Z H σ e v A1 := by
  cases vs with
  | nil => exact h.elim
  | cons v vs =>
    obtain ⟨S1, S2, s1, s2, dj, r, q⟩ := h
    cases vs with
    | nil => exact ⟨v, S1, rfl, s1, r⟩
    | cons u us => exact q.elim
theorem ev2 {e f : EV} {vs : List V} (h : EVsR K Z H σ [e, f] vs S) : ∃ v u A1 A2, vs = [v, u] ∧ (∀ a, A1 a → S a) ∧ (∀ a, A2 a → S a) ∧ (∀ a, A1 a → A2 a → False) ∧ EVR K Z H σ e v A1 ∧ EVR K Z H σ f u A2 := by
  cases vs with
  | nil => exact h.elim
  | cons v vs =>
    obtain ⟨S1, S2, s1, s2, dj, r, q⟩ := h
    obtain ⟨u, A2, rfl, a2, ru⟩ := ev1 q
    exact ⟨v, u, S1, A2, rfl, s1, fun a x => s2 a (a2 a x), fun a x y => dj a x (a2 a y), r, ru⟩
/-! ### items -/
/-- an item: of a slot's thing it stays there, frozen; of a thing of no name it is taken out -/
def itemOf (ea : EV) (k : Int) : M EV := fun ρ => match ea with
  | .val (.node _ .lst xs) => match atI xs k with
    | some d => .ok (.val d) ρ
    | none => .stuck
  | .val (.node _ .tup xs) => match atI xs k with
    | some d => .ok (.val d) ρ
    | none => .stuck
  | .val (.str x) => if x.length ≤ cap then (match atI x.cps.toList k with
    | some c => .ok (.val (.str ⟨#[c]⟩)) ρ
    | none => .stuck) else .stuck
  | .val _ => .stuck
  | .ref j => match ρ.getD j none with
    | some (.node b .lst xs) => (match ixN xs.length k with
      | some i => match xs[i]? with
        | some d => if d.plain then .ok (.val d) ρ else .ok (.val d.frz) (ρ.set j (some (.node b .lst (xs.set i d.frz))))
        | none => .stuck
      | none => .stuck)
    | some (.node b .tup xs) => (match ixN xs.length k with
      | some i => match xs[i]? with
        | some d => if d.plain then .ok (.val d) ρ else .ok (.val d.frz) (ρ.set j (some (.node b .tup (xs.set i d.frz))))
        | none => .stuck
      | none => .stuck)
    | some (.str x) => if x.length ≤ cap then (match atI x.cps.toList k with
      | some c => .ok (.val (.str ⟨#[c]⟩)) ρ
      | none => .stuck) else .stuck
    | _ => .stuck
def idx (fs : M (List EV)) : M EV := bnd fs fun es => fun ρ => match es with
  | [ea, ei] => match peek1 ρ ei with
    | some (.int k) => itemOf ea k ρ
    | _ => .stuck
  | _ => .stuck
theorem RepL.atI {ds : List D} {vs : List V} {k : Int} {d : D} (r : RepL K Z H ds vs S) (h : L2.atI ds k = some d) : ∃ v, L2.atI vs k = some v ∧ Rep K Z H d v S := by
  unfold L2.atI at h ⊢
  rw [← r.length]
  cases e : ixN ds.length k with
  | none => rw [e] at h; cases h
  | some j =>
    rw [e] at h
    exact r.get h
/-- a frozen item put back into a thing of a slot -/
theorem item_frz {b : Bool} {k : Kd} {xs : List D} {i j : Nat} {d : D} {ρ : Env} (hk : k = .lst ∨ k = .tup) (w : Wd Z H S) (er : EnvR K Z H ρ σ S) (e : ρ.getD j none = some (.node b k xs)) (hx : xs[i]? = some d) :
    ∃ v Z' S', σ[j]? = some (some v) ∧ Step Z H S Z' H S' ∧ (∀ a, S' a → S a) ∧ EnvR K Z' H (ρ.set j (some (.node b k (xs.set i d.frz)))) σ S' ∧
      ∃ a ys y, v = .ref a ∧ Frd K H a ys k ∧ ys[i]? = some y ∧ ys.length = xs.length ∧ Rep K Z' H d.frz y Fp0 := by
  obtain ⟨v, U1, U2, hv, u1, u2, uj, ru, eu⟩ := er.take (getD_some e)
  obtain ⟨hj, ej⟩ := List.getElem?_eq_some_iff.mp hv
  have es : σ.set j (some v) = σ := by rw [← ej, List.set_getElem_self]
  have hl : j < ρ.length := by rw [er.length]; exact hj
  cases b with
  | false =>
    obtain ⟨a, ys, rfl, c, rl⟩ := ru
    obtain ⟨y, T1, T2, hy, t1, t2, tj, ry, put⟩ := rl.take hx
    have st : Step Z H S (thaw Z H T1) H (fun a => T2 a ∨ U2 a) := Step.freeze w (fun a x => u1 a (t1 a x)) (fun a x => x.elim (fun z => u1 a (t2 a z)) (u2 a)) fun a x z => x.elim (fun q => tj a z q) fun q => uj a (t1 a z) q
    have rf : Rep K (thaw Z H T1) H d.frz y Fp0 := Rep.frz ry (fun a x => w.sep a (u1 a (t1 a x))) fun _ x => x
    have hs : ys.set i y = ys := by
      obtain ⟨hi, ei⟩ := List.getElem?_eq_some_iff.mp hy
      rw [← ei, List.set_getElem_self]
    have pl := put (thaw Z H T1) H d.frz y Fp0 T2 st.zz (fun _ _ _ x => x) rf (fun _ x => x.elim) (fun _ x => x) fun _ x _ => x
    rw [hs] at pl
    have rn : Rep K (thaw Z H T1) H (.node false k (xs.set i d.frz)) (.ref a) T2 := ⟨a, ys, rfl, c.same st.zz, pl⟩
    have q := EnvR.put (S := fun a => T2 a ∨ U2 a) (eu.move st.zz (fun _ _ _ x => x) fun _ x => x) hl rn (fun _ x => .inl x) (fun _ x => .inr x) fun a x z => uj a (t2 a x) z
    rw [es] at q
    exact ⟨.ref a, _, _, hv, st, fun a x => x.elim (fun z => u1 a (t2 a z)) (u2 a), q, a, ys, y, rfl, c.same w.same, hy, rl.length.symm, rf⟩
  | true =>
    obtain ⟨a, ys, U', rfl, c, sa, na, sub, rl⟩ := ru
    obtain ⟨y, T1, T2, hy, t1, t2, tj, ry, put⟩ := rl.take hx
    have st : Step Z H S (thaw Z H T1) H (fun b => (b = a ∨ T2 b) ∨ U2 b) := Step.freeze w (fun b x => u1 b (sub b (t1 b x))) (fun b x => x.elim (fun z => z.elim (fun q => by rw [q]; exact u1 a sa) fun q => u1 b (sub b (t2 b q))) (u2 b)) fun b x z => x.elim (fun q => q.elim (fun p => na (by rw [← p]; exact t1 b z)) fun p => tj b z p) fun q => uj b (sub b (t1 b z)) q
    have rf : Rep K (thaw Z H T1) H d.frz y Fp0 := Rep.frz ry (fun b x => w.sep b (u1 b (sub b (t1 b x)))) fun _ x => x
    have hs : ys.set i y = ys := by
      obtain ⟨hi, ei⟩ := List.getElem?_eq_some_iff.mp hy
      rw [← ei, List.set_getElem_self]
    have pl := put (thaw Z H T1) H d.frz y Fp0 T2 st.zz (fun _ _ _ x => x) rf (fun _ x => x.elim) (fun _ x => x) fun _ x _ => x
    rw [hs] at pl
    have rn : Rep K (thaw Z H T1) H (.node true k (xs.set i d.frz)) (.ref a) (fun b => b = a ∨ T2 b) := ⟨a, ys, T2, rfl, c, .inl rfl, fun x => na (t2 a x), fun b x => .inr x, pl⟩
    have q := EnvR.put (S := fun b => (b = a ∨ T2 b) ∨ U2 b) (eu.move st.zz (fun _ _ _ x => x) fun _ x => x) hl rn (fun _ x => .inl x) (fun _ x => .inr x) fun b x z => x.elim (fun p => uj a sa (by rw [← p]; exact z)) fun p => uj b (sub b (t2 b p)) z
    rw [es] at q
    exact ⟨.ref a, _, _, hv, st, fun b x => x.elim (fun z => z.elim (fun q => by rw [q]; exact u1 a sa) fun q => u1 b (sub b (t2 b q))) (u2 b), q, a, ys, y, rfl, (c.frd (K := K)), hy, rl.length.symm, rf⟩
theorem tE_idx {fs : M (List EV)} {Q : VK} (h : tE K mg W (idx fs) σ H Q) : tA K mg W fs σ H fun vs H1 => ∃ x y, vs = [x, y] ∧ rIx K x y H1 Q := by
  refine tE_fin h fun es ρ1 vs Z1 H1 S1 Sa w dj er1 r1 o => ?_
  split at o
  · rename_i ea ei
    obtain ⟨x, y, A1, A2, rfl, a1, a2, aj, rx, ry⟩ := ev2 r1
    split at o
    · rename_i k hk
      have hy : y = .int k := peek1_rep er1 ry hk
      subst hy
      refine ⟨x, .int k, rfl, ?_⟩
      have w1 : Step Z1 H1 (fun a => S1 a ∨ Sa a) Z1 H1 (fun a => S1 a ∨ A1 a) := (Step.refl w).less fun a z => z.elim .inl fun t => .inr (a1 a t)
      have w0 : Step Z1 H1 (fun a => S1 a ∨ Sa a) Z1 H1 (fun a => S1 a ∨ Fp0 a) := (Step.refl w).less fun a z => z.elim .inl False.elim
      have d1 : ∀ a, S1 a → A1 a → False := fun a p q => dj a p (a1 a q)
      unfold itemOf at o
      split at o
      · rename_i b xs
        split at o
        · rename_i d hd
          obtain ⟨a, ys, rfl, c, rl⟩ := rep_lst w.same rx
          obtain ⟨v, hv, rv⟩ := rl.atI hd
          exact .inl ⟨a, ys, k, v, rfl, rfl, SqL.of c, hv, o v Z1 H1 S1 A1 w1 d1 er1 rv⟩
        · exact o.elim
      · rename_i b xs
        split at o
        · rename_i d hd
          obtain ⟨a, ys, rfl, c, rl⟩ := rep_tup w.same rx
          obtain ⟨v, hv, rv⟩ := rl.atI hd
          exact .inr (.inl ⟨a, ys, k, v, rfl, rfl, c, hv, o v Z1 H1 S1 A1 w1 d1 er1 rv⟩)
        · exact o.elim
      · rename_i z
        split at o
        · rename_i hz
          split at o
          · rename_i c hc
            obtain rfl : x = .str z := rx
            exact .inr (.inr ⟨z, k, c, rfl, rfl, cap_le hz, hc, o _ Z1 H1 S1 Fp0 w0 (fun _ _ x => x) er1 rfl⟩)
          · exact o.elim
        · exact o.elim
      · exact o.elim
      · rename_i j
        have hx : σ[j]? = some (some x) := rx
        split at o
        · rename_i b xs he
          split at o
          · rename_i i hi
            split at o
            · rename_i d hd
              split at o
              · rename_i hp
                have rn := peek1_rep (v := x) (Sa := Fp0) er1 (e := .ref j) hx (show peek1 ρ1 (.ref j) = _ from he)
                obtain ⟨a, ys, rfl, c, rl⟩ := rep_lst w.same rn
                obtain ⟨v, hv, rv⟩ := rl.get hd
                refine .inl ⟨a, ys, k, v, rfl, rfl, SqL.of c, ?_, o v Z1 H1 S1 Fp0 w0 (fun _ _ x => x) er1 (rv.plain hp)⟩
                unfold L2.atI
                rw [← rl.length, hi]
                exact hv
              · have wS : Wd Z1 H1 S1 := w.less fun a z => .inl z
                obtain ⟨v, Z2, S2, hv, st, m, er2, a, ys, y, rfl, c, hy, hl, ry2⟩ := item_frz (.inl rfl) wS er1 he hd
                rw [hv] at hx
                cases hx
                refine .inl ⟨a, ys, k, y, rfl, rfl, SqL.of c, ?_, o y Z2 H1 S2 Fp0 ((w1.less fun a z => .inl z).trans (st.less fun a z => z.elim id False.elim)) (fun _ _ x => x) er2 ry2⟩
                unfold L2.atI
                rw [hl, hi]
                exact hy
            · exact o.elim
          · exact o.elim
        · rename_i b xs he
          split at o
          · rename_i i hi
            split at o
            · rename_i d hd
              split at o
              · rename_i hp
                have rn := peek1_rep (v := x) (Sa := Fp0) er1 (e := .ref j) hx (show peek1 ρ1 (.ref j) = _ from he)
                obtain ⟨a, ys, rfl, c, rl⟩ := rep_tup w.same rn
                obtain ⟨v, hv, rv⟩ := rl.get hd
                refine .inr (.inl ⟨a, ys, k, v, rfl, rfl, c, ?_, o v Z1 H1 S1 Fp0 w0 (fun _ _ x => x) er1 (rv.plain hp)⟩)
                unfold L2.atI
                rw [← rl.length, hi]
                exact hv
              · have wS : Wd Z1 H1 S1 := w.less fun a z => .inl z
                obtain ⟨v, Z2, S2, hv, st, m, er2, a, ys, y, rfl, c, hy, hl, ry2⟩ := item_frz (.inr rfl) wS er1 he hd
                rw [hv] at hx
                cases hx
                refine .inr (.inl ⟨a, ys, k, y, rfl, rfl, c, ?_, o y Z2 H1 S2 Fp0 ((w1.less fun a z => .inl z).trans (st.less fun a z => z.elim id False.elim)) (fun _ _ x => x) er2 ry2⟩)
                unfold L2.atI
                rw [hl, hi]
                exact hy
            · exact o.elim
          · exact o.elim
        · rename_i z he
          split at o
          · rename_i hz
            split at o
            · rename_i c hc
              have rn : x = .str z := peek1_rep (v := x) (Sa := Fp0) er1 (e := .ref j) hx (show peek1 ρ1 (.ref j) = _ from he)
              subst rn
              exact .inr (.inr ⟨z, k, c, rfl, rfl, cap_le hz, hc, o _ Z1 H1 S1 Fp0 w0 (fun _ _ x => x) er1 rfl⟩)
            · exact o.elim
          · exact o.elim
        · exact o.elim
    · exact o.elim
  · exact o.elim
theorem pe_idx {a b : Expr} {fa fb : M EV} {pos : Pos} (ha : PE X a (tE X.K X.mg W fa)) (hb : PE X b (tE X.K X.mg W fb)) (hs : PlainIx b) : PE X (.Subscript a b pos) (tE X.K X.mg W (idx (aCons fa (aCons fb aNil)))) :=
  PE.of (pe_ix ix_seq ha hb hs) fun σ H Q q => two_of (tE_idx q)
end
end Pm
/-! PmK: operations that share what they are given, cuts, stores, built-ins. -/
namespace Pm
open PySem PySem.Spec PyProof.Rows L2
/-- what is in it is plain -/
def D.shal : D → Bool
  | .node _ _ xs => plainL xs
  | _ => true
section
variable {K : PySem.W.Frag} {mg : Str → Option Value} {W : WX} {Z H : Hp} {S : Fp} {σ : Sl} {X : Cx} {A : Nat → Bool}
/-- an operation whose result shares the items of what it is given: they are frozen first, if they are not plain -/
def appF (g : List D → Option D) (fs : M (List EV)) : M EV := bnd fs fun es => fun ρ => match peeks ρ es with
  | some ds => if ds.all D.shal then (match g ds with
      | some d => .ok (.val d) ρ
      | none => .stuck)
    else match useL es ρ with
      | .ok ds' ρ' => (match g (frzL ds') with
        | some d => .ok (.val d) ρ'
        | none => .stuck)
      | _ => .stuck
  | none => .stuck
theorem RepL.toB : ∀ {ds : List D} {vs : List V} {S : Fp}, RepL K Z H ds vs S → RepB K Z H S ds vs
  | [], [], _, _ => trivial
  | [], _ :: _, _, h => h.elim
  | _ :: _, [], _, h => h.elim
  | _ :: _, _ :: _, _, ⟨_, _, s1, s2, _, r, q⟩ => ⟨r.move (Same.refl Z) (fun _ _ _ x => x) s1, (RepL.toB q).more s2⟩
theorem tE_appF {r : List V → Hp → VK → Prop} {g : List D → Option D} {fs : M (List EV)} {Q : VK} (hs : Snd X r g) (h : tE X.K X.mg W (appF g fs) σ H Q) : tA X.K X.mg W fs σ H fun vs H1 => r vs H1 Q := by
  refine tE_fin h fun es ρ1 vs Z1 H1 S1 Sa w dj er1 r1 o => ?_
  split at o
  · rename_i ds hp
    split at o
    · split at o
      · rename_i d hd
        refine hs Z1 H1 _ ds vs d Q w (peeks_rep er1 r1 hp) hd fun v Z2 H2 Sd st2 sm dj2 rd => ?_
        exact o v Z2 H2 S1 Sd (st2.less fun a x => x.elim (fun y => .inl (.inl y)) .inr) (fun a x y => dj2 a (.inl x) y) (er1.move st2.zz (fun a ob _ e => sm a ob e) fun _ x => x) rd
      · exact o.elim
    · split at o
      · rename_i ds' ρ2 hu
        split at o
        · rename_i d hd
          have w1 : Wd Z1 H1 (fun a => (S1 a ∨ Sa a) ∨ Fp0 a) := w.less fun a x => x.elim id False.elim
          obtain ⟨Z2, S2, st2, m2, er2, r2⟩ := useL_ok w1 dj (fun _ _ x => x) er1 r1 hu
          have st2' : Step Z1 H1 (fun a => S1 a ∨ Sa a) Z2 H1 (fun a => S2 a ∨ Sa a) := ⟨st2.wd.less fun a x => .inl x, st2.zz, fun a o n e => e, fun a x => .inl (x.elim (fun y => .inl (m2 a y)) .inr), fun a o e => (st2.znew a o e).elim .inl fun y => .inr (y.elim (fun z => z.elim .inl False.elim) .inr)⟩
          have w2 := st2'.wd
          have st3 : Step Z2 H1 (fun a => S2 a ∨ Sa a) (thaw Z2 H1 Sa) H1 S2 := Step.freeze w2 (fun a x => .inr x) (fun a x => .inl x) fun a x y => dj a (m2 a x) y
          have r3 : RepL X.K (thaw Z2 H1 Sa) H1 (frzL ds') vs Fp0 := RepL.frz (S := Sa) r2 (fun a x => w2.sep a (.inr x)) fun _ x => x
          refine hs (thaw Z2 H1 Sa) H1 S2 (frzL ds') vs d Q st3.wd (r3.toB.more fun _ x => x.elim) hd fun v Z4 H4 Sd st4 sm dj4 rd => ?_
          exact o v Z4 H4 S2 Sd ((st2'.trans st3).trans st4) dj4 (er2.move (st3.zz.trans st4.zz) (fun a ob _ e => sm a ob e) fun _ x => x) rd
        · exact o.elim
      · exact o.elim
  · exact o.elim
/-- made anew: a list, a tuple of plain items -/
theorem fresh_lst {ds : List D} {vs : List V} {p : Addr} (w : Wd Z H S) (hp : H p = none) (r : RepL K Z H ds vs Fp0) :
    Step Z H S Z (upd H p (.lst vs)) (fun a => S a ∨ a = p) ∧ (∀ a o, H a = some o → upd H p (.lst vs) a = some o) ∧ (∀ a, S a → a = p → False) ∧ Rep K Z (upd H p (.lst vs)) (.lst true ds) (.ref p) (fun a => a = p) :=
  ⟨Step.alloc w hp, fun a o e => by rw [upd_ne (ne_of_none e hp)]; exact e, fun a s e => w.dom a s (by rw [e]; exact hp), ⟨p, vs, Fp0, rfl, upd_same, rfl, fun x => x, fun _ x => x.elim, r.move (Same.refl Z) (fun _ _ x => x.elim) fun _ x => x⟩⟩
theorem fresh_tup {ds : List D} {vs : List V} {p : Addr} (w : Wd Z H S) (hp : H p = none) (r : RepL K Z H ds vs Fp0) :
    Step Z H S (upd Z p (.tup vs)) (upd H p (.tup vs)) (fun a => S a ∨ Fp0 a) ∧ (∀ a o, H a = some o → upd H p (.tup vs) a = some o) ∧ Rep K (upd Z p (.tup vs)) (upd H p (.tup vs)) (.tup ds) (.ref p) Fp0 := by
  have st := Step.allocZ (o := .tup vs) w hp
  exact ⟨st.less fun a x => x.elim id False.elim, fun a o e => by rw [upd_ne (ne_of_none e hp)]; exact e, p, vs, rfl, SqT.of upd_same, r.move st.zz (fun _ _ x => x.elim) fun _ x => x⟩
/-! ### cuts -/
/-- a part of a slice -/
def optI : EV → Env → Option (Option Int) := fun e ρ => match peek1 ρ e with
  | some (.int i) => some (some i)
  | _ => none
def cutD (xs : List D) (lo hi : Option Int) : List D := (xs.drop (HT.sIx xs.length 0 lo)).take (HT.sIx xs.length xs.length hi - HT.sIx xs.length 0 lo)
def gCut (lo hi : Option Int) : D → Option D
  | .node _ .lst xs => if plainL xs then some (.lst true (cutD xs lo hi)) else none
  | .node _ .scr xs => if plainL xs then some (.lst true (cutD xs lo hi)) else none
  | .node false .tup xs => if plainL xs then some (.tup (cutD xs lo hi)) else none
  | .str x => if x.length ≤ cap then some (.str (cutS x lo hi)) else none
  | _ => none
theorem RepL.cut {ds : List D} {vs : List V} (r : RepL K Z H ds vs S) (p : plainL ds = true) (lo hi : Option Int) : RepL K Z H (cutD ds lo hi) (cutV vs lo hi) Fp0 := by
  have rp : RepL K Z H ds vs Fp0 := r.plain p
  have drop : ∀ (n : Nat) {ds : List D} {vs : List V}, RepL K Z H ds vs Fp0 → RepL K Z H (ds.drop n) (vs.drop n) Fp0 := by
    intro n
    induction n with
    | zero => exact fun r => r
    | succ n ih =>
      intro ds vs r
      cases ds with
      | nil => cases vs with
        | nil => trivial
        | cons => exact r.elim
      | cons d ds => cases vs with
        | nil => exact r.elim
        | cons v vs =>
          obtain ⟨_, _, _, s2, _, _, q⟩ := r
          exact ih (q.move (Same.refl Z) (fun _ _ _ x => x) s2)
  have take : ∀ (n : Nat) {ds : List D} {vs : List V}, RepL K Z H ds vs Fp0 → RepL K Z H (ds.take n) (vs.take n) Fp0 := by
    intro n
    induction n with
    | zero => exact fun _ => by simp only [List.take_zero]; trivial
    | succ n ih =>
      intro ds vs r
      cases ds with
      | nil => cases vs with
        | nil => trivial
        | cons => exact r.elim
      | cons d ds => cases vs with
        | nil => exact r.elim
        | cons v vs =>
          obtain ⟨_, _, s1, s2, _, r1, q⟩ := r
          exact ⟨Fp0, Fp0, fun _ x => x, fun _ x => x, fun _ x _ => x, r1.move (Same.refl Z) (fun _ _ _ x => x) s1, ih (q.move (Same.refl Z) (fun _ _ _ x => x) s2)⟩
  have e := r.length
  unfold cutD cutV
  rw [e]
  exact take _ (drop _ rp)
/-- o[lo:hi]; the parts are ints or left out -/
def cut (f : M EV) (lo hi : Option (M EV)) : M EV := bnd f fun e =>
  bnd (match lo with
    | none => ret none
    | some m => bnd m fun el => fun ρ => match peek1 ρ el with
      | some (.int i) => .ok (some i) ρ
      | _ => .stuck) fun l =>
  bnd (match hi with
    | none => ret none
    | some m => bnd m fun eh => fun ρ => match peek1 ρ eh with
      | some (.int i) => .ok (some i) ρ
      | _ => .stuck) fun h => fun ρ => match peek1 ρ e with
    | some d => match gCut l h d with
      | some d' => .ok (.val d') ρ
      | none => .stuck
    | none => .stuck
def OutO (K : PySem.W.Frag) (mg : Str → Option Value) (W : WX) (Z H : Hp) (S : Fp) (σ : Sl) (Q : Option Int → Hp → Prop) : Res (Option Int) → Prop
  | .stuck => False
  | .ok b ρ' => ∀ Z' H' S', Step Z H S Z' H' S' → EnvR K Z' H' ρ' σ S' → Q b H'
  | .exc x ρ' => XOut K mg W Z H S σ x ρ'
def tO (K : PySem.W.Frag) (mg : Str → Option Value) (W : WX) (f : M (Option Int)) : TO := fun σ H Q => ∃ Z ρ S, Wd Z H S ∧ EnvR K Z H ρ σ S ∧ OutO K mg W Z H S σ Q (f ρ)
def partO (o : Option (M EV)) : M (Option Int) := match o with
    | none => ret none
    | some m => bnd m fun el => fun ρ => match peek1 ρ el with
      | some (.int i) => .ok (some i) ρ
      | _ => .stuck
theorem PO.of {e : Option Expr} {t t' : TO} (h : PO X e t) (i : ∀ σ H Q, t' σ H Q → t σ H Q) : PO X e t' := ⟨fun p s σ H R I q => h.run p s σ H R I (i σ H R q)⟩
theorem tO_none {Q : Option Int → Hp → Prop} (h : tO K mg W (partO none) σ H Q) : tNoPart σ H Q := by
  obtain ⟨Z, ρ, S, w, er, o⟩ := h
  exact o Z H S (Step.refl w) er
theorem tO_some {f : M EV} {Q : Option Int → Hp → Prop} (h : tO K mg W (partO (some f)) σ H Q) : tPart (tE K mg W f) σ H Q := by
  obtain ⟨Z, ρ, S, w, er, o⟩ := h
  refine ⟨Z, ρ, S, w, er, ?_⟩
  simp only [partO, bnd] at o
  cases e1 : f ρ with
  | stuck => rw [e1] at o; exact o
  | exc x ρ1 => rw [e1] at o; exact o
  | ok ev ρ1 =>
    simp only [e1] at o
    intro v Z1 H1 S1 Sa st1 dj1 er1 r1
    split at o
    · rename_i i hi
      exact ⟨i, peek1_rep er1 r1 hi, o Z1 H1 S1 (st1.less fun a x => .inl x) er1⟩
    · exact o.elim
theorem po_N : PO X none (tO X.K X.mg W (partO none)) := PO.of po_none fun _ _ _ q => tO_none q
theorem po_S {e : Expr} {f : M EV} (h : PE X e (tE X.K X.mg W f)) : PO X (some e) (tO X.K X.mg W (partO (some f))) := PO.of (po_some h) fun _ _ _ q => tO_some q
def rCutAll (K : PySem.W.Frag) : V → Option Int → Option Int → Hp → VK → Prop := fun x lo hi H Q => rSlL K x lo hi H Q ∨ rSlA K x lo hi H Q ∨ rSlS x lo hi H Q
theorem tE_cut {f : M EV} {lo hi : Option (M EV)} {Q : VK} (h : tE K mg W (cut f lo hi) σ H Q) : tSl (fun x l u H Q => rSlL K x l u H Q ∨ rSlA K x l u H Q ∨ rSlS x l u H Q) (tE K mg W f) (tO K mg W (partO lo)) (tO K mg W (partO hi)) σ H Q := by
  have h' : tE K mg W (bnd f fun e => bnd (partO lo) fun l => bnd (partO hi) fun h => fun ρ => match peek1 ρ e with
    | some d => match gCut l h d with
      | some d' => .ok (.val d') ρ
      | none => .stuck
    | none => .stuck) σ H Q := h
  obtain ⟨Z, ρ, S, w, er, o⟩ := h'
  refine ⟨Z, ρ, S, w, er, ?_⟩
  simp only [bnd] at o
  cases e1 : f ρ with
  | stuck => rw [e1] at o; exact o
  | exc x ρ1 => rw [e1] at o; exact o
  | ok ev ρ1 =>
    simp only [e1] at o
    intro v Z1 H1 S1 Sa st1 dj1 er1 r1
    refine ⟨Z1, ρ1, S1, st1.wd.less fun a x => .inl x, er1, ?_⟩
    cases e2 : partO lo ρ1 with
    | stuck => simp only [e2] at o; exact o
    | exc x ρ2 => simp only [e2] at o; exact o.behind st1 dj1
    | ok l ρ2 =>
      simp only [e2] at o
      intro Z2 H2 S2 st2 er2
      refine ⟨Z2, ρ2, S2, st2.wd, er2, ?_⟩
      have st12 := st1.trans (st2.frame st1.wd dj1)
      have ap2 := st2.apart (fun a x => st1.wd.dom a (.inr x)) dj1
      cases e3 : partO hi ρ2 with
      | stuck => simp only [e3] at o; exact o
      | exc x ρ3 => simp only [e3] at o; exact o.behind st12 ap2
      | ok u ρ3 =>
        simp only [e3] at o
        intro Z3 H3 S3 st3 er3
        have st13 := st12.trans (st3.frame st12.wd ap2)
        have ap3 := st3.apart (fun a x => st12.wd.dom a (.inr x)) ap2
        have r3 : EVR K Z3 H3 σ ev v Sa := (r1.stay st2 dj1).stay st3 ap2
        have w3 := st13.wd
        split at o
        · rename_i d hd
          have rd := peek1_rep er3 r3 hd
          split at o
          · rename_i d' hc
            have o1 := OutE.after st13 (r := .ok (.val d') ρ3) o
            have fin : ∀ v' H' Z' Sd, Step Z3 H3 (fun a => S3 a ∨ Sa a) Z' H' (fun a => (S3 a ∨ Sa a) ∨ Sd a) → (∀ a o, H3 a = some o → H' a = some o) → (∀ a, (S3 a ∨ Sa a) → Sd a → False) → Rep K Z' H' d' v' Sd → Q v' H' := fun v' H' Z' Sd st sm dj r =>
              o1 v' Z' H' S3 Sd (st.less fun a x => x.elim (fun y => .inl (.inl y)) .inr) (fun a x y => dj a (.inl x) y) (er3.move st.zz (fun a ob _ e => sm a ob e) fun _ x => x) r
            unfold gCut at hc
            split at hc
            · rename_i b xs
              split at hc
              · rename_i hp
                cases hc
                obtain ⟨a, ys, rfl, c, rl⟩ := rep_lst w3.same rd
                refine .inl ⟨a, ys, rfl, SqL.of c, fun p np => ?_⟩
                obtain ⟨f1, f2, f3, f4⟩ := fresh_lst w3 np (rl.cut hp l u)
                exact fin _ _ _ _ f1 f2 f3 f4
              · cases hc
            · rename_i b xs
              split at hc
              · rename_i hp
                cases hc
                cases b with
                | true => obtain ⟨_, _, _, _, c, _⟩ := rd; exact c.elim
                | false =>
                  obtain ⟨a, ys, rfl, c, rl⟩ := rd
                  refine .inl ⟨a, ys, rfl, Same.seq w3.same c, fun p np => ?_⟩
                  obtain ⟨f1, f2, f3, f4⟩ := fresh_lst w3 np (rl.cut hp l u)
                  exact fin _ _ _ _ f1 f2 f3 f4
              · cases hc
            · rename_i xs
              split at hc
              · rename_i hp
                cases hc
                have rd0 : Rep K Z3 H3 (.tup xs) v Fp0 := Rep.plain rd (by simp [D.plain, hp])
                obtain ⟨a, ys, rfl, c, rl⟩ := rep_tup w3.same rd0
                have el := rl.length
                refine .inr (.inl ⟨a, ys, rfl, c, fun hw => ?_, fun hw p np => ?_⟩)
                · have e : cutD xs l u = xs := by
                    unfold cutD
                    rw [← el] at hw
                    rw [hw.1, hw.2, List.drop_zero, Nat.sub_zero, List.take_length]
                  rw [e] at fin
                  exact fin _ _ _ Fp0 w3.nil (fun _ _ e => e) (fun _ _ x => x) rd0
                · obtain ⟨f1, f2, f3⟩ := fresh_tup w3 np (rl.cut hp l u)
                  exact fin _ _ _ _ f1 f2 (fun _ _ x => x) f3
              · cases hc
            · rename_i z
              split at hc
              · rename_i hz
                cases hc
                obtain rfl : v = .str z := rd
                exact .inr (.inr ⟨z, rfl, cap_le hz, fin _ _ _ Fp0 w3.nil (fun _ _ e => e) (fun _ _ x => x) rfl⟩)
              · cases hc
            · cases hc
          · exact o.elim
        · exact o.elim
end
end Pm
/-! PmL: built-ins, stores into lists, methods of lists, ranges. -/
namespace Pm
open PySem PySem.Spec PyProof.Rows L2
section
variable {K : PySem.W.Frag} {mg : Str → Option Value} {W : WX} {Z H : Hp} {S : Fp} {σ : Sl} {X : Cx} {A : Nat → Bool}
/-! ### built-in functions -/
theorem pe_blt {x : Str} {id : String} {p pos : Pos} {e : Expr} {es : List Expr} {fs : M (List EV)} {r : List V → Hp → VK → Prop} {g : List D → Option D} (hs : Snd X r g) (hc : CallR X (.builtin id) r) (hg : Gl X x) (hm : X.mg x = none) (hv : bootBuiltins x = some (.builtin id))
    (ha : PA X (e :: es) (tA X.K X.mg W fs)) (hn : x ≠ "__name__") (hdb : (x == ("__debug__" : Str)) = false) (he : starEach (e :: es) X.env = (false, eval e X.env) :: starEach es X.env) (hpl : (backTo pos (starEach es X.env)).any (·.1) = false) :
    PE X (.Call (.Name x p) (e :: es) [] pos) (tE X.K X.mg W (app g fs)) := PE.of (pe_callB hc hg hm hv ha hn hdb he hpl) fun σ H Q q => tE_app hs q
theorem pe_bltF {x : Str} {id : String} {p pos : Pos} {e : Expr} {es : List Expr} {fs : M (List EV)} {r : List V → Hp → VK → Prop} {g : List D → Option D} (hs : Snd X r g) (hc : CallR X (.builtin id) r) (hg : Gl X x) (hm : X.mg x = none) (hv : bootBuiltins x = some (.builtin id))
    (ha : PA X (e :: es) (tA X.K X.mg W fs)) (hn : x ≠ "__name__") (hdb : (x == ("__debug__" : Str)) = false) (he : starEach (e :: es) X.env = (false, eval e X.env) :: starEach es X.env) (hpl : (backTo pos (starEach es X.env)).any (·.1) = false) :
    PE X (.Call (.Name x p) (e :: es) [] pos) (tE X.K X.mg W (appF g fs)) := PE.of (pe_callB hc hg hm hv ha hn hdb he hpl) fun σ H Q q => tE_appF hs q
theorem pe_bty {x : Str} {T : String} {p pos : Pos} {e : Expr} {es : List Expr} {fs : M (List EV)} {r : List V → Hp → VK → Prop} {g : List D → Option D} (hs : Snd X r g) (hc : CallR X (.type T) r) (hg : Gl X x) (hm : X.mg x = none) (hv : bootBuiltins x = some (.type T))
    (ha : PA X (e :: es) (tA X.K X.mg W fs)) (hn : x ≠ "__name__") (hdb : (x == ("__debug__" : Str)) = false) (he : starEach (e :: es) X.env = (false, eval e X.env) :: starEach es X.env) (hpl : (backTo pos (starEach es X.env)).any (·.1) = false) :
    PE X (.Call (.Name x p) (e :: es) [] pos) (tE X.K X.mg W (app g fs)) := PE.of (pe_callTy hc hg hm hv ha hn hdb he hpl) fun σ H Q q => tE_app hs q
theorem pe_btyF {x : Str} {T : String} {p pos : Pos} {e : Expr} {es : List Expr} {fs : M (List EV)} {r : List V → Hp → VK → Prop} {g : List D → Option D} (hs : Snd X r g) (hc : CallR X (.type T) r) (hg : Gl X x) (hm : X.mg x = none) (hv : bootBuiltins x = some (.type T))
    (ha : PA X (e :: es) (tA X.K X.mg W fs)) (hn : x ≠ "__name__") (hdb : (x == ("__debug__" : Str)) = false) (he : starEach (e :: es) X.env = (false, eval e X.env) :: starEach es X.env) (hpl : (backTo pos (starEach es X.env)).any (·.1) = false) :
    PE X (.Call (.Name x p) (e :: es) [] pos) (tE X.K X.mg W (appF g fs)) := PE.of (pe_callTy hc hg hm hv ha hn hdb he hpl) fun σ H Q q => tE_appF hs q
/-! #### len -/
def opLen : List D → Option D
  | [.node _ .lst xs] => some (.int xs.length)
  | [.node _ .tup xs] => some (.int xs.length)
  | [.node _ .scr xs] => some (.int xs.length)
  | [.str x] => if x.length ≤ cap then some (.int x.length) else none
  | _ => none
theorem snd_len : Snd X (fun xs H Q => (∃ p ys, xs = [.ref p] ∧ (SqL X.K H p ys ∨ SqT X.K H p ys) ∧ Q (.int ys.length) H) ∨ (∃ z, xs = [.str z] ∧ z.length ≤ sizeLine ∧ Q (.int z.length) H)) opLen := by
  refine snd_pure fun Z H S ds vs d Q w rb e k => ?_
  unfold opLen at e
  split at e
  · obtain ⟨v, rfl, rv⟩ := rb1 rb
    obtain ⟨a, ys, rfl, c, rl⟩ := rep_lst w.same rv
    cases e
    exact .inl ⟨a, ys, rfl, .inl (SqL.of c), k _ (by rw [← rl.length]; rfl)⟩
  · obtain ⟨v, rfl, rv⟩ := rb1 rb
    obtain ⟨a, ys, rfl, c, rl⟩ := rep_tup w.same rv
    cases e
    exact .inl ⟨a, ys, rfl, .inr c, k _ (by rw [← rl.length]; rfl)⟩
  · rename_i b xs
    obtain ⟨v, rfl, rv⟩ := rb1 rb
    cases b with
    | true => obtain ⟨_, _, _, _, c, _⟩ := rv; exact c.elim
    | false =>
      obtain ⟨a, ys, rfl, c, rl⟩ := rv
      cases e
      exact .inl ⟨a, ys, rfl, .inl (Same.seq w.same c), k _ (by rw [← rl.length]; rfl)⟩
  · split at e
    · rename_i z hz
      obtain ⟨v, rfl, rv⟩ := rb1 rb
      obtain rfl : v = .str z := rv
      cases e
      exact .inr ⟨z, rfl, cap_le hz, k _ rfl⟩
    · cases e
  · cases e
theorem call_lenA : CallR X (.builtin "len") (fun xs H Q => (∃ p ys, xs = [.ref p] ∧ (SqL X.K H p ys ∨ SqT X.K H p ys) ∧ Q (.int ys.length) H) ∨ (∃ z, xs = [.str z] ∧ z.length ≤ sizeLine ∧ Q (.int z.length) H)) := CallR.or call_len_seq call_len_str
/-! #### abs, max, min, int -/
def opAbs : List D → Option D
  | [.int i] => some (.int (if i < 0 then -i else i))
  | _ => none
theorem snd_abs : Snd X (fun xs H Q => ∃ i, xs = [.int i] ∧ Q (.int (if i < 0 then -i else i)) H) opAbs := by
  refine snd_pure fun Z H S ds vs d Q w rb e k => ?_
  unfold opAbs at e
  split at e
  · obtain ⟨v, rfl, rv⟩ := rb1 rb
    cases e
    obtain rfl : v = .int _ := rv
    exact ⟨_, rfl, k _ rfl⟩
  · cases e
def opMax2 : List D → Option D
  | [.int i, .int j] => some (.int (if j > i then j else i))
  | _ => none
theorem snd_max2 : Snd X (fun xs H Q => ∃ i j, xs = [.int i, .int j] ∧ Q (.int (if j > i then j else i)) H) opMax2 := by
  refine snd_pure fun Z H S ds vs d Q w rb e k => ?_
  unfold opMax2 at e
  split at e
  · obtain ⟨v, u, rfl, rv, ru⟩ := rb2 rb
    cases e
    obtain rfl : v = .int _ := rv
    obtain rfl : u = .int _ := ru
    exact ⟨_, _, rfl, k _ rfl⟩
  · cases e
def opMin2 : List D → Option D
  | [.int i, .int j] => some (.int (if j < i then j else i))
  | _ => none
theorem snd_min2 : Snd X (fun xs H Q => ∃ i j, xs = [.int i, .int j] ∧ Q (.int (if j < i then j else i)) H) opMin2 := by
  refine snd_pure fun Z H S ds vs d Q w rb e k => ?_
  unfold opMin2 at e
  split at e
  · obtain ⟨v, u, rfl, rv, ru⟩ := rb2 rb
    cases e
    obtain rfl : v = .int _ := rv
    obtain rfl : u = .int _ := ru
    exact ⟨_, _, rfl, k _ rfl⟩
  · cases e
def opInt1 : List D → Option D
  | [.int i] => some (.int i)
  | [.bl b] => some (.int (if b then 1 else 0))
  | _ => none
theorem snd_int1 : Snd X (fun xs H Q => (∃ i, xs = [.int i] ∧ Q (.int i) H) ∨ ∃ k, xs = [.bl k] ∧ Q (.int (if k then 1 else 0)) H) opInt1 := by
  refine snd_pure fun Z H S ds vs d Q w rb e k => ?_
  unfold opInt1 at e
  split at e
  · obtain ⟨v, rfl, rv⟩ := rb1 rb
    cases e
    obtain rfl : v = .int _ := rv
    exact .inl ⟨_, rfl, k _ rfl⟩
  · obtain ⟨v, rfl, rv⟩ := rb1 rb
    cases e
    obtain rfl : v = .bl _ := rv
    exact .inr ⟨_, rfl, k _ rfl⟩
  · cases e
/-! #### sums and the like of ints -/
def intsD : List D → Option (List Int)
  | [] => some []
  | .int i :: ds => (intsD ds).map (i :: ·)
  | _ => none
theorem intsD_map : ∀ ns : List Int, intsD (ns.map D.int) = some ns
  | [] => rfl
  | n :: ns => by rw [List.map_cons, intsD, intsD_map ns]; rfl
theorem intsD_inv : ∀ {ds : List D} {ns : List Int}, intsD ds = some ns → ds = ns.map D.int
  | [], ns, h => by cases h; rfl
  | .int i :: ds, ns, h => by
    rw [intsD] at h
    cases e : intsD ds with
    | none => rw [e] at h; cases h
    | some ms =>
      rw [e] at h
      cases h
      rw [intsD_inv e]
      rfl
  | .non :: _, _, h => by cases h
  | .bl _ :: _, _, h => by cases h
  | .str _ :: _, _, h => by cases h
  | .op _ :: _, _, h => by cases h
  | .node _ _ _ :: _, _, h => by cases h
theorem reps_intsV : ∀ {ns : List Int} {vs : List V} {S : Fp}, RepL K Z H (ns.map D.int) vs S → vs = ns.map V.int
  | [], [], _, _ => rfl
  | [], _ :: _, _, h => h.elim
  | _ :: _, [], _, h => h.elim
  | n :: ns, v :: vs, S, ⟨_, _, _, _, _, r, q⟩ => by
    obtain rfl : v = .int n := r
    rw [reps_intsV q]
    rfl
def opSum : List D → Option D
  | [.node _ .lst xs] => match intsD xs with
    | some ns => some (.int ns.sum)
    | none => none
  | _ => none
theorem snd_sum : Snd X (rSum X.K) opSum := by
  refine snd_pure fun Z H S ds vs d Q w rb e k => ?_
  unfold opSum at e
  split at e
  · split at e
    · rename_i ns hn
      obtain ⟨v, rfl, rv⟩ := rb1 rb
      obtain ⟨a, ys, rfl, c, rl⟩ := rep_lst w.same rv
      rw [intsD_inv hn] at rl
      have ey := reps_intsV rl
      subst ey
      cases e
      exact ⟨a, ns, rfl, SqL.of c, k _ rfl⟩
    · cases e
  · cases e
/-- the greatest of some ints -/
def maxI : List Int → Int
  | [] => 0
  | [n] => n
  | n :: ns => max n (maxI ns)
def minI : List Int → Int
  | [] => 0
  | [n] => n
  | n :: ns => min n (minI ns)
theorem maxI_of : ∀ {ns : List Int} {m : Int}, m ∈ ns → (∀ y, y ∈ ns → y ≤ m) → m = maxI ns
  | [n], m, h, _ => by
    show m = n
    simpa using h
  | n :: n2 :: ns, m, h, h2 => by
    show m = max n (maxI (n2 :: ns))
    have a := h2 n List.mem_cons_self
    rcases List.mem_cons.mp h with e | e
    · have : maxI (n2 :: ns) ≤ m := by
        have mem : ∀ l : List Int, l ≠ [] → maxI l ∈ l := by
          intro l
          induction l with
          | nil => intro z; exact absurd rfl z
          | cons x l ih =>
            intro _
            cases l with
            | nil => exact List.mem_cons_self
            | cons y l =>
              show max x (maxI (y :: l)) ∈ x :: y :: l
              rcases Int.le_total x (maxI (y :: l)) with q | q
              · rw [Int.max_eq_right q]
                exact List.mem_cons_of_mem _ (ih (by simp))
              · rw [Int.max_eq_left q]
                exact List.mem_cons_self
        exact h2 _ (List.mem_cons_of_mem _ (mem _ (by simp)))
      omega
    · have := maxI_of e fun y hy => h2 y (List.mem_cons_of_mem _ hy)
      omega
theorem minI_of : ∀ {ns : List Int} {m : Int}, m ∈ ns → (∀ y, y ∈ ns → m ≤ y) → m = minI ns
  | [n], m, h, _ => by
    show m = n
    simpa using h
  | n :: n2 :: ns, m, h, h2 => by
    show m = min n (minI (n2 :: ns))
    have a := h2 n List.mem_cons_self
    rcases List.mem_cons.mp h with e | e
    · have : m ≤ minI (n2 :: ns) := by
        have mem : ∀ l : List Int, l ≠ [] → minI l ∈ l := by
          intro l
          induction l with
          | nil => intro z; exact absurd rfl z
          | cons x l ih =>
            intro _
            cases l with
            | nil => exact List.mem_cons_self
            | cons y l =>
              show min x (minI (y :: l)) ∈ x :: y :: l
              rcases Int.le_total x (minI (y :: l)) with q | q
              · rw [Int.min_eq_left q]
                exact List.mem_cons_self
              · rw [Int.min_eq_right q]
                exact List.mem_cons_of_mem _ (ih (by simp))
        exact h2 _ (List.mem_cons_of_mem _ (mem _ (by simp)))
      omega
    · have := minI_of e fun y hy => h2 y (List.mem_cons_of_mem _ hy)
      omega
def opMaxL : List D → Option D
  | [.node _ .lst xs] => match intsD xs with
    | some ns => if ns = [] then none else some (.int (maxI ns))
    | none => none
  | _ => none
def opMinL : List D → Option D
  | [.node _ .lst xs] => match intsD xs with
    | some ns => if ns = [] then none else some (.int (minI ns))
    | none => none
  | _ => none
theorem snd_maxL : Snd X (rMax X.K) opMaxL := by
  refine snd_pure fun Z H S ds vs d Q w rb e k => ?_
  unfold opMaxL at e
  split at e
  · split at e
    · rename_i ns hn
      split at e
      · cases e
      · rename_i hne
        obtain ⟨v, rfl, rv⟩ := rb1 rb
        obtain ⟨a, ys, rfl, c, rl⟩ := rep_lst w.same rv
        rw [intsD_inv hn] at rl
        have ey := reps_intsV rl
        subst ey
        cases e
        exact ⟨a, ns, rfl, SqL.of c, List.length_pos_iff.mpr hne, fun m h1 h2 => k _ (by rw [← maxI_of h1 h2]; rfl)⟩
    · cases e
  · cases e
theorem snd_minL : Snd X (rMin X.K) opMinL := by
  refine snd_pure fun Z H S ds vs d Q w rb e k => ?_
  unfold opMinL at e
  split at e
  · split at e
    · rename_i ns hn
      split at e
      · cases e
      · rename_i hne
        obtain ⟨v, rfl, rv⟩ := rb1 rb
        obtain ⟨a, ys, rfl, c, rl⟩ := rep_lst w.same rv
        rw [intsD_inv hn] at rl
        have ey := reps_intsV rl
        subst ey
        cases e
        exact ⟨a, ns, rfl, SqL.of c, List.length_pos_iff.mpr hne, fun m h1 h2 => k _ (by rw [← minI_of h1 h2]; rfl)⟩
    · cases e
  · cases e
/-! #### list(x), tuple(x) -/
def opList : List D → Option D
  | [.node _ .lst xs] => if plainL xs then some (.lst true xs) else none
  | [.node _ .tup xs] => if plainL xs then some (.lst true xs) else none
  | _ => none
theorem snd_list : Snd X (fun xs H Q => ∃ p ys, xs = [.ref p] ∧ (SqL X.K H p ys ∨ SqT X.K H p ys) ∧ ∀ l, H l = none → Q (.ref l) (upd H l (.lst ys))) opList := by
  intro Z H S ds vs d Q w rb e k
  unfold opList at e
  split at e
  · split at e
    · rename_i hp
      obtain ⟨v, rfl, rv⟩ := rb1 rb
      obtain ⟨a, ys, rfl, c, rl⟩ := rep_lst w.same rv
      cases e
      refine ⟨a, ys, rfl, .inl (SqL.of c), fun p np => ?_⟩
      obtain ⟨f1, f2, f3, f4⟩ := fresh_lst w np (rl.plain hp)
      exact k _ _ _ _ f1 f2 f3 f4
    · cases e
  · split at e
    · rename_i hp
      obtain ⟨v, rfl, rv⟩ := rb1 rb
      obtain ⟨a, ys, rfl, c, rl⟩ := rep_tup w.same rv
      cases e
      refine ⟨a, ys, rfl, .inr c, fun p np => ?_⟩
      obtain ⟨f1, f2, f3, f4⟩ := fresh_lst w np (rl.plain hp)
      exact k _ _ _ _ f1 f2 f3 f4
    · cases e
  · cases e
def opTuple : List D → Option D
  | [.node _ .lst xs] => if plainL xs then some (.tup xs) else none
  | [.node false .tup xs] => if plainL xs then some (.tup xs) else none
  | _ => none
theorem snd_tuple : Snd X (fun xs H Q => ∃ p ys, xs = [.ref p] ∧ ((SqL X.K H p ys ∧ ∀ l, H l = none → Q (.ref l) (upd H l (.tup ys))) ∨ (SqT X.K H p ys ∧ Q (.ref p) H))) opTuple := by
  intro Z H S ds vs d Q w rb e k
  unfold opTuple at e
  split at e
  · split at e
    · rename_i hp
      obtain ⟨v, rfl, rv⟩ := rb1 rb
      obtain ⟨a, ys, rfl, c, rl⟩ := rep_lst w.same rv
      cases e
      refine ⟨a, ys, rfl, .inl ⟨SqL.of c, fun p np => ?_⟩⟩
      obtain ⟨f1, f2, f3⟩ := fresh_tup w np (rl.plain hp)
      exact k _ _ _ _ f1 f2 (fun _ _ x => x) f3
    · cases e
  · split at e
    · rename_i xs hp
      obtain ⟨v, rfl, rv⟩ := rb1 rb
      cases e
      have rp : Rep X.K Z H (.tup xs) v Fp0 := Rep.plain rv (by simp [D.plain, hp])
      obtain ⟨a, ys, rfl, c, rl⟩ := rep_tup w.same rv
      exact ⟨a, ys, rfl, .inr ⟨c, k _ Z H Fp0 w.nil (fun _ _ e => e) (fun _ _ x => x) rp⟩⟩
    · cases e
  · cases e
end
end Pm
/-! PmM: divmod, repr, isinstance, what is walked, comprehensions, stores, methods. -/
namespace Pm
open PySem PySem.Spec PyProof.Rows L2
section
variable {K : PySem.W.Frag} {mg : Str → Option Value} {W : WX} {Z H : Hp} {S : Fp} {σ : Sl} {X : Cx} {A : Nat → Bool}
/-! #### divmod -/
def opDivmod : List D → Option D
  | [.int i, .int j] => if 0 < j then (if divOk j = true then some (.tup [.int (i / j), .int (i % j)]) else none) else none
  | _ => none
theorem call_divmodA : CallR X (.builtin "divmod") (fun xs H Q => ∃ i j : Int, xs = [.int i, .int j] ∧ (0 < j ∧ j.natAbs.log2 < 9000) ∧ ∀ p, H p = none → Q (.ref p) (upd H p (.tup [.int (i / j), .int (i % j)]))) := by
  intro pins s σ H xs us Q I r h
  obtain ⟨i, j, rfl, hj, q⟩ := h
  obtain ⟨u1, u2, rfl, ⟨t1, rfl⟩, ⟨t2, rfl⟩⟩ := vals2 r
  refine divmod_int (by omega) ?_ (.inl (PyProof.noPylong_of_log2 hj.2))
  have e1 : i.fdiv j = i / j := Int.fdiv_eq_ediv_of_nonneg i (by omega)
  have e2 : i.fmod j = i % j := Int.fmod_eq_emod_of_nonneg i (by omega)
  rw [e1, e2]
  have new : H s.heap.objs.size = none := I.hok.fresh (Nat.le_refl _)
  have two : [V.int (i / j), V.int (i % j)].length ≤ sizeLine := by
    rw [sizeLine_eq]
    show 2 ≤ 16777216
    decide
  exact ⟨.ref s.heap.objs.size, _, I.laid (o := .tup [.int (i / j), .int (i % j)]) (fun _ _ e => Heap.get?_push_of_some _ e) (Nat.le_refl _) ⟨two, [.int (i / j) s.toks, .int (i % j) (s.toks + 1)], .cons ⟨_, rfl⟩ (.cons ⟨_, rfl⟩ .nil), _, Heap.get?_push_size s.heap rfl, rfl, 0, rfl⟩, rfl, q _ new⟩
theorem snd_divmod : Snd X (fun xs H Q => ∃ i j : Int, xs = [.int i, .int j] ∧ (0 < j ∧ j.natAbs.log2 < 9000) ∧ ∀ p, H p = none → Q (.ref p) (upd H p (.tup [.int (i / j), .int (i % j)]))) opDivmod := by
  intro Z H S ds vs d Q w rb e k
  unfold opDivmod at e
  split at e
  · split at e
    · rename_i hj
      split at e
      · rename_i hd
        cases e
        obtain ⟨v, u, rfl, rv, ru⟩ := rb2 rb
        obtain rfl : v = .int _ := rv
        obtain rfl : u = .int _ := ru
        refine ⟨_, _, rfl, ⟨hj, of_decide_eq_true hd⟩, fun p np => ?_⟩
        obtain ⟨f1, f2, f3⟩ := fresh_tup (K := X.K) (ds := [.int _, .int _]) (vs := [.int _, .int _]) w np ⟨Fp0, Fp0, fun _ x => x, fun _ x => x, fun _ x _ => x, rfl, Fp0, Fp0, fun _ x => x, fun _ x => x, fun _ x _ => x, rfl, trivial⟩
        exact k _ _ _ _ f1 f2 (fun _ _ x => x) f3
      · cases e
    · cases e
  · cases e
/-! #### repr -/
mutual
theorem shw_ok : ∀ (n : Nat) (d : D), shw n d = true → PyData.showable (toP d) = true
  | _, .non, _ => rfl
  | _, .bl _, _ => rfl
  | n, .int i, h => by
    have q : i.natAbs.log2 < 1900 := by cases n <;> simpa [shw] using h
    simp only [toP, PyData.showable]
    exact decide_eq_true (by omega)
  | _, .str _, _ => rfl
  | _, .op _, _ => rfl
  | n, .node b k xs, h => by
    cases n with
    | zero => cases k <;> simp [shw] at h
    | succ n =>
      cases k with
      | lst =>
        simp only [toP, PyData.showable]
        exact shw_all n xs (by simpa [shw] using h)
      | tup =>
        simp only [toP, PyData.showable]
        exact shw_all n xs (by simpa [shw] using h)
      | scr => simp [shw] at h
      | dct ks => simp [shw] at h
      | obj C fs => simp [shw] at h
theorem shw_all : ∀ (n : Nat) (xs : List D), (∀ x ∈ xs, shw n x = true) → PyData.showableAll (toPL xs) = true
  | _, [], _ => rfl
  | n, x :: xs, h => by
    simp only [toPL, PyData.showableAll]
    rw [shw_ok n x (h x List.mem_cons_self), shw_all n xs fun y hy => h y (List.mem_cons_of_mem _ hy)]
    rfl
end
def reprD (d : D) : Str := (toP d).shown
def opRepr : List D → Option D
  | [.int i] => if shw 60 (.int i) = true then some (.str (reprD (.int i))) else none
  | [d] => if shp 60 d && shw 60 d && decide ((reprD d).length ≤ cap) then some (.str (reprD d)) else none
  | _ => none
def rRepr (K : PySem.W.Frag) : List V → Hp → VK → Prop := fun xs H Q => ∃ x d, xs = [x] ∧ Dp K H x d ∧ PyData.canLay0 d = true ∧ PyData.depth d ≤ 60 ∧ PyData.showable d = true ∧ (d.shown.length ≤ sizeLine ∨ ∃ i, d = .int i) ∧ Q (.str d.shown) H
theorem call_reprA (hg : X.A.guards = some []) (hu : X.A.units + 64 < cLine) : CallR X (.builtin "repr") (rRepr X.K) := by
  intro pins s σ H xs us Q I r h
  obtain ⟨x, d, rfl, hd, hc, hp, hs, hz, q⟩ := h
  obtain ⟨u, rfl, rx⟩ := vals1 r
  obtain ⟨as, rd⟩ := Dp.reads I d x u hd rx
  have nd : d.hasDict = false := PyData.hasDict_of_canLay d hc
  cases rd with
  | none => exact PySem.P.repr_of_none ⟨.str _, H, I.tok _, ⟨_, rfl⟩, q⟩
  | bool b => exact PySem.P.repr_of_bool ⟨.str _, H, I.tok _, ⟨_, rfl⟩, q⟩
  | int i t => exact PySem.P.repr_of_int (of_decide_eq_true hs) ⟨.str _, H, I.tok _, ⟨_, rfl⟩, q⟩
  | str z t => exact PySem.P.repr_of_str ⟨.str _, H, I.tok _, ⟨_, rfl⟩, q⟩ (hz.elim id fun ⟨_, e⟩ => nomatch e)
  | list h1 h2 h3 h4 => exact repr_of_reads' (Reads.list h1 h2 h3 h4) hs (PyData.noDict_hsm nd) hg (by omega) (fun _ _ e => e) (fun h' u tk k => ⟨.str _, H, I.kept k, ⟨_, rfl⟩, q⟩) (hz.elim id fun ⟨_, e⟩ => nomatch e)
  | tuple h1 h2 h3 h4 => exact repr_of_reads' (Reads.tuple h1 h2 h3 h4) hs (PyData.noDict_hsm nd) hg (by omega) (fun _ _ e => e) (fun h' u tk k => ⟨.str _, H, I.kept k, ⟨_, rfl⟩, q⟩) (hz.elim id fun ⟨_, e⟩ => nomatch e)
  | dict => simp [PyData.hasDict] at nd
theorem snd_repr : Snd X (rRepr X.K) opRepr := by
  refine snd_pure fun Z H S ds vs d Q w rb e k => ?_
  unfold opRepr at e
  split at e
  · rename_i x
    split at e
    · rename_i c
      obtain ⟨v, rfl, rv⟩ := rb1 rb
      cases e
      exact ⟨v, toP (.int x), rfl, dp_of w.same 60 (.int x) v S rfl rv, (shp_can 60 (.int x) rfl).1, (shp_can 60 (.int x) rfl).2, shw_ok 60 (.int x) c, .inr ⟨x, rfl⟩, k _ rfl⟩
    · cases e
  · rename_i x _
    split at e
    · rename_i c
      rw [Bool.and_eq_true, Bool.and_eq_true] at c
      obtain ⟨⟨c1, c2⟩, c3⟩ := c
      obtain ⟨v, rfl, rv⟩ := rb1 rb
      obtain ⟨a, b⟩ := shp_can 60 x c1
      cases e
      exact ⟨v, toP x, rfl, dp_of w.same 60 x v S c1 rv, a, b, shw_ok 60 x c2, .inl (cap_le (of_decide_eq_true c3)), k _ rfl⟩
    · cases e
  · cases e
/-! #### isinstance -/
def tyN : D → Option String
  | .non => some "NoneType"
  | .bl _ => some "bool"
  | .int _ => some "int"
  | .str _ => some "str"
  | .node _ .lst _ => some "list"
  | .node _ .tup _ => some "tuple"
  | .node _ (.dct _) _ => some "dict"
  | _ => none
def opIsi : List D → Option D
  | [d, .op (.ty n)] => match tyN d with
    | some t => match kitB t n with
      | some b => some (.bl b)
      | none => none
    | none => none
  | _ => none
theorem tyX_of {d : D} {v : V} {t : String} (w : Same Z H) (r : Rep K Z H d v S) (h : tyN d = some t) : TyX K H v (.type t) := by
  cases d with
  | non => obtain rfl : v = .non := r; cases h; exact .base .non
  | bl b => obtain rfl : v = .bl b := r; cases h; exact .base (.bl b)
  | int b => obtain rfl : v = .int b := r; cases h; exact .base (.int b)
  | str b => obtain rfl : v = .str b := r; cases h; exact .base (.str b)
  | op u => cases h
  | node b k xs =>
    cases k with
    | lst =>
      obtain ⟨a, ys, rfl, c, rl⟩ := rep_lst w r
      cases h
      exact .base (.lst c)
    | tup =>
      obtain ⟨a, ys, rfl, c, rl⟩ := rep_tup w r
      cases h
      rcases c with (c | ⟨o, c⟩) | ⟨o, its, n, c, oc, _⟩
      · exact .base (.tup c)
      · exact .fTuple c
      · exact .kTuple c oc
    | scr => cases h
    | obj C fs => cases h
    | dct ks =>
      cases h
      cases b with
      | false =>
        obtain ⟨a, ys, rfl, c, rl⟩ := r
        exact .base (.dK (w _ _ c.2))
      | true =>
        obtain ⟨a, ys, S', rfl, c, _⟩ := r
        exact .base (.dK c.2)
theorem snd_isi : Snd X (rIsi X.K) opIsi := by
  refine snd_pure fun Z H S ds vs d Q w rb e k => ?_
  unfold opIsi at e
  split at e
  · split at e
    · rename_i t ht
      split at e
      · rename_i b hb
        obtain ⟨v, u, rfl, rv, ru⟩ := rb2 rb
        obtain rfl : u = .ty _ := ru
        cases e
        exact ⟨v, _, _, _, b, rfl, .ty _, tyX_of w.same rv ht, kit_ty hb, k _ rfl⟩
      · cases e
    · cases e
  · cases e
/-! ### what is walked -/
def rangeD (lo : Int) (n : Nat) : List D := (List.range n).map fun (i : Nat) => .int (lo + (i : Int))
/-- (not to be unfolded with numbers that are not known: the kernel would count) -/
noncomputable def sm62 (i : Int) : Bool := @decide (-(2 ^ 62) ≤ i ∧ i < 2 ^ 62) (Classical.propDecidable _)
theorem sm62_ok {i : Int} (h : sm62 i = true) : -(2 ^ 62) ≤ i ∧ i < 2 ^ 62 := @of_decide_eq_true _ (Classical.propDecidable _) h
theorem sm62_of {i : Int} (h : -(2 ^ 62) ≤ i ∧ i < 2 ^ 62) : sm62 i = true := @decide_eq_true _ (Classical.propDecidable _) h
noncomputable def srcR1 (fs : M (List EV)) : M (List D) := bnd fs fun es => fun ρ => match peeks ρ es with
  | some [.int j] => if sm62 j then .ok (rangeD 0 j.toNat) ρ else .stuck
  | _ => .stuck
noncomputable def srcR2 (fs : M (List EV)) : M (List D) := bnd fs fun es => fun ρ => match peeks ρ es with
  | some [.int i, .int j] => if sm62 i && sm62 j then .ok (rangeD i (j - i).toNat) ρ else .stuck
  | _ => .stuck
theorem walk_rng (lo : Int) (n : Nat) : WalkR K (Itr lo n) Z (rangeD lo n) := by
  intro Z' H' _ _
  refine ⟨fun i hi => by unfold rangeD at hi; rw [List.length_map, List.length_range] at hi; exact hi, fun i d hd => ?_⟩
  unfold rangeD at hd
  rw [List.getElem?_map] at hd
  cases e : (List.range n)[i]? with
  | none => rw [e] at hd; cases hd
  | some j =>
    rw [e] at hd
    obtain ⟨hl, ej⟩ := List.getElem?_eq_some_iff.mp e
    rw [List.getElem_range] at ej
    subst ej
    rw [List.length_range] at hl
    refine ⟨hl, fun x H'' S' w h => ?_⟩
    obtain ⟨rfl, rfl⟩ := h
    cases hd
    exact ⟨Z', Step.refl w, fun _ _ e => e, rfl⟩
theorem pi_R1 {tg a : Expr} {fs : M (List EV)} {p pos : Pos} (hg : Gl X "range") (hm : X.mg "range" = none) (ha : PA X [a] (tA X.K X.mg W fs)) (hs : starEach [a] X.env = [(false, eval a X.env)]) : PI X tg (.Call (.Name "range" p) [a] [] pos) (tI X.K X.mg W (srcR1 fs)) :=
  PI.of (pi_range1 hg hm ha hs) fun σ H R q => by
    obtain ⟨Z, ρ, S, w, er, o⟩ := q
    refine ⟨Z, ρ, S, w, er, ?_⟩
    simp only [srcR1, bnd] at o
    cases e1 : fs ρ with
    | stuck => rw [e1] at o; exact o
    | exc x ρ1 => rw [e1] at o; exact o
    | ok es ρ1 =>
      simp only [e1] at o
      intro vs Z1 H1 S1 Sa st dj er1 r1
      split at o
      · rename_i j hp
        obtain ⟨v, rfl, rv⟩ := rb1 (peeks_rep er1 r1 hp)
        obtain rfl : v = .int j := rv
        split at o
        · rename_i hs
          have hs' : -(2 ^ 62) ≤ j ∧ j < 2 ^ 62 := sm62_ok hs
          exact ⟨j, rfl, hs'.1, hs'.2, o _ Z1 H1 S1 (st.less fun a x => .inl x) er1 (walk_rng 0 _)⟩
        · exact o.elim
      · exact o.elim
theorem pi_R2 {tg a b : Expr} {fs : M (List EV)} {p pos : Pos} (hg : Gl X "range") (hm : X.mg "range" = none) (ha : PA X [a, b] (tA X.K X.mg W fs)) (hs : starEach [a, b] X.env = [(false, eval a X.env), (false, eval b X.env)]) (hs2 : starEach [b] X.env = [(false, eval b X.env)]) :
    PI X tg (.Call (.Name "range" p) [a, b] [] pos) (tI X.K X.mg W (srcR2 fs)) :=
  PI.of (pi_range2 hg hm ha hs hs2) fun σ H R q => by
    obtain ⟨Z, ρ, S, w, er, o⟩ := q
    refine ⟨Z, ρ, S, w, er, ?_⟩
    simp only [srcR2, bnd] at o
    cases e1 : fs ρ with
    | stuck => rw [e1] at o; exact o
    | exc x ρ1 => rw [e1] at o; exact o
    | ok es ρ1 =>
      simp only [e1] at o
      intro vs Z1 H1 S1 Sa st dj er1 r1
      split at o
      · rename_i i j hp
        obtain ⟨v, u, rfl, rv, ru⟩ := rb2 (peeks_rep er1 r1 hp)
        obtain rfl : v = .int i := rv
        obtain rfl : u = .int j := ru
        split at o
        · rename_i hs
          rw [Bool.and_eq_true] at hs
          have hs1 : -(2 ^ 62) ≤ i ∧ i < 2 ^ 62 := sm62_ok hs.1
          have hs2 : -(2 ^ 62) ≤ j ∧ j < 2 ^ 62 := sm62_ok hs.2
          exact ⟨i, j, rfl, ⟨hs1.1, hs1.2, hs2.1, hs2.2⟩, o _ Z1 H1 S1 (st.less fun a x => .inl x) er1 (walk_rng i _)⟩
        · exact o.elim
      · exact o.elim
/-! #### a text, sign by sign; anything of these -/
def signsD (x : Str) : List D := x.cps.toList.map fun c => .str ⟨#[c]⟩
theorem walk_str (x : Str) : WalkR K (Its x) Z (signsD x) := by
  intro Z' H' _ _
  refine ⟨fun i hi => by unfold signsD at hi; rw [List.length_map, Array.length_toList] at hi; exact hi, fun i d hd => ?_⟩
  unfold signsD at hd
  rw [List.getElem?_map] at hd
  cases e : x.cps.toList[i]? with
  | none => rw [e] at hd; cases hd
  | some c =>
    rw [e] at hd
    have hl : i < x.cps.size := by
      have := (List.getElem?_eq_some_iff.mp e).1
      simpa using this
    refine ⟨hl, fun y H'' S' w h => ?_⟩
    obtain ⟨rfl, c', hc', rfl⟩ := h
    have ec : c' = c := by
      have e' : x.cps[i]? = some c := by simpa using e
      rw [e'] at hc'
      exact (Option.some.inj hc').symm
    subst ec
    cases hd
    exact ⟨Z', Step.refl w, fun _ _ e => e, rfl⟩
def srcA (f : M EV) : M (List D) := bnd f fun e => bnd (use1 e) fun d => match d with
  | .node _ .lst ds => ret (frzL ds)
  | .node _ .tup ds => ret (frzL ds)
  | .str x => ret (signsD x)
  | _ => fun _ => .stuck
theorem PI.or {tg iter : Expr} {t1 t2 : TI} (h1 : PI X tg iter t1) (h2 : PI X tg iter t2) : PI X tg iter (fun σ H R => t1 σ H R ∨ t2 σ H R) := ⟨fun p s σ H R I q => q.elim (h1.run p s σ H R I) (h2.run p s σ H R I)⟩
theorem srcA_lst {f : M EV} {ρ : Env} {r : Res (List D)} (h : ∀ ev ρ1 d ρ2, f ρ = .ok ev ρ1 → use1 ev ρ1 = .ok d ρ2 → ∃ b ds, d = .node b .lst ds) : srcA f ρ = srcSeq f .lst ρ := by
  simp only [srcA, srcSeq, bnd]
  cases e1 : f ρ with
  | stuck => rfl
  | exc x ρ1 => rfl
  | ok ev ρ1 =>
    simp only
    cases e2 : use1 ev ρ1 with
    | stuck => rfl
    | exc x ρ2 => rfl
    | ok d ρ2 =>
      obtain ⟨b, ds, rfl⟩ := h ev ρ1 d ρ2 e1 e2
      simp
theorem pi_A {tg l : Expr} {f : M EV} (h : PE X l (tE X.K X.mg W f)) : PI X tg l (tI X.K X.mg W (srcA f)) := by
  refine PI.of (PI.or (pi_seqL h) (PI.or (pi_seqT h) (pi_str h))) fun σ H R q => ?_
  obtain ⟨Z, ρ, S, w, er, o⟩ := q
  cases e1 : f ρ with
  | stuck => simp only [srcA, bnd, e1] at o; exact o.elim
  | exc x ρ1 =>
    refine .inl ⟨Z, ρ, S, w, er, ?_⟩
    simp only [srcA, bnd, e1] at o
    simp only [srcSeq, bnd, e1]
    exact o
  | ok ev ρ1 =>
    cases e2 : use1 ev ρ1 with
    | stuck => simp only [srcA, bnd, e1, e2] at o; exact o.elim
    | exc x ρ2 => exact absurd e2 use1_noexc
    | ok d ρ2 =>
      simp only [srcA, bnd, e1, e2] at o
      split at o
      · refine .inl ⟨Z, ρ, S, w, er, ?_⟩
        simp only [srcSeq, bnd, e1, e2, if_true]
        exact o
      · refine .inr (.inl ⟨Z, ρ, S, w, er, ?_⟩)
        simp only [srcSeq, bnd, e1, e2, if_true]
        exact o
      · rename_i x
        refine .inr (.inr ⟨Z, ρ, S, w, er, ?_⟩)
        simp only [e1]
        intro v Z1 H1 S1 Sa st dj er1 r1
        have w1 : Wd Z1 H1 (fun a => (S1 a ∨ Sa a) ∨ Fp0 a) := st.wd.less fun a x => x.elim id False.elim
        obtain ⟨Z2, S2, st2, m2, er2, r2⟩ := use1_ok w1 dj (fun _ _ x => x) er1 r1 e2
        obtain rfl : v = .str x := r2
        have st2' : Step Z1 H1 (fun a => S1 a ∨ Sa a) Z2 H1 S2 := ⟨st2.wd.less fun a x => .inl (.inl x), st2.zz, fun a o n e => e, fun a x => .inl (.inl (m2 a x)), fun a o e => (st2.znew a o e).elim .inl fun y => .inr (y.elim (fun z => z.elim .inl False.elim) .inr)⟩
        exact ⟨x, rfl, o (Its x) Z2 H1 S2 (st.trans st2') er2 (walk_str x)⟩
      · exact o.elim
end
end Pm
/-! PmN: comprehensions, stores, methods of lists, calls with keywords. -/
namespace Pm
open PySem PySem.Spec PyProof.Rows L2
section
variable {K : PySem.W.Frag} {mg : Str → Option Value} {W : WX} {Z H : Hp} {S : Fp} {σ : Sl} {X : Cx} {A : Nat → Bool}
/-! ### comprehensions -/
abbrev wF : WX := fun _ _ _ _ => False
def wipeE (ρ : Env) : List Nat → Env
  | [] => ρ
  | v :: vs => (wipeE ρ vs).set v none
/-- plain things come back to the names of the block -/
def backE (ρ ρ' : Env) : List Nat → Env
  | [] => ρ'
  | v :: vs => match ρ.getD v none with
    | some d => if d.plain then (backE ρ ρ' vs).set v (some d) else backE ρ ρ' vs
    | none => backE ρ ρ' vs
def compIt (own : List Nat) (g : Tg) (c : M Bool) (e : M EV) : List D → Env → List D → Res (List D)
  | [], ρ, acc => .ok acc ρ
  | d :: ds, ρ, acc => match g d ρ with
    | .ok _ ρ1 => match c ρ1 with
      | .ok true ρ2 => match e ρ2 with
        | .ok ev ρ3 => match use1 ev ρ3 with
          | .ok d' ρ4 => if acc.length < cap then compIt own g c e ds (wipeE ρ4 own) (acc ++ [d']) else .stuck
          | _ => .stuck
        | _ => .stuck
      | .ok false ρ2 => compIt own g c e ds (wipeE ρ2 own) acc
      | _ => .stuck
    | _ => .stuck
def comp (own : List Nat) (s : M (List D)) (g : Tg) (c : M Bool) (e : M EV) : M EV := bnd s fun ds => fun ρ => match compIt own g c e ds (wipeE ρ own) [] with
  | .ok acc ρ' => .ok (.val (.lst true acc)) (backE ρ ρ' own)
  | _ => .stuck
theorem EnvR.wipe {ρ : Env} : ∀ {own : List Nat}, EnvR K Z H ρ σ S → EnvR K Z H (wipeE ρ own) (L2.wipe σ own) S
  | [], h => h
  | v :: vs, h => by
    have q := (EnvR.wipe (own := vs) h).drop v
    have hn : ∀ {ρ : Env} {σ : Sl}, EnvR K Z H (ρ.set v none) σ S → EnvR K Z H (ρ.set v none) (σ.set v none) S := fun {ρ σ} h => by
      by_cases hv : v < ρ.length
      · exact h.any none (by rw [List.getElem?_set_self hv])
      · have hl := h.length
        rw [List.length_set] at hl
        rw [List.set_eq_of_length_le (l := σ) (by omega)]
        exact h
    exact hn q
theorem EnvR.unwipe {ρ : Env} : ∀ {own : List Nat}, EnvR K Z H (wipeE ρ own) (L2.wipe σ own) S → EnvR K Z H (wipeE ρ own) σ S
  | [], h => h
  | v :: vs, h => by
    have key : ∀ (own : List Nat) (ρ : Env) (σ : Sl), (∀ v ∈ own, ρ[v]? = some none ∨ ρ.length ≤ v) → EnvR K Z H ρ (L2.wipe σ own) S → EnvR K Z H ρ σ S := by
      intro own
      induction own with
      | nil => exact fun _ _ _ h => h
      | cons v vs ih =>
        intro ρ σ hn h
        have h' : EnvR K Z H ρ ((L2.wipe σ vs).set v none) S := h
        refine ih ρ σ (fun u hu => hn u (List.mem_cons_of_mem _ hu)) ?_
        rcases hn v List.mem_cons_self with e | e
        · have lv : v < (L2.wipe σ vs).length := by
            have := h'.length
            rw [List.length_set] at this
            have := (List.getElem?_eq_some_iff.mp e).1
            omega
          have q := h'.any ((L2.wipe σ vs)[v]) e
          rw [List.set_set, List.set_getElem_self] at q
          exact q
        · have := h'.length
          rw [List.length_set] at this
          rw [List.set_eq_of_length_le (by omega)] at h'
          exact h'
    refine key (v :: vs) (wipeE ρ (v :: vs)) σ (fun u hu => ?_) h
    have all : ∀ (own : List Nat) (ρ : Env), ∀ u ∈ own, (wipeE ρ own)[u]? = some none ∨ (wipeE ρ own).length ≤ u := by
      intro own
      induction own with
      | nil => exact fun _ u hu => by cases hu
      | cons v vs ih =>
        intro ρ u hu
        unfold wipeE
        by_cases e : u = v
        · subst e
          by_cases hl : u < (wipeE ρ vs).length
          · exact .inl (by rw [List.getElem?_set_self hl])
          · exact .inr (by rw [List.length_set]; omega)
        · rw [List.getElem?_set_ne (Ne.symm e), List.length_set]
          exact ih ρ u ((List.mem_cons.mp hu).resolve_left e)
    exact all _ _ u hu
theorem wipeE_back {ρ0 : Env} {Z0 H0 : Hp} {S0 : Fp} (e0 : EnvR K Z0 H0 ρ0 σ S0) (zz : Same Z0 Z) : ∀ {own : List Nat} {ρ : Env}, EnvR K Z H ρ σ S → EnvR K Z H (backE ρ0 ρ own) σ S
  | [], _, h => h
  | v :: vs, ρ, h => by
    unfold backE
    have ih := wipeE_back e0 zz (own := vs) h
    split
    · rename_i d hd
      split
      · rename_i hp
        obtain ⟨u, S1, S2, hu, s1, s2, dj, r, _⟩ := e0.take (getD_some hd)
        have rp : Rep K Z H d u Fp0 := (Rep.plain (H' := H0) r hp).move zz (fun _ _ x => x.elim) fun _ x => x
        obtain ⟨hl, he⟩ := List.getElem?_eq_some_iff.mp hu
        have q := EnvR.put (S := S) (ih.drop v) (by rw [ih.length]; exact hl) rp (fun _ x => x.elim) (fun _ x => x) fun _ x _ => x
        rw [← he, List.set_getElem_self] at q
        exact q
      · exact ih
    · exact ih
theorem wipe_keep {own : List Nat} {σ' : Sl} (kp : Keep (fun j => decide (j ∈ own)) σ σ') : L2.wipe σ' own = L2.wipe σ own := by
  have hl := kp.2
  refine List.ext_getElem? fun i => ?_
  have key : ∀ (own2 : List Nat), (∀ σ : Sl, (L2.wipe σ own2)[i]? = if i ∈ own2 then (if i < σ.length then some none else none) else σ[i]?) := by
    intro own2
    induction own2 with
    | nil => intro σ; simp [L2.wipe]
    | cons v vs ih =>
      intro σ
      unfold L2.wipe
      by_cases e : i = v
      · subst e
        rw [if_pos List.mem_cons_self]
        by_cases hi : i < σ.length
        · rw [if_pos hi, List.getElem?_set_self (by rw [wipe_length]; exact hi)]
        · rw [if_neg hi, List.getElem?_eq_none (by rw [List.length_set, wipe_length]; omega)]
      · rw [List.getElem?_set_ne (Ne.symm e), ih σ]
        by_cases m : i ∈ vs
        · rw [if_pos m, if_pos (List.mem_cons_of_mem _ m)]
        · rw [if_neg m, if_neg fun q => m ((List.mem_cons.mp q).resolve_left e)]
  rw [key own σ', key own σ, hl]
  by_cases m : i ∈ own
  · rw [if_pos m, if_pos m]
  · rw [if_neg m, if_neg m]
    exact kp.1 i (decide_eq_false m)
theorem wipe_wipe {own : List Nat} : L2.wipe (L2.wipe σ own) own = L2.wipe σ own := by
  refine wipe_keep (σ := σ) ⟨fun j hj => ?_, wipe_length _ _⟩
  have hj' : j ∉ own := of_decide_eq_false hj
  have : ∀ (vs : List Nat), j ∉ vs → (L2.wipe σ vs)[j]? = σ[j]? := by
    intro vs
    induction vs with
    | nil => exact fun _ => rfl
    | cons v vs ih =>
      intro h
      unfold L2.wipe
      rw [List.getElem?_set_ne (fun e => h (by rw [e]; exact List.mem_cons_self))]
      exact ih fun q => h (List.mem_cons_of_mem _ q)
  exact this own hj'
theorem tE_comp {own : List Nat} {s : M (List D)} {g : Tg} {c : M Bool} {e : M EV} {Q : VK} (h : tE K mg W (comp own s g c e) σ H Q) :
    tLc (tI K mg W s) (tG K (fun j => decide (j ∈ own)) g) (tT K mg wF c) (tE K mg wF e) own σ H Q := by
  obtain ⟨Z, ρ, S, w, er, o⟩ := h
  refine ⟨Z, ρ, S, w, er, ?_⟩
  simp only [comp, bnd] at o
  cases e1 : s ρ with
  | stuck => rw [e1] at o; exact o
  | exc x ρ1 => rw [e1] at o; exact o
  | ok ds ρ1 =>
    simp only [e1] at o
    intro J Z1 H1 S1 st er1 wk L hL
    cases e2 : compIt own g c e ds (wipeE ρ1 own) [] with
    | stuck => simp only [e2] at o; exact o.elim
    | exc x ρ2 => simp only [e2] at o; exact o.elim
    | ok accF ρF =>
      simp only [e2] at o
      -- the turns: what was made so far stands at L
      obtain ⟨f1, f2, f3, f4⟩ := fresh_lst (K := K) (ds := []) (vs := []) st.wd hL trivial
      refine ⟨fun i m H' => ∃ Z' ρ' S' Sa acc ys, Step Z1 H1 S1 Z' H' (fun a => S' a ∨ (a = L ∨ Sa a)) ∧ (∀ a, S' a → (a = L ∨ Sa a) → False) ∧ EnvR K Z' H' (wipeE ρ' own) (L2.wipe σ own) S' ∧ H' L = some (.lst ys) ∧ ¬ Sa L ∧ RepL K Z' H' acc ys Sa ∧ i + m = ds.length ∧
        compIt own g c e (ds.drop i) (wipeE ρ' own) acc = .ok accF ρF, ⟨ds.length, Z1, ρ1, S1, Fp0, [], [], f1.less fun a x => x.elim .inl fun y => .inr (y.elim id False.elim), fun a x y => y.elim (f3 a x) False.elim, (er1.move (Same.refl _) (fun a o _ e => f2 a o e) fun _ x => x).wipe, upd_same, fun x => x, trivial, by omega, e2⟩, ?_⟩
      rintro i m H2 ⟨Z2, ρ2, S2, Sa, acc, ys, st2, dj2, er2, hys, nL, ra, him, ci⟩
      obtain ⟨w3, w4⟩ := wk Z2 H2 st2.zz st2.wd.same
      by_cases hi : i < ds.length
      · obtain ⟨go, yl⟩ := w4 i ds[i] (List.getElem?_eq_getElem hi)
        have ed : ds.drop i = ds[i] :: ds.drop (i + 1) := List.drop_eq_getElem_cons hi
        rw [ed] at ci
        refine .inr ⟨go, fun H' => ∃ Z' ρ' S' Sa acc ys, Step Z1 H1 S1 Z' H' (fun a => S' a ∨ (a = L ∨ Sa a)) ∧ (∀ a, S' a → (a = L ∨ Sa a) → False) ∧ EnvR K Z' H' (wipeE ρ' own) (L2.wipe σ own) S' ∧ H' L = some (.lst ys) ∧ ¬ Sa L ∧ RepL K Z' H' acc ys Sa ∧ (i + 1) + (m - 1) = ds.length ∧
          compIt own g c e (ds.drop (i + 1)) (wipeE ρ' own) acc = .ok accF ρF, fun H' q => ⟨m - 1, by omega, q⟩, fun x H3 y => ?_⟩
        obtain ⟨Z3, st3, k3, r3⟩ := yl x H3 (fun a => S2 a ∨ (a = L ∨ Sa a)) st2.wd y
        have er3 : EnvR K Z3 H3 (wipeE ρ2 own) (L2.wipe σ own) S2 := er2.move st3.zz (fun a o _ e => k3 a o e) fun _ x => x
        have w3' : Wd Z3 H3 (fun a => S2 a ∨ Fp0 a) := st3.wd.less fun a x => x.elim .inl False.elim
        refine ⟨Z3, wipeE ρ2 own, S2, Fp0, ds[i], w3', fun _ _ x => x, er3, r3, ?_⟩
        simp only [compIt] at ci
        cases e3 : g ds[i] (wipeE ρ2 own) with
        | stuck => rw [e3] at ci; cases ci
        | exc x ρ3 => rw [e3] at ci; cases ci
        | ok u ρ3 =>
          simp only [e3] at ci
          intro σ4 Z4 H4 S4 kp4 st4 er4
          have hw4 : L2.wipe σ4 own = L2.wipe σ own := (wipe_keep kp4).trans wipe_wipe
          refine ⟨hw4, ?_⟩
          obtain ⟨F, hF⟩ : ∃ F : Fp, F = fun a => a = L ∨ Sa a := ⟨_, rfl⟩
          have dF : ∀ a, S2 a → F a → False := fun a x y => dj2 a x (by rw [hF] at y; exact y)
          have w3F : Wd Z3 H3 (fun a => S2 a ∨ F a) := by rw [hF]; exact st3.wd
          have st13 : Step Z1 H1 S1 Z3 H3 (fun a => S2 a ∨ F a) := by rw [hF]; exact st2.trans st3
          have st4' : Step Z3 H3 S2 Z4 H4 S4 := (Step.less (Step.refl (w3F.less fun a x => .inl x)) (S2 := fun a => S2 a ∨ Fp0 a) (fun a x => x.elim id False.elim)).trans st4
          have st4F := st4'.frame w3F dF
          have dF4 := st4'.apart (fun a x => w3F.dom a (.inr x)) dF
          have ra3 : RepL K Z3 H3 acc ys Sa := ra.move st3.zz (fun a o _ e => k3 a o e) fun _ x => x
          have subSa : ∀ a, Sa a → F a := fun a x => by rw [hF]; exact .inr x
          have inL : F L := by rw [hF]; exact .inl rfl
          have ra4 : RepL K Z4 H4 acc ys Sa := st4'.stayL (fun a x y => dF a x (subSa a y)) ra3
          have hy4 : H4 L = some (.lst ys) := st4'.fr L _ (fun x => dF L x inL) (k3 _ _ hys)
          refine ⟨Z4, ρ3, S4, st4.wd, er4, ?_⟩
          cases e4 : c ρ3 with
          | stuck => rw [e4] at ci; cases ci
          | exc x ρ4 => rw [e4] at ci; cases ci
          | ok t ρ4 =>
            intro Z5 H5 S5 st5 er5
            have st5F := st5.frame st4F.wd dF4
            have dF5 := st5.apart (fun a x => st4F.wd.dom a (.inr x)) dF4
            have ra5 : RepL K Z5 H5 acc ys Sa := st5.stayL (fun a x y => dF4 a x (subSa a y)) ra4
            have hy5 : H5 L = some (.lst ys) := st5.fr L _ (fun x => dF4 L x inL) hy4
            have st15 : Step Z1 H1 S1 Z5 H5 (fun a => S5 a ∨ F a) := (st13.trans st4F).trans st5F
            cases t with
            | false =>
              rw [if_neg Bool.false_ne_true]
              simp only [e4] at ci
              refine ⟨Z5, ρ4, S5, Sa, acc, ys, by rw [hF] at st15; exact st15, fun a x y => dF5 a x (by rw [hF]; exact y), ?_, hy5, nL, ra5, by omega, ci⟩
              have q := er5.wipe (own := own)
              rw [hw4] at q
              exact q
            | true =>
              rw [if_pos rfl]
              simp only [e4] at ci
              refine ⟨Z5, ρ4, S5, st5.wd, er5, ?_⟩
              cases e5 : e ρ4 with
              | stuck => rw [e5] at ci; cases ci
              | exc x ρ5 => rw [e5] at ci; cases ci
              | ok ev ρ5 =>
                simp only [e5] at ci
                intro v Z6 H6 S6 Sd st6 dj6 er6 r6
                have st6F := st6.frame st5F.wd dF5
                have dF6 := st6.apart (fun a x => st5F.wd.dom a (.inr x)) dF5
                have ra6 : RepL K Z6 H6 acc ys Sa := st6.stayL (fun a x y => dF5 a x (subSa a y)) ra5
                have hy6 : H6 L = some (.lst ys) := st6.fr L _ (fun x => dF5 L x inL) hy5
                cases e6 : use1 ev ρ5 with
                | stuck => rw [e6] at ci; cases ci
                | exc x ρ6 => rw [e6] at ci; cases ci
                | ok d' ρ6 =>
                  simp only [e6] at ci
                  by_cases hz : acc.length < cap
                  · rw [if_pos hz] at ci
                    have w6 : Wd Z6 H6 (fun a => (S6 a ∨ Sd a) ∨ F a) := st6F.wd
                    obtain ⟨Z7, S7, st7, m7, er7, r7⟩ := use1_ok w6 dj6 dF6 er6 r6 e6
                    have ra7 : RepL K Z7 H6 acc ys Sa := ra6.move st7.zz (fun _ _ _ x => x) fun _ x => x
                    refine ⟨ys, hy6, by rw [← ra.length]; exact Nat.lt_trans hz (by rw [sizeLine_eq]; decide), ?_⟩
                    have st8 : Step Z7 H6 (fun a => (S7 a ∨ Sd a) ∨ F a) Z7 (upd H6 L (.lst (ys ++ [v]))) (fun a => (S7 a ∨ Sd a) ∨ F a) := Step.write st7.wd (.inr inL)
                    have neL : ∀ {T : Fp}, (∀ a, T a → a = L → False) → ∀ a o, T a → H6 a = some o → upd H6 L (.lst (ys ++ [v])) a = some o := fun {T} n a o t e => by rw [upd_ne fun q => n a t q]; exact e
                    refine ⟨Z7, ρ6, S7, fun a => Sa a ∨ Sd a, acc ++ [d'], ys ++ [v], ?_, ?_, ?_, upd_same, ?_, ?_, by omega, ci⟩
                    · refine ((((st15.trans st6F).trans st7).trans st8)).less fun a x => ?_
                      rcases x with x | x | x | x
                      · exact .inl (.inl x)
                      · exact .inr (by rw [hF]; exact .inl x)
                      · exact .inr (subSa a x)
                      · exact .inl (.inr x)
                    · intro a x y
                      rcases y with y | y | y
                      · exact dF6 a (.inl (m7 a x)) (by rw [hF]; exact .inl y)
                      · exact dF6 a (.inl (m7 a x)) (subSa a y)
                      · exact dj6 a (m7 a x) y
                    · have q := er7.wipe (own := own)
                      rw [hw4] at q
                      exact q.move (Same.refl _) (neL fun a t q => dF6 a (.inl (m7 a t)) (by rw [q]; exact inL)) fun _ x => x
                    · rintro (x | x)
                      · exact nL x
                      · exact dF6 L (.inr x) inL
                    · exact RepL.append (ra7.move (Same.refl _) (neL fun a t q => nL (by rw [← q]; exact t)) fun _ x => x) ⟨Sd, Fp0, fun _ x => x, fun _ x => x.elim, fun _ _ x => x, r7.move (Same.refl _) (neL fun a t q => dF6 a (.inr t) (by rw [q]; exact inL)) fun _ x => x, trivial⟩ (fun a x => .inl x) (fun a x => .inr x) fun a x y => dF6 a (.inr y) (subSa a x)
                  · rw [if_neg hz] at ci
                    cases ci
      · refine .inl ⟨w3 i (by omega), ?_⟩
        rw [List.drop_eq_nil_of_le (by omega)] at ci
        simp only [compIt, Res.ok.injEq] at ci
        obtain ⟨rfl, rfl⟩ := ci
        have er2' := wipeE_back er1 st2.zz (own := own) er2.unwipe
        exact o (.ref L) Z2 H2 S2 (fun a => a = L ∨ Sa a) (st.trans st2) dj2 er2' ⟨L, ys, Sa, rfl, hys, .inl rfl, nL, fun a x => .inr x, ra⟩
end
end Pm
/-! PmO: statements with comprehensions, stores, methods of lists, calls with keywords, two names at once, op=. -/
namespace Pm
open PySem PySem.Spec PyProof.Rows L2
section
variable {K : PySem.W.Frag} {mg : Str → Option Value} {W : WX} {Z H : Hp} {S : Fp} {σ : Sl} {X : Cx} {A : Nat → Bool}
def yesT : M Bool := ret true
theorem tT_yes {Q : Bool → Hp → Prop} (h : tT K mg W yesT σ H Q) : tYes σ H Q := by
  obtain ⟨Z, ρ, S, w, er, o⟩ := h
  exact o Z H S (Step.refl w) er
theorem PTs.of {es : List Expr} {t t' : TT} (h : PTs X es t) (i : ∀ σ H Q, t' σ H Q → t σ H Q) : PTs X es t' := ⟨fun p s σ H Q I q => h.run p s σ H Q I (i σ H Q q)⟩
theorem pts_N : PTs X [] (tT X.K X.mg W yesT) := PTs.of pts_nil fun _ _ _ q => tT_yes q
theorem pts_1 {c : Expr} {f : M Bool} (h : PT X c (tT X.K X.mg W f)) : PTs X [c] (tT X.K X.mg W f) := pts_one h
abbrev ownA (own : List (Str × Nat)) : Nat → Bool := fun j => decide (j ∈ own.map (·.2))
theorem pe_C {elt tg iter : Expr} {ifs : List Expr} {scope : Scope} {own : List (Str × Nat)} {pos : Pos} {s : M (List D)} {g : Tg} {c : M Bool} {e : M EV} (hc : X.calm = true) (hN : X.N.Nodup) (hi : PI X tg iter (tI X.K X.mg W s)) (ok : BlkOk X.N X.env.scope scope own)
    (hg : ∀ (s : Shared) (H : Hp) (C : Addr) (cl : List (Str × Addr)) (fp : List Addr), PG (X.blk s H scope (compEnvC scope cl C X.env) fp) tg (tG X.K (ownA own) g)) (ht : ∀ (s : Shared) (H : Hp) (C : Addr) (cl : List (Str × Addr)) (fp : List Addr), PTs (X.blk s H scope (compEnvC scope cl C X.env) fp) ifs (tT X.K X.mg wF c))
    (he : ∀ (s : Shared) (H : Hp) (C : Addr) (cl : List (Str × Addr)) (fp : List Addr), PE (X.blk s H scope (compEnvC scope cl C X.env) fp) elt (tE X.K X.mg wF e)) (hs : ∀ x, foldedSetIterable iter X.env x = pure x) :
    PE X (.ListComp elt [⟨tg, iter, ifs, 0⟩] scope pos) (tE X.K X.mg W (comp (own.map (·.2)) s g c e)) := PE.of (pe_lc hc hN hi ok hg ht he hs) fun _ _ _ q => tE_comp q
theorem ps_C {i : Nat} {y : Str} {py : Pos} {elt tg iter : Expr} {ifs : List Expr} {scope : Scope} {own : List (Str × Nat)} {pos spos : Pos} {s : M (List D)} {g : Tg} {c : M Bool} {e : M EV} (hc : X.calm = true) (hN : X.N.Nodup) (hy : X.N[i]? = some y) (hyl : X.env.scope.names.lookup y = some .local) (hA : A i = true)
    (hsw : swapsWith (.ListComp elt [⟨tg, iter, ifs, 0⟩] scope pos) (some (.Name y py)) spos.line X.env = pure true) (hi : PI X tg iter (tI X.K X.mg W s)) (ok : BlkOk X.N X.env.scope scope own)
    (hg : ∀ (s : Shared) (H : Hp) (C : Addr) (cl : List (Str × Addr)) (fp : List Addr), PG (X.blk s H scope (compEnvC scope cl C X.env) fp) tg (tG X.K (ownA own) g)) (ht : ∀ (s : Shared) (H : Hp) (C : Addr) (cl : List (Str × Addr)) (fp : List Addr), PTs (X.blk s H scope (compEnvC scope cl C X.env) fp) ifs (tT X.K X.mg wF c))
    (he : ∀ (s : Shared) (H : Hp) (C : Addr) (cl : List (Str × Addr)) (fp : List Addr), PE (X.blk s H scope (compEnvC scope cl C X.env) fp) elt (tE X.K X.mg wF e)) (hs : ∀ x, foldedSetIterable iter X.env x = pure x) :
    PS X (.Assign [.Name y py] (.ListComp elt [⟨tg, iter, ifs, 0⟩] scope pos) spos) (tS X.K X.mg W A (asg (comp (own.map (·.2)) s g c e) (gN i))) :=
  PS.of (ps_setLc hc hN hy hyl hsw hi ok hg ht he hs) fun D σ H q => by
    have q1 := tS_asg q
    refine tE_comp (Q := _) ?_
    exact tE_mono (fun v H1 r => tG_N hA r) q1
/-! ### name = e, targets -/
theorem pg_N {i : Nat} {x : Str} {pos : Pos} (hN : X.N.Nodup) (hi : X.N[i]? = some x) (hx : Loc X.env.scope x) (hA : A i = true) (hf : X.fn x = true ∨ X.env.scope.names.lookup x = some .local) : PG X (.Name x pos) (tG X.K A (gN i)) := PG.of (pg_name hN hi hx hf) fun _ _ _ _ q => tG_N hA q
theorem ps_N {i : Nat} {x : Str} {e : Expr} {f : M EV} {pos pos' : Pos} (hN : X.N.Nodup) (hi : X.N[i]? = some x) (hx : Loc X.env.scope x) (hA : A i = true) (he : PE X e (tE X.K X.mg W f)) (hs : swapsWith e (some (.Name x pos')) pos.line X.env = pure false) (hf : X.fn x = true ∨ X.env.scope.names.lookup x = some .local) :
    PS X (.Assign [.Name x pos'] e pos) (tS X.K X.mg W A (asg f (gN i))) := PS.of (ps_set hN hi hx he hs hf) fun D σ H q => tE_mono (fun v H1 r => tG_N hA r) (tS_asg q)
theorem ps_G {tg e : Expr} {f : M EV} {g : Tg} {pos : Pos} (he : PE X e (tE X.K X.mg W f)) (hg : PG X tg (tG X.K A g)) (hs : swapsWithSole [tg] e pos.line X.env = pure false) (hw : swappedStores [tg] e X.env = pure none)
    (h1 : (assignEach [tg] X.env).map (·.2) = [assign tg X.env]) : PS X (.Assign [tg] e pos) (tS X.K X.mg W A (asg f g)) := PS.of (ps_asg he hg hs hw h1) fun D σ H q => tS_asg q
theorem pgs_0 : PGs X [] (tGs X.K A gs0) := PGs.of pgs_nil fun _ _ _ _ q => tGs_0 q
theorem pgs_C {e : Expr} {es : List Expr} {g : Tg} {gs : List D → M Unit} (h1 : PG X e (tG X.K A g)) (h2 : PGs X es (tGs X.K A gs)) (hs : (assignEach (e :: es) X.env).map (·.2) = assign e X.env :: (assignEach es X.env).map (·.2)) : PGs X (e :: es) (tGs X.K A (gsC g gs)) :=
  PGs.of (pgs_cons h1 h2 hs) fun _ _ _ _ q => tGs_C q
theorem pg_T {es : List Expr} {k n : Nat} {gs : List D → M Unit} {pos : Pos} (hc : X.calm = true) (h : PGs X es (tGs X.K A gs)) (hn : (assignEach es X.env).length = n) (hst : (assignEach es X.env).findIdx? (·.1) = none) : PG X (.Tuple es k pos) (tG X.K A (gT gs n)) :=
  PG.of (pg_tup hc h hn hst) fun _ _ _ _ q => tG_T q
/-! ### a store into a list that stands in a slot -/
def gI (j : Nat) (fi : M EV) : Tg := fun d ρ0 => match ρ0.getD j none with
  | some _ => bnd fi (fun ei => fun ρ => match ρ.getD j none, peek1 ρ ei with
    | some (.node true .lst xs), some (.int k) => match ixN xs.length k with
      | some i => .ok () (ρ.set j (some (.node true .lst (xs.set i d))))
      | none => .stuck
    | _, _ => .stuck) ρ0
  | none => .stuck
/-- an item of an owned list of a slot, stored -/
theorem set_item {j i : Nat} {xs : List D} {ρ : Env} {d : D} {v : V} {T : Fp} (w : Wd Z H (fun a => S a ∨ T a)) (dj : ∀ a, S a → T a → False) (er : EnvR K Z H ρ σ S) (e : ρ.getD j none = some (.node true .lst xs)) (hi : i < xs.length) (rv : Rep K Z H d v T) :
    ∃ p ys, σ[j]? = some (some (.ref p)) ∧ H p = some (.lst ys) ∧ ys.length = xs.length ∧ ∃ S', (∀ a, S' a → S a ∨ T a) ∧ S p ∧ EnvR K Z (upd H p (.lst (ys.set i v))) (ρ.set j (some (.node true .lst (xs.set i d)))) σ S' := by
  obtain ⟨u, U1, U2, hv, u1, u2, uj, ru, eu⟩ := er.take (getD_some e)
  obtain ⟨p, ys, U', rfl, c, sa, na, sub, rl⟩ := ru
  obtain ⟨hj, ej⟩ := List.getElem?_eq_some_iff.mp hv
  have es : σ.set j (some (.ref p)) = σ := by rw [← ej, List.set_getElem_self]
  have hl : j < ρ.length := by rw [er.length]; exact hj
  obtain ⟨y, T1, T2, hy, t1, t2, tj, ry, put⟩ := rl.take (List.getElem?_eq_getElem hi)
  have keep : ∀ {B : Fp}, (∀ a, B a → a = p → False) → ∀ a o, B a → H a = some o → upd H p (.lst (ys.set i v)) a = some o := fun {B} n a o b q => by rw [upd_ne fun z => n a b z]; exact q
  have nT : ∀ a, T a → a = p → False := fun a x y => dj p (u1 p sa) (by rw [← y]; exact x)
  have rv' : Rep K Z (upd H p (.lst (ys.set i v))) d v T := rv.move (Same.refl Z) (keep nT) fun _ x => x
  have pl := put Z (upd H p (.lst (ys.set i v))) d v T (fun a => T2 a ∨ T a) (Same.refl Z) (keep fun a x y => na (t2 p (by rw [← y]; exact x))) rv' (fun _ x => .inr x) (fun _ x => .inl x) fun a x y => dj a (u1 a (sub a (t2 a y))) x
  have rn : Rep K Z (upd H p (.lst (ys.set i v))) (.node true .lst (xs.set i d)) (.ref p) (fun a => a = p ∨ (T2 a ∨ T a)) := ⟨p, ys.set i v, _, rfl, upd_same, .inl rfl, fun x => x.elim (fun z => na (t2 p z)) fun z => nT p z rfl, fun _ x => .inr x, pl⟩
  have q := EnvR.put (S := fun a => (a = p ∨ (T2 a ∨ T a)) ∨ U2 a) (eu.move (Same.refl Z) (keep fun a x y => uj p sa (by rw [← y]; exact x)) fun _ x => x) hl rn (fun _ x => .inl x) (fun _ x => .inr x) fun a x y => by
    rcases x with x | x | x
    · exact uj p sa (by rw [← x]; exact y)
    · exact uj a (sub a (t2 a x)) y
    · exact dj a (u2 a y) x
  rw [es] at q
  refine ⟨p, ys, hv, c, rl.length.symm, _, fun a x => ?_, u1 p sa, q⟩
  rcases x with (x | x | x) | x
  · exact .inl (by rw [x]; exact u1 p sa)
  · exact .inl (u1 a (sub a (t2 a x)))
  · exact .inr x
  · exact .inl (u2 a x)
theorem tG_I {j : Nat} {fi : M EV} {v : V} {Q : Sl → Hp → Prop} (h : tG K A (gI j fi) v σ H Q) : gSub (tVar j) (tE K mg wF fi) rSetL v σ H Q := by
  obtain ⟨Z, ρ, S, Sd, d, w, dj, er, r, o⟩ := h
  simp only [gI] at o
  cases e0 : ρ.getD j none with
  | none => simp only [e0] at o
  | some d0 =>
    simp only [e0, bnd] at o
    obtain ⟨u, U1, U2, hv, _⟩ := er.take (getD_some e0)
    refine ⟨u, hv, Z, ρ, S, w.less fun a x => .inl x, er, ?_⟩
    cases e1 : fi ρ with
    | stuck => rw [e1] at o; exact o.elim
    | exc x ρ1 => rw [e1] at o; exact o.elim
    | ok ei ρ1 =>
      simp only [e1] at o
      intro vi Z1 H1 S1 Sa st dja er1 r1
      have stF := st.frame w dj
      have apF := st.apart (fun a x => w.dom a (.inr x)) dj
      have r' : Rep K Z1 H1 d v Sd := st.stay dj r
      split at o
      · rename_i ρ' hm
        split at hm
        · rename_i xs k h1 h2
          split at hm
          · rename_i i hi
            cases hm
            have il : i < xs.length := (ixN_seq hi).2.1
            have hvi : vi = .int k := peek1_rep er1 r1 h2
            subst hvi
            have wA : Wd Z1 H1 (fun a => S1 a ∨ Sd a) := stF.wd.less fun a x => x.elim (fun y => .inl (.inl y)) .inr
            obtain ⟨p, ys, hv2, hp, hl, S', m', sp, er'⟩ := set_item wA (fun a x y => apF a (.inl x) y) er1 h1 il r'
            rw [hv] at hv2
            cases hv2
            refine ⟨p, ys, k, i, rfl, rfl, hp, by rw [hl]; exact hi, ?_⟩
            have st2 : Step Z1 H1 (fun a => S1 a ∨ Sd a) Z1 (upd H1 p (.lst (ys.set i v))) (fun a => S1 a ∨ Sd a) := Step.write wA (.inl sp)
            have stA : Step Z H (fun a => S a ∨ Sd a) Z1 H1 (fun a => S1 a ∨ Sd a) := stF.less fun a x => x.elim (fun y => .inl (.inl y)) .inr
            exact o σ Z1 _ S' (Keep.refl σ) ((stA.trans st2).less m') er'
          · cases hm
        · cases hm
      · exact o.elim
theorem pg_I {j : Nat} {x : Str} {b : Expr} {fi : M EV} {pos p2 : Pos} (hj : X.N[j]? = some x) (hv : Vis X.env.scope x) (hd : (x == ("__debug__" : Str)) = false) (hcd : (x == ("__classdict__" : Str)) = false) (hi : PE X b (tE X.K X.mg wF fi))
    (ha : ∀ v, assign (.Subscript (.Name x p2) b pos) X.env v = (do
      let ov ← holding [v] (eval (.Name x p2) X.env)
      let iv ← holding [v, ov] (eval b X.env)
      standAt pos
      holding [v, ov, iv] (setItem ov iv v)
      release [v, ov, iv] [])) : PG X (.Subscript (.Name x p2) b pos) (tG X.K A (gI j fi)) := PG.of (pg_sub (pe_var hj hv hd hcd) hi set_list ha) fun _ _ _ _ q => tG_I q
end
end Pm
/-! PmP: append, pop, two names at once, op=, calls with keywords. -/
namespace Pm
open PySem PySem.Spec PyProof.Rows L2
section
variable {K : PySem.W.Frag} {mg : Str → Option Value} {W : WX} {Z H : Hp} {S : Fp} {σ : Sl} {X : Cx} {A : Nat → Bool}
/-! ### op= upon a name -/
theorem ps_augG {i : Nat} {x : Str} {e : Expr} {fe : M EV} {op : Operator} {g : List D → Option D} {pos pos' : Pos} (hN : X.N.Nodup) (hi : X.N[i]? = some x) (hx : Loc X.env.scope x) (hA : A i = true) (he : PE X e (tE X.K X.mg W fe)) (ho : Opd X (inplaceOp op) g)
    (hf : X.fn x = true ∨ X.env.scope.names.lookup x = some .local) : PS X (.AugAssign (.Name x pos') op e pos) (tS X.K X.mg W A (asg (bin g (loc i) fe) (gN i))) := by
  obtain ⟨r, h1, h2⟩ := ho
  refine PS.of (ps_aug (ti := r) hN hi hx he (fun pins s σ H x y v u Q I rx ry q => h1 pins s σ H x y v u Q I rx ry q) hf) fun D σ H q => ?_
  have q2 := two_of (r := r) (tE_app h2 (tE_mono (fun v H1 t => tG_N (Q := D.nx) hA t) (tS_asg q)))
  obtain ⟨v, hv, q3⟩ := tE_loc q2
  exact ⟨v, hv, q3⟩
/-! ### two names at once -/
def par (i j : Nat) (fs : M (List EV)) : M Fl := bnd fs fun es => bnd (useL es) fun ds => fun ρ => match ds with
  | [a, b] => if i < ρ.length ∧ j < ρ.length then .ok .nx ((ρ.set i (some a)).set j (some b)) else .stuck
  | _ => .stuck
theorem useL_noexc : ∀ {es : List EV} {ρ ρ' : Env} {x : XD}, useL es ρ ≠ .exc x ρ'
  | [], _, _, _, q => nomatch q
  | e :: es, ρ, ρ', x, q => by
    simp only [useL, bnd] at q
    cases u1 : use1 e ρ with
    | stuck => rw [u1] at q; cases q
    | exc y ρ3 => exact use1_noexc u1
    | ok d ρ3 =>
      simp only [u1] at q
      cases u2 : useL es ρ3 with
      | stuck => rw [u2] at q; cases q
      | exc y ρ4 => exact useL_noexc u2
      | ok ds ρ4 => simp only [u2, ret] at q; cases q
theorem tS_par {i j : Nat} {fs : M (List EV)} {D : Ends} (hi : A i = true) (hj : A j = true) (h : tS K mg W A (par i j fs) D σ H) : tPar i j (tA K mg W fs) D σ H := by
  obtain ⟨Z, ρ, S, w, er, o⟩ := h
  refine ⟨Z, ρ, S, w, er, ?_⟩
  simp only [par, bnd] at o
  cases e1 : fs ρ with
  | stuck => rw [e1] at o; exact o
  | exc x ρ1 => rw [e1] at o; exact o σ (Keep.refl σ)
  | ok es ρ1 =>
    simp only [e1] at o
    intro vs Z1 H1 S1 Sa st1 dj1 er1 r1
    cases e2 : useL es ρ1 with
    | stuck => rw [e2] at o; exact o.elim
    | exc x ρ2 => exact absurd e2 useL_noexc
    | ok ds ρ2 =>
      simp only [e2] at o
      have w1 : Wd Z1 H1 (fun a => (S1 a ∨ Sa a) ∨ Fp0 a) := st1.wd.less fun a x => x.elim id False.elim
      obtain ⟨Z2, S2, st2, m2, er2, r2⟩ := useL_ok w1 dj1 (fun _ _ x => x) er1 r1 e2
      have st2' : Step Z1 H1 (fun a => S1 a ∨ Sa a) Z2 H1 (fun a => S2 a ∨ Sa a) := ⟨st2.wd.less fun a x => .inl x, st2.zz, fun a o n e => e, fun a x => .inl (x.elim (fun y => .inl (m2 a y)) .inr), fun a o e => (st2.znew a o e).elim .inl fun y => .inr (y.elim (fun z => z.elim .inl False.elim) .inr)⟩
      split at o
      · rename_i a b
        split at o
        · rename_i hl
          cases vs with
          | nil => exact r2.elim
          | cons v vs =>
            obtain ⟨A1, A2, a1, a2, aj, ra, q⟩ := r2
            cases vs with
            | nil => exact q.elim
            | cons u us =>
              obtain ⟨B1, B2, b1, b2, bj, rb, q2⟩ := q
              cases us with
              | cons => exact q2.elim
              | nil =>
                have p1 := EnvR.put (S := fun x => S2 x ∨ A1 x) (er2.drop i) hl.1 ra (fun a x => .inr x) (fun a x => .inl x) fun a x y => dj1 a (m2 a y) (a1 a x)
                have p2 := EnvR.put (S := fun x => (S2 x ∨ A1 x) ∨ B1 x) (p1.drop j) (by rw [List.length_set]; exact hl.2) rb (fun a x => .inr x) (fun a x => .inl x) fun a x y => y.elim (fun z => dj1 a (m2 a z) (a2 a (b1 a x))) fun z => aj a z (b1 a x)
                refine ⟨v, u, rfl, ?_⟩
                refine o _ .non Z2 H1 _ Fp0 ⟨fun k hk => ?_, by rw [List.length_set, List.length_set]⟩ ((st1.trans st2').less fun a x => ?_) (fun _ _ x => x) p2 trivial
                · rw [List.getElem?_set_ne (fun e => by rw [← e, hj] at hk; cases hk), List.getElem?_set_ne (fun e => by rw [← e, hi] at hk; cases hk)]
                · rcases x with ((x | x) | x) | x
                  · exact .inl x
                  · exact .inr (a1 a x)
                  · exact .inr (a2 a (b1 a x))
                  · exact x.elim
        · exact o.elim
      · exact o.elim
theorem ps_P {i j : Nat} {x y : Str} {a b : Expr} {fs : M (List EV)} {px py pt pos : Pos} {kt k2 pt2} (hc : X.calm = true) (hN : X.N.Nodup) (hi : X.N[i]? = some x) (hj : X.N[j]? = some y) (hij : i ≠ j) (hAi : A i = true) (hAj : A j = true)
    (hx : X.env.scope.names.lookup x = some .local) (hy : X.env.scope.names.lookup y = some .local) (ha : PA X [a, b] (tA X.K X.mg W fs)) (hw : swappedStores [.Tuple [.Name x px, .Name y py] kt pt] (.Tuple [a, b] k2 pt2) X.env = pure (some [x, y]))
    (hs : swapsWithSole [.Tuple [.Name x px, .Name y py] kt pt] (.Tuple [a, b] k2 pt2) pos.line X.env = pure false) : PS X (.Assign [.Tuple [.Name x px, .Name y py] kt pt] (.Tuple [a, b] k2 pt2) pos) (tS X.K X.mg W A (par i j fs)) :=
  PS.of (ps_par hc hN hi hj hij hx hy ha hw hs) fun _ _ _ q => tS_par hAi hAj q
/-! ### append -/
def appd (j : Nat) (fe : M EV) : M EV := fun ρ0 => match ρ0.getD j none with
  | some (.node true .lst _) => bnd fe (fun ev => bnd (use1 ev) fun d => fun ρ => match ρ.getD j none with
    | some (.node true .lst xs) => if xs.length < cap then .ok (.val .non) (ρ.set j (some (.node true .lst (xs ++ [d])))) else .stuck
    | _ => .stuck) ρ0
  | _ => .stuck
theorem push_item {j : Nat} {xs : List D} {ρ : Env} {d : D} {v : V} {T : Fp} (w : Wd Z H (fun a => S a ∨ T a)) (dj : ∀ a, S a → T a → False) (er : EnvR K Z H ρ σ S) (e : ρ.getD j none = some (.node true .lst xs)) (rv : Rep K Z H d v T) :
    ∃ p ys, σ[j]? = some (some (.ref p)) ∧ H p = some (.lst ys) ∧ ys.length = xs.length ∧ ∃ S', (∀ a, S' a → S a ∨ T a) ∧ S p ∧ EnvR K Z (upd H p (.lst (ys ++ [v]))) (ρ.set j (some (.node true .lst (xs ++ [d])))) σ S' := by
  obtain ⟨u, U1, U2, hv, u1, u2, uj, ru, eu⟩ := er.take (getD_some e)
  obtain ⟨p, ys, U', rfl, c, sa, na, sub, rl⟩ := ru
  obtain ⟨hj, ej⟩ := List.getElem?_eq_some_iff.mp hv
  have es : σ.set j (some (.ref p)) = σ := by rw [← ej, List.set_getElem_self]
  have hl : j < ρ.length := by rw [er.length]; exact hj
  have keep : ∀ {B : Fp}, (∀ a, B a → a = p → False) → ∀ a o, B a → H a = some o → upd H p (.lst (ys ++ [v])) a = some o := fun {B} n a o b q => by rw [upd_ne fun z => n a b z]; exact q
  have nT : ∀ a, T a → a = p → False := fun a x y => dj p (u1 p sa) (by rw [← y]; exact x)
  have rv' : Rep K Z (upd H p (.lst (ys ++ [v]))) d v T := rv.move (Same.refl Z) (keep nT) fun _ x => x
  have pl : RepL K Z (upd H p (.lst (ys ++ [v]))) (xs ++ [d]) (ys ++ [v]) (fun a => U' a ∨ T a) := RepL.append (rl.move (Same.refl Z) (keep fun a x y => na (by rw [← y]; exact x)) fun _ x => x) ⟨T, Fp0, fun _ x => x, fun _ x => x.elim, fun _ _ x => x, rv', trivial⟩ (fun _ x => .inl x) (fun _ x => .inr x) fun a x y => dj a (u1 a (sub a x)) y
  have rn : Rep K Z (upd H p (.lst (ys ++ [v]))) (.node true .lst (xs ++ [d])) (.ref p) (fun a => a = p ∨ (U' a ∨ T a)) := ⟨p, ys ++ [v], _, rfl, upd_same, .inl rfl, fun x => x.elim na fun z => nT p z rfl, fun _ x => .inr x, pl⟩
  have q := EnvR.put (S := fun a => (a = p ∨ (U' a ∨ T a)) ∨ U2 a) (eu.move (Same.refl Z) (keep fun a x y => uj p sa (by rw [← y]; exact x)) fun _ x => x) hl rn (fun _ x => .inl x) (fun _ x => .inr x) fun a x y => by
    rcases x with x | x | x
    · exact uj p sa (by rw [← x]; exact y)
    · exact uj a (sub a x) y
    · exact dj a (u2 a y) x
  rw [es] at q
  refine ⟨p, ys, hv, c, rl.length.symm, _, fun a x => ?_, u1 p sa, q⟩
  rcases x with (x | x | x) | x
  · exact .inl (by rw [x]; exact u1 p sa)
  · exact .inl (u1 a (sub a x))
  · exact .inr x
  · exact .inl (u2 a x)
theorem tE_appd {j : Nat} {fe : M EV} {Q : VK} (h : tE K mg W (appd j fe) σ H Q) : tBM K "list" rAppend (tVar j) (tCons (tE K mg W fe) tNil) σ H Q := by
  obtain ⟨Z, ρ, S, w, er, o⟩ := h
  simp only [appd] at o
  split at o
  · rename_i xs0 h0
    obtain ⟨u, U1, U2, hv, u1, u2, uj, ru, eu⟩ := er.take (getD_some h0)
    obtain ⟨p, ys0, U', rfl, c0, _⟩ := ru
    refine ⟨.ref p, hv, .inl ⟨rfl, ys0, SqL.of c0⟩, Z, ρ, S, w, er, ?_⟩
    simp only [bnd] at o
    cases e1 : fe ρ with
    | stuck => rw [e1] at o; exact o
    | exc x ρ1 => rw [e1] at o; exact o
    | ok ev ρ1 =>
      simp only [e1] at o
      intro v Z1 H1 S1 Sa st1 dj1 er1 r1
      cases e2 : use1 ev ρ1 with
      | stuck => rw [e2] at o; exact o.elim
      | exc x ρ2 => exact absurd e2 use1_noexc
      | ok d ρ2 =>
        simp only [e2] at o
        have w1 : Wd Z1 H1 (fun a => (S1 a ∨ Sa a) ∨ Fp0 a) := st1.wd.less fun a x => x.elim id False.elim
        obtain ⟨Z2, S2, st2, m2, er2, r2⟩ := use1_ok w1 dj1 (fun _ _ x => x) er1 r1 e2
        have st2' : Step Z1 H1 (fun a => S1 a ∨ Sa a) Z2 H1 (fun a => S2 a ∨ Sa a) := ⟨st2.wd.less fun a x => .inl x, st2.zz, fun a o n e => e, fun a x => .inl (x.elim (fun y => .inl (m2 a y)) .inr), fun a o e => (st2.znew a o e).elim .inl fun y => .inr (y.elim (fun z => z.elim .inl False.elim) .inr)⟩
        split at o
        · rename_i xs h1
          split at o
          · rename_i hz
            obtain ⟨p', ys, hv2, hp, hl, S', m', sp, er'⟩ := push_item st2'.wd (fun a x y => dj1 a (m2 a x) y) er2 h1 r2
            rw [hv] at hv2
            cases hv2
            refine ⟨p, ys, v, rfl, rfl, hp, by rw [hl]; exact Nat.lt_trans hz (by rw [sizeLine_eq]; decide), ?_⟩
            exact o .non Z2 _ S' Fp0 ((((st1.trans st2').trans (Step.write st2'.wd (.inl sp))).less m').less fun a x => x.elim id False.elim) (fun _ _ x => x) er' rfl
          · exact o.elim
        · exact o.elim
  · exact o.elim
theorem pe_append {j : Nat} {x : Str} {e : Expr} {fe : M EV} {p2 apos cpos : Pos} (hj : X.N[j]? = some x) (hv : Vis X.env.scope x) (hd : (x == ("__debug__" : Str)) = false) (hcd : (x == ("__classdict__" : Str)) = false) (he : PE X e (tE X.K X.mg W fe))
    (hbase : attributeBase (.Name x p2) "append" X.env (eval (.Name x p2) X.env) = eval (.Name x p2) X.env)
    (hfew : ((backTo cpos (starEach [e] X.env)).all (fun x => !x.1) && (backToKw cpos (keywordEach [] X.env)).all (fun x => x.1.isSome)
      && decide ([e].length + ([] : List Keyword).length + (if ([] : List Keyword).isEmpty then 0 else 1) < 30)) = true)
    (hline : (apos.endLine == cpos.line) = true) (hs : starEach [e] X.env = (false, eval e X.env) :: starEach [] X.env) (hplain : (backTo cpos (starEach [] X.env)).any (·.1) = false) :
    PE X (.Call (.Attribute (.Name x p2) "append" apos) [e] [] cpos) (tE X.K X.mg W (appd j fe)) :=
  PE.of (pe_bm PySem.F.plainAttrs_list PySem.F.slot_list_append PySem.F.type_list_append mt_append (pe_var hj hv hd hcd) (pa_cons he pa_nil hs) hbase hfew hline hs hplain) fun _ _ _ q => tE_appd q
end
end Pm
/-! PmQ: calls with keywords. -/
namespace Pm
open PySem PySem.Spec PyProof.Rows L2
section
variable {K : PySem.W.Frag} {mg : Str → Option Value} {W : WX} {Z H : Hp} {S : Fp} {σ : Sl} {X : Cx}
/-- two argument lists, one behind the other -/
def aApp (n1 n2 : Nat) (fs fk : M (List EV)) : M (List EV) := bnd fs fun es => bnd fk fun ks => fun ρ => if es.length = n1 ∧ ks.length = n2 then .ok (es ++ ks) ρ else .stuck
theorem EVsR.app : ∀ {es ks : List EV} {vs zs : List V} {S1 S2 U : Fp}, EVsR K Z H σ es vs S1 → EVsR K Z H σ ks zs S2 → (∀ a, S1 a → U a) → (∀ a, S2 a → U a) → (∀ a, S1 a → S2 a → False) → EVsR K Z H σ (es ++ ks) (vs ++ zs) U
  | [], ks, [], zs, _, _, _, _, h2, _, m2, _ => h2.more m2
  | [], _, _ :: _, _, _, _, _, h, _, _, _, _ => h.elim
  | _ :: _, _, [], _, _, _, _, h, _, _, _, _ => h.elim
  | e :: es, ks, v :: vs, zs, S1, S2, U, ⟨T1, T2, t1, t2, tj, r, q⟩, h2, m1, m2, dj =>
    ⟨T1, fun a => T2 a ∨ S2 a, fun a x => m1 a (t1 a x), fun a x => x.elim (fun y => m1 a (t2 a y)) (m2 a), fun a x y => y.elim (tj a x) (dj a (t1 a x)), r, EVsR.app (U := fun a => T2 a ∨ S2 a) q h2 (fun _ x => .inl x) (fun _ x => .inr x) fun a x y => dj a (t2 a x) y⟩
theorem EVsR.stay : ∀ {es : List EV} {vs : List V} {Z' H' : Hp} {S1 Sa S' : Fp}, EVsR K Z H σ es vs Sa → Step Z H S1 Z' H' S' → (∀ a, S1 a → Sa a → False) → EVsR K Z' H' σ es vs Sa
  | [], [], _, _, _, _, _, _, _, _ => trivial
  | [], _ :: _, _, _, _, _, _, h, _, _ => h.elim
  | _ :: _, [], _, _, _, _, _, h, _, _ => h.elim
  | e :: es, v :: vs, _, _, _, _, _, ⟨T1, T2, t1, t2, tj, r, q⟩, st, dj => ⟨T1, T2, t1, t2, tj, r.stay st fun a x y => dj a x (t1 a y), EVsR.stay q st fun a x y => dj a x (t2 a y)⟩
theorem EVsR.length : ∀ {es : List EV} {vs : List V} {S : Fp}, EVsR K Z H σ es vs S → es.length = vs.length
  | [], [], _, _ => rfl
  | [], _ :: _, _, h => h.elim
  | _ :: _, [], _, h => h.elim
  | _ :: _, _ :: _, _, ⟨_, _, _, _, _, _, q⟩ => by rw [List.length_cons, List.length_cons, EVsR.length q]
theorem tA_app {n1 n2 : Nat} {fs fk : M (List EV)} {Q : List V → Hp → Prop} (h : tA K mg W (aApp n1 n2 fs fk) σ H Q) : tA K mg W fs σ H fun vs H1 => tA K mg W fk σ H1 fun zs H2 => vs.length = n1 ∧ zs.length = n2 ∧ Q (vs ++ zs) H2 := by
  obtain ⟨Z, ρ, S, w, er, o⟩ := h
  refine ⟨Z, ρ, S, w, er, ?_⟩
  simp only [aApp, bnd] at o
  cases e1 : fs ρ with
  | stuck => rw [e1] at o; exact o
  | exc x ρ1 => rw [e1] at o; exact o
  | ok es ρ1 =>
    rw [e1] at o
    intro vs Z1 H1 S1 Sa st1 dj1 er1 r1
    refine ⟨Z1, ρ1, S1, st1.wd.less fun a x => .inl x, er1, ?_⟩
    cases e2 : fk ρ1 with
    | stuck => simp only [e2] at o; exact o
    | exc x ρ2 => simp only [e2] at o; exact o.behind st1 dj1
    | ok ks ρ2 =>
      simp only [e2] at o
      intro zs Z2 H2 S2 Sb st2 dj2 er2 r2
      by_cases hn : es.length = n1 ∧ ks.length = n2
      · rw [if_pos hn] at o
        have ap := st2.apart (T := Sa) (fun a x => st1.wd.dom a (.inr x)) dj1
        refine ⟨r1.length.symm.trans hn.1, r2.length.symm.trans hn.2, o (vs ++ zs) Z2 H2 S2 (fun a => Sa a ∨ Sb a) ((st1.trans (st2.frame st1.wd dj1)).less fun a x => ?_) (fun a x y => y.elim (ap a (.inl x)) (dj2 a x)) er2 ?_⟩
        · rcases x with x | x | x
          · exact .inl (.inl x)
          · exact .inr x
          · exact .inl (.inr x)
        · exact EVsR.app (r1.stay st2 dj1) r2 (fun _ x => .inl x) (fun _ x => .inr x) fun a x y => ap a (.inr y) x
      · rw [if_neg hn] at o
        exact o.elim
/-- the arguments put in the order of the parameters -/
def sel {α : Type} (p : List Nat) (xs : List α) : List α := p.filterMap (xs[·]?)
theorem sel_set {α : Type} {xs : List α} {y : α} {i : Nat} : ∀ {p : List Nat}, i ∉ p → sel p (xs.set i y) = sel p xs
  | [], _ => rfl
  | j :: p, h => by
    have e : (xs.set i y)[j]? = xs[j]? := List.getElem?_set_ne fun e => h (by rw [e]; exact List.mem_cons_self)
    have q := sel_set (xs := xs) (y := y) (i := i) (p := p) fun z => h (List.mem_cons_of_mem _ z)
    unfold sel at q ⊢
    rw [List.filterMap_cons, List.filterMap_cons, e, q]
theorem EVsR.pick : ∀ {es : List EV} {vs : List V} {S : Fp} {i : Nat} {e : EV}, EVsR K Z H σ es vs S → es[i]? = some e →
    ∃ v, ∃ S1 S2 : Fp, vs[i]? = some v ∧ (∀ a, S1 a → S a) ∧ (∀ a, S2 a → S a) ∧ (∀ a, S1 a → S2 a → False) ∧ EVR K Z H σ e v S1 ∧ EVsR K Z H σ (es.set i (.val .non)) (vs.set i .non) S2
  | [], _, _, _, _, _, e => by simp at e
  | _ :: _, [], _, _, _, h, _ => h.elim
  | e :: es, v :: vs, S, 0, e', ⟨T1, T2, t1, t2, tj, r, q⟩, h => by
    simp only [List.getElem?_cons_zero, Option.some.injEq] at h
    subst h
    exact ⟨v, T1, T2, rfl, t1, t2, tj, r, Fp0, T2, fun _ x => x.elim, fun _ x => x, fun _ x _ => x, rfl, q⟩
  | e :: es, v :: vs, S, i + 1, e', ⟨T1, T2, t1, t2, tj, r, q⟩, h => by
    simp only [List.getElem?_cons_succ] at h
    obtain ⟨u, U1, U2, hu, u1, u2, uj, ru, rest⟩ := EVsR.pick q h
    exact ⟨u, U1, fun a => T1 a ∨ U2 a, by simpa using hu, fun a x => t2 a (u1 a x), fun a x => x.elim (t1 a) fun y => t2 a (u2 a y), fun a x y => y.elim (fun z => tj a z (u1 a x)) (uj a x), ru, T1, U2, fun _ x => .inl x, fun _ x => .inr x, fun a x y => tj a x (u2 a y), r, rest⟩
theorem EVsR.sel : ∀ {p : List Nat} {es : List EV} {vs : List V} {S : Fp}, p.Nodup → (∀ i ∈ p, i < es.length) → EVsR K Z H σ es vs S → EVsR K Z H σ (Pm.sel p es) (Pm.sel p vs) S
  | [], _, _, _, _, _, _ => trivial
  | i :: p, es, vs, S, nd, hl, r => by
    have hi := hl i List.mem_cons_self
    obtain ⟨v, S1, S2, hv, s1, s2, dj, re, rest⟩ := r.pick (List.getElem?_eq_getElem hi)
    have nd' := List.nodup_cons.mp nd
    have ih := EVsR.sel nd'.2 (fun j hj => by rw [List.length_set]; exact hl j (List.mem_cons_of_mem _ hj)) rest
    have same : ∀ {α : Type} (xs : List α) (y : α), Pm.sel p (xs.set i y) = Pm.sel p xs := fun {α} xs y => sel_set nd'.1
    rw [same, same] at ih
    have e1 : Pm.sel (i :: p) es = es[i] :: Pm.sel p es := by
      unfold Pm.sel
      rw [List.filterMap_cons, List.getElem?_eq_getElem hi]
    have e2 : Pm.sel (i :: p) vs = v :: Pm.sel p vs := by
      unfold Pm.sel
      rw [List.filterMap_cons, hv]
    rw [e1, e2]
    exact ⟨S1, S2, s1, s2, dj, re, ih⟩
def selA (n : Nat) (p : List Nat) (fs : M (List EV)) : M (List EV) := bnd fs fun es => fun ρ => if es.length = n ∧ p.Nodup ∧ (∀ i ∈ p, i < n) then .ok (sel p es) ρ else .stuck
theorem tA_sel {p : List Nat} {fs : M (List EV)} {Q : List V → Hp → Prop} {n : Nat} (h : tA K mg W (selA n p fs) σ H Q) : tA K mg W fs σ H fun vs H1 => vs.length = n ∧ Q (sel p vs) H1 := by
  obtain ⟨Z, ρ, S, w, er, o⟩ := h
  refine ⟨Z, ρ, S, w, er, ?_⟩
  simp only [selA, bnd] at o
  cases e1 : fs ρ with
  | stuck => rw [e1] at o; exact o
  | exc x ρ1 => rw [e1] at o; exact o
  | ok es ρ1 =>
    simp only [e1] at o
    intro vs Z1 H1 S1 Sa st1 dj1 er1 r1
    by_cases hn : es.length = n ∧ p.Nodup ∧ (∀ i ∈ p, i < n)
    · rw [if_pos hn] at o
      exact ⟨r1.length.symm.trans hn.1, o (sel p vs) Z1 H1 S1 Sa st1 dj1 er1 (r1.sel hn.2.1 fun i hi => by rw [hn.1]; exact hn.2.2 i hi)⟩
    · rw [if_neg hn] at o
      exact o.elim
/-- how n values and the keywords ks behind them bind: in the order p -/
def KwB (K : PySem.W.Frag) (fd : FuncData) (ps ks : List Str) (n : Nat) (p : List Nat) : Prop := ∀ (s : Shared) (us ws : List Value), K.In s.heap → us.length = n → ws.length = ks.length → BindsTo s fd ⟨us, ks.zip ws⟩ (ps.zip (sel p (us ++ ws)))
theorem KwB.of {fd : FuncData} {ps ks : List Str} {n : Nat} {p : List Nat} (h : ∀ us ws : List Value, us.length = n → ws.length = ks.length → bindArgs fd ⟨us, ks.zip ws⟩ = pure (ps.zip (sel p (us ++ ws)))) : KwB K fd ps ks n p := fun _ us ws _ h1 h2 => .of_eq (h us ws h1 h2)
theorem vals_sel {p : List Nat} {vs : List V} {us : List Value} (r : Vals vs us) : Vals (sel p vs) (sel p us) := by
  induction p with
  | nil => exact .nil
  | cons i p ih =>
    unfold Pm.sel
    rw [List.filterMap_cons, List.filterMap_cons]
    cases e : vs[i]? with
    | none =>
      have e2 : us[i]? = none := by
        rw [List.getElem?_eq_none_iff] at e ⊢
        rw [← r.length]; exact e
      rw [e2]
      exact ih
    | some v =>
      obtain ⟨u, e2, ru⟩ := r.get e
      rw [e2]
      exact .cons ru ih
theorem vals_app : ∀ {xs ys : List V} {us ws : List Value}, Vals xs us → Vals ys ws → Vals (xs ++ ys) (us ++ ws)
  | _, _, _, _, .nil, r2 => r2
  | _, _, _, _, .cons h r, r2 => .cons h (vals_app r r2)
theorem PK.of {kws : List Keyword} {t t' : TA} (h : PK X kws t) (i : ∀ σ H Q, t' σ H Q → t σ H Q) : PK X kws t' := ⟨fun o p s σ H Q I q => h.run o p s σ H Q I (i σ H Q q)⟩
theorem pk_N : PK X [] (tA X.K X.mg W aNil) := PK.of pk_nil fun _ _ _ => tA_nil
theorem pk_C {nm : Option Str} {e : Expr} {kpos : Pos} {kws : List Keyword} {f : M EV} {fs : M (List EV)} (h : PE X e (tE X.K X.mg W f)) (hs : PK X kws (tA X.K X.mg W fs)) : PK X (⟨nm, e, kpos⟩ :: kws) (tA X.K X.mg W (aCons f fs)) := PK.of (pk_cons h hs) fun _ _ _ => tA_cons
theorem tA_mono {f : M (List EV)} {Q Q' : List V → Hp → Prop} (i : ∀ v H, Q v H → Q' v H) (h : tA K mg W f σ H Q) : tA K mg W f σ H Q' := by
  obtain ⟨Z, ρ, S, w, er, o⟩ := h
  refine ⟨Z, ρ, S, w, er, ?_⟩
  cases e : f ρ with
  | stuck => rw [e] at o; exact o
  | exc x ρ1 => rw [e] at o; exact o
  | ok ev ρ1 =>
    rw [e] at o
    exact fun v Z' H' S' Sd st dj er r => i _ _ (o v Z' H' S' Sd st dj er r)
theorem end_run {pins : List (Addr × Obj)} {s : Shared} {Q : VK} {a : Args} {f : Addr} (h : codeAny (model X.prog X.w) X.A (.call (.ref f) a) (fun r s' => match r with
      | .ok (.ret u) => EP X pins σ Q u s'
      | .ok _ => False
      | .error e => X.xe e s') s) : wpAny (model X.prog X.w) X.A (call (.ref f) a.pos a.kw) (EP X pins σ Q) X.xe s := by
  refine wpAny_call (codeAny_mono h fun r s' hq => ?_)
  cases r with
  | error e => exact hq
  | ok fl =>
    cases fl with
    | ret u => exact hq
    | next => exact hq.elim
    | brk => exact hq.elim
    | cont => exact hq.elim
theorem pe_callGK {k n m : Nat} {f : Addr} {fd : FuncData} {ps ks : List Str} {pm : List Nat} {g : FSem} {x : Str} {p pos : Pos} {e : Expr} {es : List Expr} {kws : List Keyword} {fs fk : M (List EV)} (F : FnG X.prog X.w X.K X.mg X.base k f fd ps g) (hgd : X.A.guards = some []) (hr : Room k X.A) (tk : Takes X W)
    (hg : Gl X x) (hm : X.mg x = some (.ref f)) (hk : PySem.W.keepIn X.K (.ref f) = true) (hb : KwB X.K fd ps ks n pm) (ha : PA X (e :: es) (tA X.K X.mg W fs)) (hkw : PK X kws (tA X.K X.mg W fk)) (hdb : (x == ("__debug__" : Str)) = false)
    (hall : (backToKw pos (keywordEach kws X.env)).all (·.1.isSome) = true) (hks : (backToKw pos (keywordEach kws X.env)).filterMap (·.1) = ks) (hpl : ((backTo pos (starEach (e :: es) X.env)).any (·.1) || (backToKw pos (keywordEach kws X.env)).any (·.1.isNone)) = false)
    (he : starEach (e :: es) X.env = (false, eval e X.env) :: starEach es X.env) (hn : ks.length = m) :
    PE X (.Call (.Name x p) (e :: es) kws pos) (tE X.K X.mg W (callF g (selA (n + m) pm (aApp n m fs fk)))) := by
  refine ⟨fun pins s σ H Q I h => ?_⟩
  refine wpAny_Call_Name_kw (ld_glob I hg hm ?_ hdb)
  refine PySem.W.callWith_KW (h₀ := X.base) I.ok.mod.kin hk hall (thn (ha.run pos pins s σ H _ I (tA_app (tA_sel (tE_call h)))) fun us s1 ⟨vs, H1, I1, r1, q1⟩ => ?_) hpl he
  refine thn (hkw.run pos pins s1 σ H1 _ I1 q1) fun ws s2 ⟨zs, H2, I2, r2, q2⟩ => ⟨I2.kIn, ?_⟩
  obtain ⟨l1, l2, _, q⟩ := q2
  rw [hks]
  refine end_run (run_G (ws := sel pm (us ++ ws)) F hgd hr tk (fun hl => ?_) I2 (vals_sel (vals_app r1 r2)) q)
  exact hb s2 us ws I2.kIn (r1.length.symm.trans l1) (r2.length.symm.trans (l2.trans hn.symm))
theorem pe_callGK0 {k m : Nat} {f : Addr} {fd : FuncData} {ps ks : List Str} {pm : List Nat} {g : FSem} {x : Str} {p pos : Pos} {kws : List Keyword} {fk : M (List EV)} (F : FnG X.prog X.w X.K X.mg X.base k f fd ps g) (hgd : X.A.guards = some []) (hr : Room k X.A) (tk : Takes X W)
    (hg : Gl X x) (hm : X.mg x = some (.ref f)) (hk : PySem.W.keepIn X.K (.ref f) = true) (hb : KwB X.K fd ps ks 0 pm) (hkw : PK X kws (tA X.K X.mg W fk)) (hdb : (x == ("__debug__" : Str)) = false)
    (hall : (backToKw pos (keywordEach kws X.env)).all (·.1.isSome) = true) (hks : (backToKw pos (keywordEach kws X.env)).filterMap (·.1) = ks) (hpl : ((backTo pos (starEach [] X.env)).any (·.1) || (backToKw pos (keywordEach kws X.env)).any (·.1.isNone)) = false) (hn : ks.length = m) :
    PE X (.Call (.Name x p) [] kws pos) (tE X.K X.mg W (callF g (selA m pm fk))) := by
  refine ⟨fun pins s σ H Q I h => ?_⟩
  refine wpAny_Call_Name_kw (ld_glob I hg hm ?_ hdb)
  refine PySem.W.callWith_KW0 (h₀ := X.base) I.ok.mod.kin hk hall ?_ hpl
  refine thn (hkw.run pos pins s σ H _ I (tA_sel (tE_call h))) fun ws s2 ⟨zs, H2, I2, r2, l2, q⟩ => ⟨I2.kIn, ?_⟩
  rw [hks]
  refine end_run (run_G (ws := sel pm ws) F hgd hr tk (fun hl => ?_) I2 (vals_sel r2) q)
  exact hb s2 [] ws I2.kIn rfl (r2.length.symm.trans (l2.trans hn.symm))
end
end Pm
/-! PmR: the rules with their side conditions tried. -/
namespace Pm
open PySem PySem.Spec PyProof.Rows L2
section
variable {K : PySem.W.Frag} {mg : Str → Option Value} {W : WX} {Z H : Hp} {S : Fp} {σ : Sl} {X : Cx} {A : Nat → Bool} {a b c e l tg iter : Expr} {es rest : List Expr} {pos p2 : Pos} {f fa fb fc : M EV} {fs : M (List EV)} {ta tb : M Bool}
/-! ### values -/
theorem E_loc (i : Nat) {x : Str} (hN : X.N[i]? = some x := by rfl) (hv : Vis X.env.scope x := by first | exact Or.inl rfl | exact Or.inr (Or.inl rfl) | exact Or.inr (Or.inr rfl)) (hd : (x == ("__debug__" : Str)) = false := by decide) (hcd : (x == ("__classdict__" : Str)) = false := by decide) :
    PE X (.Name x pos) (tE X.K X.mg W (loc i)) := pe_loc hN hv hd hcd
theorem E_int {i j} : PE X (.Constant (.int i) j pos) (tE X.K X.mg W (con (.int i))) := PE.of pe_int fun _ _ _ => tE_con fun _ _ => rfl
theorem E_str {x j} : PE X (.Constant (.str x) j pos) (tE X.K X.mg W (con (.str x))) := PE.of pe_str fun _ _ _ => tE_con fun _ _ => rfl
theorem E_bl {x j} : PE X (.Constant (.bool x) j pos) (tE X.K X.mg W (con (.bl x))) := PE.of pe_bl fun _ _ _ => tE_con fun _ _ => rfl
theorem E_non {j} : PE X (.Constant .none j pos) (tE X.K X.mg W (con .non)) := PE.of pe_non fun _ _ _ => tE_con fun _ _ => rfl
/-- a builtin's name as a value -/
theorem E_blt {x : Str} {u : V} {w : Value} (hm : X.mg x = none) (hv : bootBuiltins x = some w) (r : RelV u w := by rfl) (hg : Gl X x := by rfl) (hn : x ≠ "__name__" := by decide) (hd : (x == ("__debug__" : Str)) = false := by decide) : PE X (.Name x pos) (tE X.K X.mg W (con (.op u))) :=
  PE.of (pe_bltn hg hm hv r hn hd) fun _ _ _ => tE_con fun _ _ => rfl
theorem A_0 : PA X [] (tA X.K X.mg W aNil) := pa_n
theorem A_c (h : PE X e (tE X.K X.mg W f)) (hr : PA X es (tA X.K X.mg W fs)) (hs : starEach (e :: es) X.env = (false, eval e X.env) :: starEach es X.env := by rfl) : PA X (e :: es) (tA X.K X.mg W (aCons f fs)) := pa_c h hr hs
theorem E_op {op : Operator} {g : List D → Option D} (ho : Opd X (binaryOp op) g) (ha : PE X a (tE X.K X.mg W fa)) (hb : PE X b (tE X.K X.mg W fb)) : PE X (.BinOp a op b pos) (tE X.K X.mg W (bin g fa fb)) := pe_bin ho ha hb
theorem E_cmp {op : CmpOp} {g : List D → Option D} (ho : Opd X (compareOp op) g) (ha : PE X a (tE X.K X.mg W fa)) (hb : PE X b (tE X.K X.mg W fb)) (hm : behindInMarks op b = false := by first | exact nomark _ | rfl) : PE X (.Compare a [op] [b] pos) (tE X.K X.mg W (bin g fa fb)) := pe_cmpG ho ha hb hm
theorem T_cmp {op : CmpOp} {g : List D → Option D} (ho : Opd X (compareOp op) g) (ha : PE X a (tE X.K X.mg W fa)) (hb : PE X b (tE X.K X.mg W fb)) (hm : behindInMarks op b = false := by first | exact nomark _ | rfl) : PT X (.Compare a [op] [b] pos) (tT X.K X.mg W (tst (bin g fa fb))) := pt_cmpG ho ha hb hm
theorem T_v (h : PE X e (tE X.K X.mg W f)) (he : ∀ whole, isTrue e X.env whole = (do let v ← whole; standAt e.pos; holding [v] (truthy v)) := by intro _; rfl) : PT X e (tT X.K X.mg W (tst f)) := pt_v h he
theorem T_not (h : PT X a (tT X.K X.mg W ta)) : PT X (.UnaryOp .Not a pos) (tT X.K X.mg W (notT ta)) := PT.of (pt_not h) fun _ _ _ q => tT_not q
theorem W_and1 (h : PT X a (tT X.K X.mg W ta)) : PW X (.BoolOp .And [a] pos) (tT X.K X.mg W ta) := pw_and1 h
theorem W_or1 (h : PT X a (tT X.K X.mg W ta)) : PW X (.BoolOp .Or [a] pos) (tT X.K X.mg W ta) := pw_or1 h
theorem W_and (h : PT X a (tT X.K X.mg W ta)) (h2 : PW X (.BoolOp .And (b :: rest) pos) (tT X.K X.mg W tb)) : PW X (.BoolOp .And (a :: b :: rest) pos) (tT X.K X.mg W (andT ta tb)) := PW.of (pw_and h h2) fun _ _ _ q => tT_and q
theorem W_or (h : PT X a (tT X.K X.mg W ta)) (h2 : PW X (.BoolOp .Or (b :: rest) pos) (tT X.K X.mg W tb)) : PW X (.BoolOp .Or (a :: b :: rest) pos) (tT X.K X.mg W (orT ta tb)) := PW.of (pw_or h h2) fun _ _ _ q => tT_or q
theorem E_one {op} (h : PE X a (tE X.K X.mg W f)) : PE X (.BoolOp op [a] pos) (tE X.K X.mg W f) := pe_one h
theorem E_and (h : PE X a (tE X.K X.mg W fa)) (h2 : PE X (.BoolOp .And (b :: rest) pos) (tE X.K X.mg W fb)) : PE X (.BoolOp .And (a :: b :: rest) pos) (tE X.K X.mg W (andE fa fb)) := PE.of (pe_and h h2) fun _ _ _ q => tE_and q
theorem E_or (h : PE X a (tE X.K X.mg W fa)) (h2 : PE X (.BoolOp .Or (b :: rest) pos) (tE X.K X.mg W fb)) : PE X (.BoolOp .Or (a :: b :: rest) pos) (tE X.K X.mg W (orE fa fb)) := PE.of (pe_or h h2) fun _ _ _ q => tE_or q
theorem E_not (h : PE X a (tE X.K X.mg W fa)) : PE X (.UnaryOp .Not a pos) (tE X.K X.mg W (notE fa)) := PE.of (pe_not h) fun _ _ _ q => tE_not q
theorem E_if (h : PT X c (tT X.K X.mg W ta)) (h1 : PE X a (tE X.K X.mg W fa)) (h2 : PE X b (tE X.K X.mg W fb)) : PE X (.IfExp c a b pos) (tE X.K X.mg W (ifE ta fa fb)) := PE.of (pe_ifExp h h1 h2) fun _ _ _ q => tE_if q
def opNeg : List D → Option D
  | [.int i] => some (.int (-i))
  | _ => none
theorem snd_neg : Snd X (fun vs H Q => ∃ x, vs = [x] ∧ rU (fun i => .int (-i)) x H Q) opNeg := by
  refine snd_pure fun Z H S ds vs d Q w r e q => ?_
  unfold opNeg at e
  split at e
  · rename_i i
    simp only [Option.some.injEq] at e
    subst e
    obtain ⟨v, rfl, rv⟩ := rb1 r
    have rv' : v = .int i := rv
    subst rv'
    exact ⟨_, rfl, i, rfl, q _ rfl⟩
  · cases e
theorem one_of {r : V → Hp → VK → Prop} {Q : VK} (h : tA K mg W (aCons f aNil) σ H fun vs H1 => ∃ x, vs = [x] ∧ r x H1 Q) : tUn r (tE K mg W f) σ H Q := by
  refine tE_mono (fun v H1 q => ?_) (tA_cons h)
  obtain ⟨x, hx, q⟩ := tA_nil q
  cases hx
  exact q
theorem E_neg (h : PE X a (tE X.K X.mg W fa)) : PE X (.UnaryOp .USub a pos) (tE X.K X.mg W (un opNeg fa)) := PE.of (pe_un un_neg h) fun _ _ _ q => one_of (tE_app snd_neg q)
theorem E_idx (ha : PE X a (tE X.K X.mg W fa)) (hb : PE X b (tE X.K X.mg W fb)) (hs : PlainIx b := by exact fun _ _ => rfl) : PE X (.Subscript a b pos) (tE X.K X.mg W (idx (aCons fa (aCons fb aNil)))) := pe_idx ha hb hs
theorem E_cut {lo hi : Option Expr} {lf hf : Option (M EV)} (he : PE X e (tE X.K X.mg W f)) (hl : PO X lo (tO X.K X.mg W (partO lf))) (hh : PO X hi (tO X.K X.mg W (partO hf))) : PE X (.Subscript e (.Slice lo hi none p2) pos) (tE X.K X.mg W (cut f lf hf)) :=
  PE.of (pe_slice (SlR.or sl_list (SlR.or sl_tupA sl_str)) he hl hh) fun _ _ _ q => tE_cut q
theorem O_0 : PO X none (tO X.K X.mg W (partO none)) := po_N
theorem O_1 (h : PE X e (tE X.K X.mg W f)) : PO X (some e) (tO X.K X.mg W (partO (some f))) := po_S h
theorem E_T {x1 : Nat} (h : PA X es (tA X.K X.mg W fs)) : PE X (.Tuple es x1 pos) (tE X.K X.mg W (disp false .tup fs)) := pe_T h
theorem E_L (h : PA X es (tA X.K X.mg W fs)) : PE X (.List es pos) (tE X.K X.mg W (disp true .lst fs)) := pe_L h
theorem E_blF {x : Str} {id : String} {p : Pos} {r : List V → Hp → VK → Prop} {g : List D → Option D} (hs : Snd X r g) (hc : CallR X (.builtin id) r) (hm : X.mg x = none) (ha : PA X (e :: es) (tA X.K X.mg W fs)) (hv : bootBuiltins x = some (.builtin id) := by first | exact PySem.boot_len | rfl) (hg : Gl X x := by rfl)
    (hn : x ≠ "__name__" := by decide) (hdb : (x == ("__debug__" : Str)) = false := by decide) (he : starEach (e :: es) X.env = (false, eval e X.env) :: starEach es X.env := by rfl) (hpl : (backTo pos (starEach es X.env)).any (·.1) = false := by rfl) :
    PE X (.Call (.Name x p) (e :: es) [] pos) (tE X.K X.mg W (app g fs)) := pe_blt hs hc hg hm hv ha hn hdb he hpl
theorem E_blG {x : Str} {id : String} {p : Pos} {r : List V → Hp → VK → Prop} {g : List D → Option D} (hs : Snd X r g) (hc : CallR X (.builtin id) r) (hm : X.mg x = none) (ha : PA X (e :: es) (tA X.K X.mg W fs)) (hv : bootBuiltins x = some (.builtin id) := by rfl) (hg : Gl X x := by rfl)
    (hn : x ≠ "__name__" := by decide) (hdb : (x == ("__debug__" : Str)) = false := by decide) (he : starEach (e :: es) X.env = (false, eval e X.env) :: starEach es X.env := by rfl) (hpl : (backTo pos (starEach es X.env)).any (·.1) = false := by rfl) :
    PE X (.Call (.Name x p) (e :: es) [] pos) (tE X.K X.mg W (appF g fs)) := pe_bltF hs hc hg hm hv ha hn hdb he hpl
theorem E_ty {x : Str} {T : String} {p : Pos} {r : List V → Hp → VK → Prop} {g : List D → Option D} (hs : Snd X r g) (hc : CallR X (.type T) r) (hm : X.mg x = none) (ha : PA X (e :: es) (tA X.K X.mg W fs)) (hv : bootBuiltins x = some (.type T) := by rfl) (hg : Gl X x := by rfl)
    (hn : x ≠ "__name__" := by decide) (hdb : (x == ("__debug__" : Str)) = false := by decide) (he : starEach (e :: es) X.env = (false, eval e X.env) :: starEach es X.env := by rfl) (hpl : (backTo pos (starEach es X.env)).any (·.1) = false := by rfl) :
    PE X (.Call (.Name x p) (e :: es) [] pos) (tE X.K X.mg W (app g fs)) := pe_bty hs hc hg hm hv ha hn hdb he hpl
theorem E_tyG {x : Str} {T : String} {p : Pos} {r : List V → Hp → VK → Prop} {g : List D → Option D} (hs : Snd X r g) (hc : CallR X (.type T) r) (hm : X.mg x = none) (ha : PA X (e :: es) (tA X.K X.mg W fs)) (hv : bootBuiltins x = some (.type T) := by rfl) (hg : Gl X x := by rfl)
    (hn : x ≠ "__name__" := by decide) (hdb : (x == ("__debug__" : Str)) = false := by decide) (he : starEach (e :: es) X.env = (false, eval e X.env) :: starEach es X.env := by rfl) (hpl : (backTo pos (starEach es X.env)).any (·.1) = false := by rfl) :
    PE X (.Call (.Name x p) (e :: es) [] pos) (tE X.K X.mg W (appF g fs)) := pe_btyF hs hc hg hm hv ha hn hdb he hpl
theorem E_app {j : Nat} {x : Str} {fe : M EV} {apos cpos : Pos} (he : PE X e (tE X.K X.mg W fe)) (hj : X.N[j]? = some x := by rfl) (hv : Vis X.env.scope x := by first | exact Or.inl rfl | exact Or.inr (Or.inl rfl) | exact Or.inr (Or.inr rfl)) (hd : (x == ("__debug__" : Str)) = false := by decide) (hcd : (x == ("__classdict__" : Str)) = false := by decide)
    (hbase : attributeBase (.Name x p2) "append" X.env (eval (.Name x p2) X.env) = eval (.Name x p2) X.env := by rfl)
    (hfew : ((backTo cpos (starEach [e] X.env)).all (fun x => !x.1) && (backToKw cpos (keywordEach [] X.env)).all (fun x => x.1.isSome)
      && decide ([e].length + ([] : List Keyword).length + (if ([] : List Keyword).isEmpty then 0 else 1) < 30)) = true := by rfl)
    (hline : (apos.endLine == cpos.line) = true := by rfl) (hs : starEach [e] X.env = (false, eval e X.env) :: starEach [] X.env := by rfl) (hplain : (backTo cpos (starEach [] X.env)).any (·.1) = false := by rfl) :
    PE X (.Call (.Attribute (.Name x p2) "append" apos) [e] [] cpos) (tE X.K X.mg W (appd j fe)) := pe_append hj hv hd hcd he hbase hfew hline hs hplain
/-- what a body needs to call a def -/
structure Fit (X : Cx) (W : WX) (k : Nat) : Prop where
  gd : X.A.guards = some []
  room : Room k X.A
  tk : Takes X W
theorem Fit.blk {k : Nat} {s : Shared} {H0 : Hp} {scope : Scope} {cenv : PySem.Env} {fp : List Addr} (h : Fit X W k) : Fit (X.blk s H0 scope cenv fp) wF k := ⟨h.gd, h.room, fun u s' ⟨_, _, _, _, _, _, _, _, _, _, _, _, _, _, _, _, z⟩ => z.elim⟩
theorem E_ty1 {T : String} (hm : X.mg T = none) (hv : bootBuiltins (T : Str) = some (.type T) := by rfl) (hg : Gl X (T : Str) := by rfl) (hn : (T : Str) ≠ "__name__" := by decide) (hd : ((T : Str) == ("__debug__" : Str)) = false := by decide) : PE X (.Name (T : Str) pos) (tE X.K X.mg W (con (.op (.ty T)))) :=
  E_blt hm hv rfl hg hn hd
/-- a def as the module knows it -/
structure Def (P : Program) (w : World) (K : PySem.W.Frag) (mg : Str → Option Value) (base : Heap) (k : Nat) (x : Str) (f : Addr) (fd : FuncData) (ps : List Str) (g : FSem) : Prop where
  ok : FnG P w K mg base k f fd ps g
  mg : mg x = some (.ref f)
  kp : PySem.W.keepIn K (.ref f) = true
  bd : Binds K fd ps []
theorem E_call {k n : Nat} {fA : Addr} {fd : FuncData} {ps : List Str} {g : FSem} {x : Str} {p : Pos} (F : Def X.prog X.w X.K X.mg X.base k x fA fd ps g) (ft : Fit X W n) (ha : PA X (e :: es) (tA X.K X.mg W fs)) (hk : k ≤ n := by first | decide | omega) (hg : Gl X x := by rfl) (hdb : (x == ("__debug__" : Str)) = false := by decide)
    (he : starEach (e :: es) X.env = (false, eval e X.env) :: starEach es X.env := by rfl) (hpl : (backTo pos (starEach es X.env)).any (·.1) = false := by rfl) : PE X (.Call (.Name x p) (e :: es) [] pos) (tE X.K X.mg W (callF g fs)) :=
  pe_callG F.ok ft.gd (ft.room.mono hk) ft.tk hg F.mg F.kp F.bd ha hdb he hpl
theorem E_call0 {k n : Nat} {fA : Addr} {fd : FuncData} {ps : List Str} {g : FSem} {x : Str} {p : Pos} (F : Def X.prog X.w X.K X.mg X.base k x fA fd ps g) (ft : Fit X W n) (hk : k ≤ n := by first | decide | omega) (hg : Gl X x := by rfl) (hdb : (x == ("__debug__" : Str)) = false := by decide) :
    PE X (.Call (.Name x p) [] [] pos) (tE X.K X.mg W (callF g aNil)) := pe_callG0 F.ok ft.gd (ft.room.mono hk) ft.tk hg F.mg F.kp F.bd hdb
theorem K_0 : PK X [] (tA X.K X.mg W aNil) := pk_N
theorem K_c {nm : Option Str} {kpos : Pos} {kws : List Keyword} (h : PE X e (tE X.K X.mg W f)) (hs : PK X kws (tA X.K X.mg W fs)) : PK X (⟨nm, e, kpos⟩ :: kws) (tA X.K X.mg W (aCons f fs)) := pk_C h hs
theorem E_callK {k r n m : Nat} {fA : Addr} {fd : FuncData} {ps ks : List Str} {pm : List Nat} {g : FSem} {x : Str} {p : Pos} {kws : List Keyword} {fk : M (List EV)} (F : Def X.prog X.w X.K X.mg X.base k x fA fd ps g) (ft : Fit X W r) (hb : KwB X.K fd ps ks n pm) (ha : PA X (e :: es) (tA X.K X.mg W fs)) (hkw : PK X kws (tA X.K X.mg W fk))
    (hk : k ≤ r := by first | decide | omega) (hg : Gl X x := by rfl) (hdb : (x == ("__debug__" : Str)) = false := by decide) (hall : (backToKw pos (keywordEach kws X.env)).all (·.1.isSome) = true := by rfl) (hks : (backToKw pos (keywordEach kws X.env)).filterMap (·.1) = ks := by rfl)
    (hpl : ((backTo pos (starEach (e :: es) X.env)).any (·.1) || (backToKw pos (keywordEach kws X.env)).any (·.1.isNone)) = false := by rfl) (he : starEach (e :: es) X.env = (false, eval e X.env) :: starEach es X.env := by rfl) (hn : ks.length = m := by rfl) :
    PE X (.Call (.Name x p) (e :: es) kws pos) (tE X.K X.mg W (callF g (selA (n + m) pm (aApp n m fs fk)))) := pe_callGK F.ok ft.gd (ft.room.mono hk) ft.tk hg F.mg F.kp hb ha hkw hdb hall hks hpl he hn
theorem E_callK0 {k r m : Nat} {fA : Addr} {fd : FuncData} {ps ks : List Str} {pm : List Nat} {g : FSem} {x : Str} {p : Pos} {kws : List Keyword} {fk : M (List EV)} (F : Def X.prog X.w X.K X.mg X.base k x fA fd ps g) (ft : Fit X W r) (hb : KwB X.K fd ps ks 0 pm) (hkw : PK X kws (tA X.K X.mg W fk))
    (hk : k ≤ r := by first | decide | omega) (hg : Gl X x := by rfl) (hdb : (x == ("__debug__" : Str)) = false := by decide) (hall : (backToKw pos (keywordEach kws X.env)).all (·.1.isSome) = true := by rfl) (hks : (backToKw pos (keywordEach kws X.env)).filterMap (·.1) = ks := by rfl)
    (hpl : ((backTo pos (starEach [] X.env)).any (·.1) || (backToKw pos (keywordEach kws X.env)).any (·.1.isNone)) = false := by rfl) (hn : ks.length = m := by rfl) :
    PE X (.Call (.Name x p) [] kws pos) (tE X.K X.mg W (callF g (selA m pm fk))) := pe_callGK0 F.ok ft.gd (ft.room.mono hk) ft.tk hg F.mg F.kp hb hkw hdb hall hks hpl hn
/-! ### statements -/
variable {st : Stmt} {sts s1 s2 : List Stmt} {m1 m2 : M Fl}
theorem B_0 : PSs X [] (tS X.K X.mg W A sNx) := PSs.of pss_nil fun _ _ _ q => tS_nx q
theorem B_c (h : PS X st (tS X.K X.mg W A m1)) (h2 : PSs X sts (tS X.K X.mg W A m2)) : PSs X (st :: sts) (tS X.K X.mg W A (seq m1 m2)) := PSs.of (pss_cons h h2) fun _ _ _ q => tS_seq q
theorem B_1 (h : PS X st (tS X.K X.mg W A m1)) : PSs X [st] (tS X.K X.mg W A m1) := pss_one h
theorem S_if (h : PT X c (tT X.K X.mg W ta)) (h1 : PSs X s1 (tS X.K X.mg W A m1)) (h2 : PSs X s2 (tS X.K X.mg W A m2)) : PS X (.If c s1 s2 pos) (tS X.K X.mg W A (ite ta m1 m2)) := PS.of (ps_if h h1 h2) fun _ _ _ q => tS_if q
theorem S_ret (h : PE X e (tE X.K X.mg W f)) : PS X (.Return (some e) pos) (tS X.K X.mg W A (rtn f)) := PS.of (ps_ret h) fun _ _ _ q => tS_rtn q
/-- a def's own local handed back: it moves -/
theorem E_mov (i : Nat) {x : Str} (hN : X.N[i]? = some x := by rfl) (hv : Vis X.env.scope x := by first | exact Or.inl rfl | exact Or.inr (Or.inl rfl) | exact Or.inr (Or.inr rfl)) (hd : (x == ("__debug__" : Str)) = false := by decide) (hcd : (x == ("__classdict__" : Str)) = false := by decide) :
    PE X (.Name x pos) (tE X.K X.mg W (mov i)) := PE.of (pe_var hN hv hd hcd) fun _ _ _ => tE_mov
theorem S_ex (h : PE X e (tE X.K X.mg W f)) (hs : swapsWith e none pos.line X.env = pure false := by rfl) : PS X (.Expr e pos) (tS X.K X.mg W A (drp f)) := PS.of (ps_expr h hs) fun _ _ _ q => tS_drp q
theorem S_pass : PS X (.Pass pos) (tS X.K X.mg W A sNx) := PS.of ps_pass fun _ _ _ q => tS_nx q
def sBk : M Fl := ret .bk
def sCt : M Fl := ret .ct
theorem S_bk : PS X (.Break pos) (tS X.K X.mg W A sBk) := PS.of ps_break fun D σ H q => by
  obtain ⟨Z, ρ, S, w, er, o⟩ := q
  exact o σ .non Z H S Fp0 (Keep.refl σ) w.nil (fun _ _ x => x) er trivial
theorem S_ct : PS X (.Continue pos) (tS X.K X.mg W A sCt) := PS.of ps_continue fun D σ H q => by
  obtain ⟨Z, ρ, S, w, er, o⟩ := q
  exact o σ .non Z H S Fp0 (Keep.refl σ) w.nil (fun _ _ x => x) er trivial
theorem S_wh (hp : PassesOwn (model X.prog X.w) X.A X.env X.xe) (hc : PT X c (tT X.K X.mg W ta)) (hb : PSs X s1 (tS X.K X.mg W A m1)) : PS X (.While c s1 [] pos) (tS X.K X.mg W A (whl ta m1)) := ps_whl hp hc hb
theorem S_for {s : M (List D)} {g : Tg} (hp : PassesOwn (model X.prog X.w) X.A X.env X.xe) (hi : PI X tg iter (tI X.K X.mg W s)) (hg : PG X tg (tG X.K A g)) (hb : PSs X s1 (tS X.K X.mg W A m1)) (hc : X.calm = true := by rfl) (hs : ∀ x, foldedSetIterable iter X.env x = pure x := by intro _; rfl) :
    PS X (.For tg iter s1 [] pos) (tS X.K X.mg W A (forS s g m1)) := ps_forS hp hc hi hg hb hs
theorem S_set {i : Nat} {x : Str} {pos' : Pos} (he : PE X e (tE X.K X.mg W f)) (hN : X.N.Nodup) (hA : A i = true := by rfl) (hi : X.N[i]? = some x := by rfl) (hx : Loc X.env.scope x := by first | exact .inl rfl | exact .inr rfl) (hs : swapsWith e (some (.Name x pos')) pos.line X.env = pure false := by rfl)
    (hf : X.fn x = true ∨ X.env.scope.names.lookup x = some .local := by first | exact .inl rfl | exact .inr rfl) : PS X (.Assign [.Name x pos'] e pos) (tS X.K X.mg W A (asg f (gN i))) := ps_N hN hi hx hA he hs hf
theorem S_tg {g : Tg} (he : PE X e (tE X.K X.mg W f)) (hg : PG X tg (tG X.K A g)) (hs : swapsWithSole [tg] e pos.line X.env = pure false := by rfl) (hw : swappedStores [tg] e X.env = pure none := by rfl) (h1 : (assignEach [tg] X.env).map (·.2) = [assign tg X.env] := by rfl) :
    PS X (.Assign [tg] e pos) (tS X.K X.mg W A (asg f g)) := ps_G he hg hs hw h1
theorem G_n {i : Nat} {x : Str} (hN : X.N.Nodup) (hA : A i = true := by rfl) (hi : X.N[i]? = some x := by rfl) (hx : Loc X.env.scope x := by first | exact .inl rfl | exact .inr rfl) (hf : X.fn x = true ∨ X.env.scope.names.lookup x = some .local := by first | exact .inl rfl | exact .inr rfl) :
    PG X (.Name x pos) (tG X.K A (gN i)) := pg_N hN hi hx hA hf
theorem G_i {j : Nat} {x : Str} {fi : M EV} (hi : PE X b (tE X.K X.mg wF fi)) (hj : X.N[j]? = some x := by rfl) (hv : Vis X.env.scope x := by first | exact Or.inl rfl | exact Or.inr (Or.inl rfl) | exact Or.inr (Or.inr rfl)) (hd : (x == ("__debug__" : Str)) = false := by decide) (hcd : (x == ("__classdict__" : Str)) = false := by decide)
    (ha : ∀ v, assign (.Subscript (.Name x p2) b pos) X.env v = (do
      let ov ← holding [v] (eval (.Name x p2) X.env)
      let iv ← holding [v, ov] (eval b X.env)
      standAt pos
      holding [v, ov, iv] (setItem ov iv v)
      release [v, ov, iv] []) := by intro _; rfl) : PG X (.Subscript (.Name x p2) b pos) (tG X.K A (gI j fi)) := pg_I hj hv hd hcd hi ha
theorem Gs_0 : PGs X [] (tGs X.K A gs0) := pgs_0
theorem Gs_c {g : Tg} {gs : List D → M Unit} (h1 : PG X e (tG X.K A g)) (h2 : PGs X es (tGs X.K A gs)) (hs : (assignEach (e :: es) X.env).map (·.2) = assign e X.env :: (assignEach es X.env).map (·.2) := by rfl) : PGs X (e :: es) (tGs X.K A (gsC g gs)) := pgs_C h1 h2 hs
theorem G_t {k n : Nat} {gs : List D → M Unit} (h : PGs X es (tGs X.K A gs)) (hc : X.calm = true := by rfl) (hn : (assignEach es X.env).length = n := by rfl) (hst : (assignEach es X.env).findIdx? (·.1) = none := by rfl) : PG X (.Tuple es k pos) (tG X.K A (gT gs n)) := pg_T hc h hn hst
theorem S_par {i j : Nat} {x y : Str} {px py pt : Pos} {kt k2 pt2} (ha : PA X [a, b] (tA X.K X.mg W fs)) (hN : X.N.Nodup) (hAi : A i = true := by rfl) (hAj : A j = true := by rfl) (hi : X.N[i]? = some x := by rfl) (hj : X.N[j]? = some y := by rfl) (hij : i ≠ j := by decide) (hc : X.calm = true := by rfl)
    (hx : X.env.scope.names.lookup x = some .local := by rfl) (hy : X.env.scope.names.lookup y = some .local := by rfl) (hw : swappedStores [.Tuple [.Name x px, .Name y py] kt pt] (.Tuple [a, b] k2 pt2) X.env = pure (some [x, y]) := by rfl)
    (hs : swapsWithSole [.Tuple [.Name x px, .Name y py] kt pt] (.Tuple [a, b] k2 pt2) pos.line X.env = pure false := by rfl) : PS X (.Assign [.Tuple [.Name x px, .Name y py] kt pt] (.Tuple [a, b] k2 pt2) pos) (tS X.K X.mg W A (par i j fs)) := ps_P hc hN hi hj hij hAi hAj hx hy ha hw hs
theorem S_aug {i : Nat} {x : Str} {op : Operator} {g : List D → Option D} {pos' : Pos} (ho : Opd X (inplaceOp op) g) (he : PE X e (tE X.K X.mg W f)) (hN : X.N.Nodup) (hA : A i = true := by rfl) (hi : X.N[i]? = some x := by rfl) (hx : Loc X.env.scope x := by first | exact .inl rfl | exact .inr rfl)
    (hf : X.fn x = true ∨ X.env.scope.names.lookup x = some .local := by first | exact .inl rfl | exact .inr rfl) : PS X (.AugAssign (.Name x pos') op e pos) (tS X.K X.mg W A (asg (bin g (loc i) f) (gN i))) := ps_augG hN hi hx hA he ho hf
/-! ### what is walked -/
theorem I_r1 {p : Pos} (hm : X.mg "range" = none) (ha : PE X a (tE X.K X.mg W fa)) (hg : Gl X "range" := by rfl) (h1 : starEach [a] X.env = [(false, eval a X.env)] := by rfl) : PI X tg (.Call (.Name "range" p) [a] [] pos) (tI X.K X.mg W (srcR1 (aCons fa aNil))) := pi_R1 hg hm (A_c ha A_0 h1) h1
theorem I_r2 {p : Pos} (hm : X.mg "range" = none) (ha : PE X a (tE X.K X.mg W fa)) (hb : PE X b (tE X.K X.mg W fb)) (hg : Gl X "range" := by rfl) (h1 : starEach [a, b] X.env = [(false, eval a X.env), (false, eval b X.env)] := by rfl) (h2 : starEach [b] X.env = [(false, eval b X.env)] := by rfl) : PI X tg (.Call (.Name "range" p) [a, b] [] pos) (tI X.K X.mg W (srcR2 (aCons fa (aCons fb aNil)))) := pi_R2 hg hm (A_c ha (A_c hb A_0 h2) (h1.trans (by rw [h2]))) h1 h2
theorem I_a (h : PE X l (tE X.K X.mg W f)) : PI X tg l (tI X.K X.mg W (srcA f)) := pi_A h
theorem E_lc {elt : Expr} {ifs : List Expr} {scope : Scope} {own : List (Str × Nat)} {s : M (List D)} {g : Tg} {cc : M Bool} {ee : M EV} (hN : X.N.Nodup) (hi : PI X tg iter (tI X.K X.mg W s)) (ok : BlkOk X.N X.env.scope scope own)
    (hg : ∀ (s : Shared) (H : Hp) (C : Addr) (cl : List (Str × Addr)) (fp : List Addr), PG (X.blk s H scope (compEnvC scope cl C X.env) fp) tg (tG X.K (ownA own) g)) (ht : ∀ (s : Shared) (H : Hp) (C : Addr) (cl : List (Str × Addr)) (fp : List Addr), PTs (X.blk s H scope (compEnvC scope cl C X.env) fp) ifs (tT X.K X.mg wF cc))
    (he : ∀ (s : Shared) (H : Hp) (C : Addr) (cl : List (Str × Addr)) (fp : List Addr), PE (X.blk s H scope (compEnvC scope cl C X.env) fp) elt (tE X.K X.mg wF ee)) (hc : X.calm = true := by rfl) (hs : ∀ x, foldedSetIterable iter X.env x = pure x := by intro _; rfl) :
    PE X (.ListComp elt [⟨tg, iter, ifs, 0⟩] scope pos) (tE X.K X.mg W (comp (own.map (·.2)) s g cc ee)) := pe_C hc hN hi ok hg ht he hs
theorem S_lc {i : Nat} {y : Str} {py spos : Pos} {elt : Expr} {ifs : List Expr} {scope : Scope} {own : List (Str × Nat)} {s : M (List D)} {g : Tg} {cc : M Bool} {ee : M EV} (hN : X.N.Nodup) (hi : PI X tg iter (tI X.K X.mg W s)) (ok : BlkOk X.N X.env.scope scope own)
    (hg : ∀ (s : Shared) (H : Hp) (C : Addr) (cl : List (Str × Addr)) (fp : List Addr), PG (X.blk s H scope (compEnvC scope cl C X.env) fp) tg (tG X.K (ownA own) g)) (ht : ∀ (s : Shared) (H : Hp) (C : Addr) (cl : List (Str × Addr)) (fp : List Addr), PTs (X.blk s H scope (compEnvC scope cl C X.env) fp) ifs (tT X.K X.mg wF cc))
    (he : ∀ (s : Shared) (H : Hp) (C : Addr) (cl : List (Str × Addr)) (fp : List Addr), PE (X.blk s H scope (compEnvC scope cl C X.env) fp) elt (tE X.K X.mg wF ee)) (hc : X.calm = true := by rfl) (hs : ∀ x, foldedSetIterable iter X.env x = pure x := by intro _; rfl)
    (hA : A i = true := by rfl) (hy : X.N[i]? = some y := by rfl) (hyl : X.env.scope.names.lookup y = some .local := by rfl) (hsw : swapsWith (.ListComp elt [⟨tg, iter, ifs, 0⟩] scope pos) (some (.Name y py)) spos.line X.env = pure true := by rfl) :
    PS X (.Assign [.Name y py] (.ListComp elt [⟨tg, iter, ifs, 0⟩] scope pos) spos) (tS X.K X.mg W A (asg (comp (own.map (·.2)) s g cc ee) (gN i))) := ps_C hc hN hy hyl hA hsw hi ok hg ht he hs
theorem Ts_0 : PTs X [] (tT X.K X.mg W yesT) := pts_N
theorem Ts_1 (h : PT X c (tT X.K X.mg W ta)) : PTs X [c] (tT X.K X.mg W ta) := pts_1 h
end
end Pm
set_option maxHeartbeats 2000000
/-! PmZk: list comprehensions of several clauses, over the hand layer's words. -/
namespace Pm
open PySem PySem.Spec PyProof.Rows L2
/-! ### a turn of a clause that has another one within it; of the last one -/
def turnO (LC : Expr) (k : Nat) (t i : Expr) (ifs : List Expr) (i1 : Expr) (it acc : Value) (env : PySem.Env) : Sem Fin := do
      standAt i.pos
      match ← pyNext it with
      | none => pure (.done .next)
      | some v =>
        letOwnedTupleGo t it v
        assign t env v
        let mut ok := true
        for c in ifs do
          if ok then ok ← isTrue c env (eval c env)
        if ok then
          let x ← eval i1 env
          standAt i1.pos
          let x ← foldedSetIterable i1 env x
          let _ ← runOwn (.compStart LC (k + 1) (← holding [x] (pyIter x)) acc env) env
        again (.compLoop LC k it acc env)
def turnL (LC : Expr) (k : Nat) (elt t i : Expr) (ifs : List Expr) (it acc : Value) (env : PySem.Env) : Sem Fin := do
      standAt i.pos
      match ← pyNext it with
      | none => pure (.done .next)
      | some v =>
        letOwnedTupleGo t it v
        assign t env v
        let mut ok := true
        for c in ifs do
          if ok then ok ← isTrue c env (eval c env)
        if ok then
          (do let _ ← call (.builtin "list.append") [acc, ← eval elt env])
        again (.compLoop LC k it acc env)
section
variable {elt t0 i0 t1 i1 t2 i2 : Expr} {ifs0 ifs1 ifs2 : List Expr} {scope : Scope} {pos : Pos} {it acc : Value} {env : PySem.Env}
abbrev LC2 (elt t0 i0 t1 i1 : Expr) (ifs0 ifs1 : List Expr) (scope : Scope) (pos : Pos) : Expr := .ListComp elt [⟨t0, i0, ifs0, 0⟩, ⟨t1, i1, ifs1, 0⟩] scope pos
abbrev LC3 (elt t0 i0 t1 i1 t2 i2 : Expr) (ifs0 ifs1 ifs2 : List Expr) (scope : Scope) (pos : Pos) : Expr := .ListComp elt [⟨t0, i0, ifs0, 0⟩, ⟨t1, i1, ifs1, 0⟩, ⟨t2, i2, ifs2, 0⟩] scope pos
theorem turn20 : compTurn (LC2 elt t0 i0 t1 i1 ifs0 ifs1 scope pos) 0 it acc env = turnO (LC2 elt t0 i0 t1 i1 ifs0 ifs1 scope pos) 0 t0 i0 ifs0 i1 it acc env := by rfl
theorem turn21 : compTurn (LC2 elt t0 i0 t1 i1 ifs0 ifs1 scope pos) 1 it acc env = turnL (LC2 elt t0 i0 t1 i1 ifs0 ifs1 scope pos) 1 elt t1 i1 ifs1 it acc env := by rfl
theorem turn30 : compTurn (LC3 elt t0 i0 t1 i1 t2 i2 ifs0 ifs1 ifs2 scope pos) 0 it acc env = turnO (LC3 elt t0 i0 t1 i1 t2 i2 ifs0 ifs1 ifs2 scope pos) 0 t0 i0 ifs0 i1 it acc env := by rfl
theorem turn31 : compTurn (LC3 elt t0 i0 t1 i1 t2 i2 ifs0 ifs1 ifs2 scope pos) 1 it acc env = turnO (LC3 elt t0 i0 t1 i1 t2 i2 ifs0 ifs1 ifs2 scope pos) 1 t1 i1 ifs1 i2 it acc env := by rfl
theorem turn32 : compTurn (LC3 elt t0 i0 t1 i1 t2 i2 ifs0 ifs1 ifs2 scope pos) 2 it acc env = turnL (LC3 elt t0 i0 t1 i1 t2 i2 ifs0 ifs1 ifs2 scope pos) 2 elt t2 i2 ifs2 it acc env := by rfl
end
section
variable {prog : Program} {w : World} {A : Around} {R : Result → Shared → Prop} {s : Shared} {elt0 elt t i i1 : Expr} {gens : List Comprehension} {ifs : List Expr} {scope : Scope} {pos : Pos} {it acc : Value} {env : PySem.Env} {k : Nat}
theorem loopO (hT : compTurn (.ListComp elt0 gens scope pos) k it acc env = turnO (.ListComp elt0 gens scope pos) k t i ifs i1 it acc env) (hs : ∀ x, foldedSetIterable i1 env x = pure x) (I : Nat → Shared → Prop)
    (turn : ∀ n s, I n s → wpAny (model prog w) A (pyNext it) (fun r s₁ => match r with
      | none => R (.ok .next) s₁
      | some v => wpAny (model prog w) A (letOwnedTupleGo t it v) (fun _ s₁' => wpAny (model prog w) A (assign t env v) (fun _ s₂ =>
          wpAny (model prog w) A (forIn ifs true fun c r => if r = true then do let ok ← isTrue c env (eval c env); pure (ForInStep.yield ok) else pure (ForInStep.yield r)) (fun ok s₃ =>
            if ok = true then wpAny (model prog w) A (eval i1 env) (fun x s₄ => wpAny (model prog w) A (pyIter x) (fun it1 s₅ =>
              codeAny (model prog w) A (.compStart (.ListComp elt0 gens scope pos) (k + 1) it1 acc env) (fun r s' => match r with
                | .ok _ => ∃ m, m < n ∧ I m s'
                | .error _ => False) s₅) (notedBy (model prog w) A env fun e s' => R (.error e) s') s₄) (notedBy (model prog w) A env fun e s' => R (.error e) s') s₃
            else ∃ m, m < n ∧ I m s₃) (notedBy (model prog w) A env fun e s' => R (.error e) s') s₂) (notedBy (model prog w) A env fun e s' => R (.error e) s') s₁') (notedBy (model prog w) A env fun e s' => R (.error e) s') s₁) (notedBy (model prog w) A env fun e s' => R (.error e) s') s)
    (n : Nat) (h : I n s) : codeAny (model prog w) A (.compLoop (.ListComp elt0 gens scope pos) k it acc env) R s := by
  refine codeAny_loop rfl I (fun n s hI => ?_) n h
  show wpAny _ A ((compTurn (.ListComp elt0 gens scope pos) k it acc env).onRaise (fun x => do noteFrame x env; theTreesLotGoes x)) _ _ s
  refine wpAny_noted ?_
  rw [hT]
  unfold turnO
  refine wpAny_bind (wpAny_standAt (wpAny_bind (wpAny_mono (turn n s hI) (fun r s₁ h₁ => ?_) fun _ _ h' => h')))
  cases r with
  | none => exact wpAny_pure h₁
  | some v =>
    refine wpAny_bind (wpAny_mono h₁ (fun _ s₁' h₁' => ?_) fun _ _ h' => h')
    refine wpAny_bind (wpAny_mono h₁' (fun _ s₂ h₂ => wpAny_bind (wpAny_mono h₂ (fun ok s₃ h₃ => ?_) fun _ _ h' => h')) fun _ _ h' => h')
    cases ok with
    | false => exact wpAny_pure ⟨rfl, h₃⟩
    | true =>
      refine wpAny_bind (wpAny_mono h₃ (fun x s₄ h₄ => ?_) fun _ _ h' => h')
      refine wpAny_bind (wpAny_standAt (wpAny_bind (wpAny_of_eq (hs x) (wpAny_bind (wpAny_holding (wpAny_mono h₄ (fun it1 s₅ h₅ => ?_) fun _ _ h' => h'))))))
      refine wpAny_bind (wpAny_runOwn ?_)
      rw [Around.mark_none]
      refine codeAny_mono h₅ fun r s' hr => ?_
      cases r with
      | ok f =>
        first
          | exact wpAny_pure ⟨rfl, hr⟩
          | exact wpAny_bind (wpAny_pure (wpAny_pure ⟨rfl, hr⟩))
      | error e => exact hr.elim
theorem loopL (hT : compTurn (.ListComp elt0 gens scope pos) k it acc env = turnL (.ListComp elt0 gens scope pos) k elt t i ifs it acc env) (I : Nat → Shared → Prop)
    (turn : ∀ n s, I n s → wpAny (model prog w) A (pyNext it) (fun r s₁ => match r with
      | none => R (.ok .next) s₁
      | some v => wpAny (model prog w) A (letOwnedTupleGo t it v) (fun _ s₁' => wpAny (model prog w) A (assign t env v) (fun _ s₂ =>
          wpAny (model prog w) A (forIn ifs true fun c r => if r = true then do let ok ← isTrue c env (eval c env); pure (ForInStep.yield ok) else pure (ForInStep.yield r)) (fun ok s₃ =>
            if ok = true then wpAny (model prog w) A (eval elt env) (fun x s₄ =>
              wpAny (model prog w) A (call (.builtin "list.append") [acc, x]) (fun _ s₅ => ∃ m, m < n ∧ I m s₅) (notedBy (model prog w) A env fun e s' => R (.error e) s') s₄) (notedBy (model prog w) A env fun e s' => R (.error e) s') s₃
            else ∃ m, m < n ∧ I m s₃) (notedBy (model prog w) A env fun e s' => R (.error e) s') s₂) (notedBy (model prog w) A env fun e s' => R (.error e) s') s₁') (notedBy (model prog w) A env fun e s' => R (.error e) s') s₁) (notedBy (model prog w) A env fun e s' => R (.error e) s') s)
    (n : Nat) (h : I n s) : codeAny (model prog w) A (.compLoop (.ListComp elt0 gens scope pos) k it acc env) R s := by
  refine codeAny_loop rfl I (fun n s hI => ?_) n h
  show wpAny _ A ((compTurn (.ListComp elt0 gens scope pos) k it acc env).onRaise (fun x => do noteFrame x env; theTreesLotGoes x)) _ _ s
  refine wpAny_noted ?_
  rw [hT]
  unfold turnL
  refine wpAny_bind (wpAny_standAt (wpAny_bind (wpAny_mono (turn n s hI) (fun r s₁ h₁ => ?_) fun _ _ h' => h')))
  cases r with
  | none => exact wpAny_pure h₁
  | some v =>
    refine wpAny_bind (wpAny_mono h₁ (fun _ s₁' h₁' => ?_) fun _ _ h' => h')
    refine wpAny_bind (wpAny_mono h₁' (fun _ s₂ h₂ => wpAny_bind (wpAny_mono h₂ (fun ok s₃ h₃ => ?_) fun _ _ h' => h')) fun _ _ h' => h')
    cases ok with
    | false => exact wpAny_pure ⟨rfl, h₃⟩
    | true =>
      exact wpAny_bind (wpAny_bind (wpAny_mono h₃ (fun x s₄ h₄ => wpAny_bind (wpAny_mono h₄ (fun _ s₅ h₅ => wpAny_pure (wpAny_pure ⟨rfl, h₅⟩)) fun _ _ h' => h')) fun _ _ h' => h'))
end
/-- how a clause behind the first one begins -/
def Starts (LC : Expr) (k : Nat) : Prop := ∀ {prog : Program} {w : World} {A : Around} {R : Result → Shared → Prop} {s : Shared} {it acc : Value} {env : PySem.Env},
  codeAny (model prog w) A (.compLoop LC k it acc env) R s → wpAny (model prog w) A (pyIter it) (fun it' s' => codeAny (model prog w) A (.compLoop LC k it' acc env) R s') (notedBy (model prog w) A env fun x s' => R (.error x) s') s →
    codeAny (model prog w) A (.compStart LC k it acc env) R s
section
variable {elt t0 i0 t1 i1 t2 i2 : Expr} {ifs0 ifs1 ifs2 : List Expr} {scope : Scope} {pos : Pos}
theorem starts21 : Starts (LC2 elt t0 i0 t1 i1 ifs0 ifs1 scope pos) 1 := fun h0 h => compStart1_ok h0 h
theorem starts31 : Starts (LC3 elt t0 i0 t1 i1 t2 i2 ifs0 ifs1 ifs2 scope pos) 1 := by
  intro prog w A R s it acc env h0 h
  refine codeAny_of_tree ?_
  show wpAny _ _ ((compStart (LC3 elt t0 i0 t1 i1 t2 i2 ifs0 ifs1 ifs2 scope pos) 1 it acc env).onRaise (fun x => do noteFrame x env; standAt theWindowsPlace)) _ _ s
  refine wpAny_notedAt ?_
  unfold compStart
  show wpAny _ _ (ask >>= _) _ _ s
  refine wpAny_bind (wpAny_askSetting (wpAny_ite ?_))
  split
  · first
      | exact wpAny_bind (wpAny_pure (wpAny_pure (And.intro rfl h0)))
      | exact wpAny_pure (And.intro rfl h0)
  · first
      | exact wpAny_bind (wpAny_rule (wpAny_bind (wpAny_standAt (wpAny_bind (wpAny_mono h (fun it' s' h' => wpAny_pure (And.intro rfl h')) fun _ _ x => x)))))
      | (refine wpAny_bind (wpAny_rule ?_); show wpAny _ _ (standAt i1.pos >>= _) _ _ s; exact wpAny_bind (wpAny_standAt (wpAny_bind (wpAny_mono h (fun it' s' h' => wpAny_pure (And.intro rfl h')) fun _ _ x => x))))
theorem starts32 : Starts (LC3 elt t0 i0 t1 i1 t2 i2 ifs0 ifs1 ifs2 scope pos) 2 := by
  intro prog w A R s it acc env h0 h
  refine codeAny_of_tree ?_
  show wpAny _ _ ((compStart (LC3 elt t0 i0 t1 i1 t2 i2 ifs0 ifs1 ifs2 scope pos) 2 it acc env).onRaise (fun x => do noteFrame x env; standAt theWindowsPlace)) _ _ s
  refine wpAny_notedAt ?_
  unfold compStart
  show wpAny _ _ (ask >>= _) _ _ s
  refine wpAny_bind (wpAny_askSetting (wpAny_ite ?_))
  split
  · first
      | exact wpAny_bind (wpAny_pure (wpAny_pure (And.intro rfl h0)))
      | exact wpAny_pure (And.intro rfl h0)
  · first
      | exact wpAny_bind (wpAny_rule (wpAny_bind (wpAny_standAt (wpAny_bind (wpAny_mono h (fun it' s' h' => wpAny_pure (And.intro rfl h')) fun _ _ x => x)))))
      | (refine wpAny_bind (wpAny_rule ?_); show wpAny _ _ (standAt i2.pos >>= _) _ _ s; exact wpAny_bind (wpAny_standAt (wpAny_bind (wpAny_mono h (fun it' s' h' => wpAny_pure (And.intro rfl h')) fun _ _ x => x))))
end
/-! ### what the clauses within ask -/
abbrev TM := L2.St → Hp → Addr → (Hp → Prop) → Prop
/-- the last thing: an item is made and put to the list at D -/
def tEm (te : TE) : TM := fun σ H D Nx => te σ H fun y H7 => ∃ acc, H7 D = some (.lst acc) ∧ acc.length < sizeLine ∧ Nx (upd H7 D (.lst (acc ++ [y])))
/-- a clause and what stands within it; vs: the names that are stored from here on -/
def tCl (wi : TI) (g : TG) (tt : TT) (tin : TM) (vs : List Nat) : TM := fun σ H D Nx => wi σ H fun J H4 => ∃ W : Nat → Nat → Hp → Prop, (∃ m, W 0 m H4) ∧ ∀ j k H, W j k H →
  (J.stop j H ∧ Nx H) ∨ (J.go j H ∧ ∃ Nx1 : Hp → Prop, (∀ H', Nx1 H' → ∃ k', k' < k ∧ W (j + 1) k' H') ∧ ∀ x H', J.yld j H x H' → g x (wipe σ vs) H' fun σ3 H5 => wipe σ3 vs = wipe σ vs ∧ tt σ3 H5 fun b H6 =>
    if b = true then tin σ3 H6 D Nx1 else Nx1 H6)
/-- a clause behind the first one, run -/
def JO (B : Cx) (LC iter : Expr) (k : Nat) (tm : TM) (vs : List Nat) : Prop := ∀ (P : List (Addr × Obj)) (s : Shared) (σ : L2.St) (H : Hp) (D : Addr) (Nx : Hp → Prop), Inv B P σ H s → tm σ H D Nx →
  wpAny (model B.prog B.w) B.A (eval iter B.env) (fun x s4 => wpAny (model B.prog B.w) B.A (pyIter x) (fun it s5 => codeAny (model B.prog B.w) B.A (.compStart LC k it (.ref D) B.env) (fun r s' => match r with
    | .ok _ => ∃ H', Inv B P (wipe σ vs) H' s' ∧ Nx H'
    | .error _ => False) s5) (fun _ _ => False) s4) (fun _ _ => False) s
section
variable {B : Cx} {elt0 elt t i i1 : Expr} {gens : List Comprehension} {scope : Scope} {pos : Pos} {ifs : List Expr} {k : Nat} {wi : TI} {g : TG} {tt : TT} {te : TE} {tin : TM} {vs vs' : List Nat}
theorem jo_last (hx : B.xe = fun _ _ => False) (hc : B.calm = true) (pi : PI B t i wi) (pg : PG B t g) (pt : PTs B ifs tt) (pe : PE B elt te) (hT : ∀ it acc, compTurn (.ListComp elt0 gens scope pos) k it acc B.env = turnL (.ListComp elt0 gens scope pos) k elt t i ifs it acc B.env) (hS : Starts (.ListComp elt0 gens scope pos) k) :
    JO B (.ListComp elt0 gens scope pos) i k (tCl wi g tt (tEm te) vs) vs := by
  intro P s9 σ8 H9 D Nx I9 q9
  have pr := pi.run P s9 σ8 H9 _ I9 q9
  rw [hx] at pr
  refine thnF pr fun xv s10 hx1 => thnF hx1 fun itv s11 h11 => ?_
  obtain ⟨it1, fp1, tn1, J1, H11, e1, I11, T1, st11, f11, W1, ⟨m1, w1⟩, turn1⟩ := h11
  subst e1
  have stat1 : ∀ {H' : Hp}, (∀ b ∈ fp1, H' b = none) → ∀ b ∈ fp1, FpOk B P H' b := fun hn b hb => ⟨hn b hb, (f11 b hb).2⟩
  have loop1 : codeAny (model B.prog B.w) B.A (.compLoop (.ListComp elt0 gens scope pos) k (.ref it1) (.ref D) B.env)
      (fun r s' => match r with
        | .ok _ => ∃ H', Inv B P (wipe σ8 vs) H' s' ∧ Nx H'
        | .error _ => False) s11 := by
    refine loopL (hT _ _) (fun k s' => ∃ j H', Inv B P (wipe σ8 vs) H' s' ∧ tn1 j s'.heap ∧ (∀ b ∈ fp1, H' b = none) ∧ W1 j k H') ?_ m1 ⟨0, H11, I11.weak (wipe_length _ _) (fun j v e => (wipe_some e).1), st11, fun b hb => (f11 b hb).1, w1⟩
    rintro k s12 ⟨j, H12, I12, st12, n12, w12⟩
    rcases turn1 j k H12 w12 with ⟨stop1, nx1⟩ | ⟨go1, Nx1, hNx1, step1⟩
    · refine thnF (T1.done B rfl rfl rfl hc j _ s12 (wipe σ8 vs) H12 (fun _ _ => False) I12 (stat1 n12) st12 stop1) fun r s13 ⟨hr, I13⟩ => ?_
      subst hr
      exact ⟨H12, I13, nx1⟩
    · refine thnF (T1.item B rfl rfl rfl hc j _ s12 (wipe σ8 vs) H12 (fun _ _ => False) I12 (stat1 n12) st12 go1) fun r s13 ⟨u1, hr, h13⟩ => ?_
      subst hr
      refine thnF h13 fun _ s14 ⟨x1, H14, I14, r14, y14, st14, n14⟩ => ?_
      have I14' := I14.pinned (stat1 n14) (T1.obj _ _ st14)
      have pgr := pg.run _ s14 (wipe σ8 vs) H14 x1 u1 _ I14' r14 (step1 x1 H14 y14)
      rw [hx] at pgr
      refine thnF pgr fun _ s15 ⟨σ15, H15, I15, hw15, q15⟩ => ?_
      have ptr := pt.run _ s15 σ15 H15 _ I15 q15
      rw [hx] at ptr
      refine thnF ptr fun b1 s16 ⟨H16, I16, q16⟩ => ?_
      have fin1 : ∀ {s' : Shared} {H' : Hp}, Inv B (P ++ pinsAt fp1 s14.heap) σ15 H' s' → Nx1 H' → ∃ m, m < k ∧ ∃ j H', Inv B P (wipe σ8 vs) H' s' ∧ tn1 j s'.heap ∧ (∀ b ∈ fp1, H' b = none) ∧ W1 j m H' := fun {s' H'} I' nx => by
        obtain ⟨m', hm, w'⟩ := hNx1 H' nx
        have pin' : ∀ b ∈ fp1, ∀ o, s14.heap.get? b = some o → s'.heap.get? b = some o ∧ H' b = none := fun b hb o e =>
          let z := I'.pin (b, o) (List.mem_append_right _ (List.mem_append_right _ (mem_pinsAt hb e)))
          ⟨z.1, z.2.1⟩
        refine ⟨m', hm, j + 1, H', I'.unpinned.weak (by rw [← hw15, wipe_length]) (fun j v e => by rw [← hw15] at e; exact (wipe_some e).1), T1.keep _ _ _ st14 fun b hb o e => (pin' b hb o e).1, fun b hb => ?_, w'⟩
        obtain ⟨o, e, _⟩ := T1.obj _ _ st14 b hb
        exact (pin' b hb o e).2
      cases b1 with
      | false =>
        simp only [Bool.false_eq_true, if_false] at q16 ⊢
        exact fin1 I16 q16
      | true =>
        simp only [if_true] at q16 ⊢
        have per := pe.run _ s16 σ15 H16 _ I16 q16
        rw [hx] at per
        refine thnF per fun z s17 ⟨yv, H17, I17, r17, acc, hD17, hz17, nx⟩ => ?_
        exact app_ok I17 hD17 hz17 r17 fun s18 I18 => fin1 I18 nx
  exact hS loop1 (T1.self B.A 0 _ _ _ st11 loop1)
theorem jo_mid (hx : B.xe = fun _ _ => False) (hc : B.calm = true) (pi : PI B t i wi) (pg : PG B t g) (pt : PTs B ifs tt) (jo : JO B (.ListComp elt0 gens scope pos) i1 (k + 1) tin vs') (hv : ∀ v ∈ vs', v ∈ vs) (hs : ∀ x, foldedSetIterable i1 B.env x = pure x)
    (hT : ∀ it acc, compTurn (.ListComp elt0 gens scope pos) k it acc B.env = turnO (.ListComp elt0 gens scope pos) k t i ifs i1 it acc B.env) (hS : Starts (.ListComp elt0 gens scope pos) k) : JO B (.ListComp elt0 gens scope pos) i k (tCl wi g tt tin vs) vs := by
  intro P s9 σ8 H9 D Nx I9 q9
  have pr := pi.run P s9 σ8 H9 _ I9 q9
  rw [hx] at pr
  refine thnF pr fun xv s10 hx1 => thnF hx1 fun itv s11 h11 => ?_
  obtain ⟨it1, fp1, tn1, J1, H11, e1, I11, T1, st11, f11, W1, ⟨m1, w1⟩, turn1⟩ := h11
  subst e1
  have stat1 : ∀ {H' : Hp}, (∀ b ∈ fp1, H' b = none) → ∀ b ∈ fp1, FpOk B P H' b := fun hn b hb => ⟨hn b hb, (f11 b hb).2⟩
  have loop1 : codeAny (model B.prog B.w) B.A (.compLoop (.ListComp elt0 gens scope pos) k (.ref it1) (.ref D) B.env)
      (fun r s' => match r with
        | .ok _ => ∃ H', Inv B P (wipe σ8 vs) H' s' ∧ Nx H'
        | .error _ => False) s11 := by
    refine loopO (hT _ _) hs (fun k s' => ∃ j H', Inv B P (wipe σ8 vs) H' s' ∧ tn1 j s'.heap ∧ (∀ b ∈ fp1, H' b = none) ∧ W1 j k H') ?_ m1 ⟨0, H11, I11.weak (wipe_length _ _) (fun j v e => (wipe_some e).1), st11, fun b hb => (f11 b hb).1, w1⟩
    rintro n s12 ⟨j, H12, I12, st12, n12, w12⟩
    rcases turn1 j n H12 w12 with ⟨stop1, nx1⟩ | ⟨go1, Nx1, hNx1, step1⟩
    · refine thnF (T1.done B rfl rfl rfl hc j _ s12 (wipe σ8 vs) H12 (fun _ _ => False) I12 (stat1 n12) st12 stop1) fun r s13 ⟨hr, I13⟩ => ?_
      subst hr
      exact ⟨H12, I13, nx1⟩
    · refine thnF (T1.item B rfl rfl rfl hc j _ s12 (wipe σ8 vs) H12 (fun _ _ => False) I12 (stat1 n12) st12 go1) fun r s13 ⟨u1, hr, h13⟩ => ?_
      subst hr
      refine thnF h13 fun _ s14 ⟨x1, H14, I14, r14, y14, st14, n14⟩ => ?_
      have I14' := I14.pinned (stat1 n14) (T1.obj _ _ st14)
      have pgr := pg.run _ s14 (wipe σ8 vs) H14 x1 u1 _ I14' r14 (step1 x1 H14 y14)
      rw [hx] at pgr
      refine thnF pgr fun _ s15 ⟨σ15, H15, I15, hw15, q15⟩ => ?_
      have ptr := pt.run _ s15 σ15 H15 _ I15 q15
      rw [hx] at ptr
      refine thnF ptr fun b1 s16 ⟨H16, I16, q16⟩ => ?_
      have fin1 : ∀ {σ' : L2.St} {s' : Shared} {H' : Hp}, Inv B (P ++ pinsAt fp1 s14.heap) σ' H' s' → (wipe σ8 vs).length = σ'.length → (∀ (j : Nat) v, (wipe σ8 vs)[j]? = some (some v) → σ'[j]? = some (some v)) → Nx1 H' → ∃ m, m < n ∧ ∃ j H', Inv B P (wipe σ8 vs) H' s' ∧ tn1 j s'.heap ∧ (∀ b ∈ fp1, H' b = none) ∧ W1 j m H' := fun {σ' s' H'} I' hl hk nx => by
        obtain ⟨m', hm, w'⟩ := hNx1 H' nx
        have pin' : ∀ b ∈ fp1, ∀ o, s14.heap.get? b = some o → s'.heap.get? b = some o ∧ H' b = none := fun b hb o e =>
          let z := I'.pin (b, o) (List.mem_append_right _ (List.mem_append_right _ (mem_pinsAt hb e)))
          ⟨z.1, z.2.1⟩
        refine ⟨m', hm, j + 1, H', I'.unpinned.weak hl hk, T1.keep _ _ _ st14 fun b hb o e => (pin' b hb o e).1, fun b hb => ?_, w'⟩
        obtain ⟨o, e, _⟩ := T1.obj _ _ st14 b hb
        exact (pin' b hb o e).2
      cases b1 with
      | false =>
        simp only [Bool.false_eq_true, if_false] at q16 ⊢
        exact fin1 I16 (by rw [← hw15, wipe_length]) (fun j v e => by rw [← hw15] at e; exact (wipe_some e).1) q16
      | true =>
        simp only [if_true] at q16 ⊢
        refine thnF (jo _ s16 σ15 H16 D Nx1 I16 q16) fun z s17 h17 => thnF h17 fun it2 s18 h18 => ?_
        refine codeAny_mono h18 fun r s' hr => ?_
        cases r with
        | error e => exact hr
        | ok f =>
          obtain ⟨H', I', nx⟩ := hr
          refine fin1 I' ?_ (fun j v e => ?_) nx
          · rw [← hw15, wipe_length, wipe_length]
          · rw [← hw15] at e
            obtain ⟨e1, e2⟩ := wipe_some e
            rw [wipe_out fun z => e2 (hv j z)]
            exact e1
  exact hS loop1 (T1.self B.A 0 _ _ _ st11 loop1)
end
/-! ### the whole -/
def tLcN (wi : TI) (g : TG) (tt : TT) (tin : TM) (vs : List Nat) : TE := fun σ H Q => wi σ H fun J H1 => ∀ D, H1 D = none → ∃ W : Nat → Nat → Hp → Prop, (∃ m, W 0 m (upd H1 D (.lst []))) ∧ ∀ i m H, W i m H →
  (J.stop i H ∧ Q (.ref D) H) ∨ (J.go i H ∧ ∃ Nx : Hp → Prop, (∀ H', Nx H' → ∃ m', m' < m ∧ W (i + 1) m' H') ∧ ∀ x H', J.yld i H x H' → g x (wipe σ vs) H' fun σ2 H2 => wipe σ2 vs = wipe σ vs ∧ tt σ2 H2 fun b H3 =>
    if b = true then tin σ2 H3 D Nx else Nx H3)
section
variable {X : Cx}
theorem lcN_core {pins : List (Addr × Obj)} {s : Shared} {σ : L2.St} {H : Hp} {Q : VK} {elt tg iter iter1 : Expr} {ifs : List Expr} {rest : List Comprehension} {scope : Scope} {own : List (Str × Nat)} {vs1 : List Nat} {pos pos' : Pos} {wi : TI} {g : TG} {tt : TT} {tin : TM} {use : Option (Value → Sem Unit)} {Qf : Value → Shared → Prop}
    (hc : X.calm = true) (hN : X.N.Nodup) (I : Inv X pins σ H s) (hi : PI X tg iter wi) (ok : BlkOk X.N X.env.scope scope own) (hv : ∀ i ∈ vs1, i ∈ own.map (·.2))
    (hg : ∀ (s : Shared) (H : Hp) (C : Addr) (cl : List (Str × Addr)) (fp : List Addr), PG (X.blk s H scope (compEnvC scope cl C X.env) fp) tg g) (ht : ∀ (s : Shared) (H : Hp) (C : Addr) (cl : List (Str × Addr)) (fp : List Addr), PTs (X.blk s H scope (compEnvC scope cl C X.env) fp) ifs tt)
    (hs : ∀ x, foldedSetIterable iter X.env x = pure x) (hs1 : ∀ env x, foldedSetIterable iter1 env x = pure x)
    (hj : ∀ (s : Shared) (H : Hp) (C : Addr) (cl : List (Str × Addr)) (fp : List Addr), JO (X.blk s H scope (compEnvC scope cl C X.env) fp) (.ListComp elt (⟨tg, iter, ifs, 0⟩ :: rest) scope pos) iter1 1 tin vs1)
    (hT : ∀ it acc env, compTurn (.ListComp elt (⟨tg, iter, ifs, 0⟩ :: rest) scope pos) 0 it acc env = turnO (.ListComp elt (⟨tg, iter, ifs, 0⟩ :: rest) scope pos) 0 tg iter ifs iter1 it acc env)
    (h : tLcN wi g tt tin (own.map (·.2)) σ H Q)
    (hRR : ∀ D C s' m H', Inv X pins σ H' s' → Q (.ref D) H' → s'.heap.Ns C m → FpOk X pins H' C → compPost (model X.prog X.w) X.A X.xe use Qf (.ref D) C (.ok .next) s') :
    wpAny (model X.prog X.w) X.A (comprehension (.ListComp elt (⟨tg, iter, ifs, 0⟩ :: rest) scope pos) scope X.env pos' (newList []) false (eval iter X.env) use) Qf X.xe s := by
  have hfree : ∀ y ∈ scope.names, y.2 = .free → ∃ c, X.env.cells.lookup y.1 = some c := fun y hy e => by
    rcases ok.free y hy e with k | k
    · exact I.ok.has _ (.inl k)
    · exact I.ok.has _ (.inr k)
  refine wpAny_comprehension_free (use := use) rfl hs (closure_ok hfree) ok.kind (fun y hy e => by rw [ok.uniq y hy, e])
    (thn (hi.run pins s σ H _ I h) fun xv s1 hx => thn hx fun itv s2 h2 => ?_)
  obtain ⟨it, fp, tn, J, H2, e, I2, T, st2, f2, q⟩ := h2
  subst e
  refine wpAny_newObj_type (newEnv_comp ?_) (by show 0 ≤ sizeLine; decide)
  generalize hD : s2.heap.objs.size = D
  have hDn : H2 D = none := I2.hok.fresh (Nat.le_of_eq hD)
  obtain ⟨W, ⟨m0, w0⟩, turn⟩ := q D hDn
  generalize hs3 : ({ s2 with heap := s2.heap.push { cls := .type "list", data := .seq ([] : List Value).toArray } } : Shared) = s3
  have I3 : Inv X pins σ (upd H2 D (.lst [])) s3 := by
    rw [← hs3]
    refine I2.laid (t' := s2.toks) (fun b o e => Heap.get?_push_of_some _ e) (Nat.le_of_eq hD) ⟨Nat.zero_le _, [], 0, .nil, ?_⟩
    rw [← hD]
    exact Heap.get?_push_size _ rfl
  have h3 : s3.heap = s2.heap.push { cls := .type "list", data := .seq ([] : List Value).toArray } := by rw [← hs3]
  have sz : ∀ b ∈ fp, b < s2.heap.objs.size := fun b hb => by
    obtain ⟨o, e, _⟩ := T.obj _ _ st2 b hb
    exact Heap.lt_size e
  have f3 : ∀ b ∈ fp, FpOk X pins (upd H2 D (.lst [])) b ∧ b < s3.heap.objs.size := fun b hb => by
    have hlt := sz b hb
    refine ⟨⟨?_, (f2 b hb).2⟩, by rw [h3, Heap.size_push]; exact Nat.lt_succ_of_lt hlt⟩
    rw [upd_ne (by rw [← hD]; exact Nat.ne_of_lt hlt)]
    exact (f2 b hb).1
  have st3 : tn 0 s3.heap := T.keep _ _ _ st2 fun b _ o e => by rw [h3]; exact Heap.get?_push_of_some _ e
  have I4 := block_start I3 ok hN f3
  have pg := hg s3 (upd H2 D (.lst [])) s3.heap.objs.size (cellsFrom (s3.heap.objs.size + 1) scope.names (cloFrom X.env.cells scope.names [])) fp
  have pt := ht s3 (upd H2 D (.lst [])) s3.heap.objs.size (cellsFrom (s3.heap.objs.size + 1) scope.names (cloFrom X.env.cells scope.names [])) fp
  have pj := hj s3 (upd H2 D (.lst [])) s3.heap.objs.size (cellsFrom (s3.heap.objs.size + 1) scope.names (cloFrom X.env.cells scope.names [])) fp
  show codeAny _ _ (.compStart (.ListComp elt (⟨tg, iter, ifs, 0⟩ :: rest) scope pos) 0 (.ref it) (.ref D) (compEnvC scope (cellsFrom (s3.heap.objs.size + 1) scope.names (cloFrom X.env.cells scope.names [])) s3.heap.objs.size X.env)) (compPost (model X.prog X.w) X.A X.xe use Qf (.ref D) s3.heap.objs.size) { s3 with heap := pushCells (s3.heap.push { cls := .type "dict", data := .dict #[] }) scope.names }
  have nfp : ∀ b ∈ fp, (upd H2 D (.lst [])) b = none := fun b hb => (f3 b hb).1.1
  generalize hce : compEnvC scope (cellsFrom (s3.heap.objs.size + 1) scope.names (cloFrom X.env.cells scope.names [])) s3.heap.objs.size X.env = ce at I4 pg pt pj ⊢
  have cL : ce.locals = s3.heap.objs.size := by subst hce; rfl
  generalize hH3 : upd H2 D (.lst []) = H3 at I3 I4 pg pt pj w0 nfp f3
  generalize hs4 : ({ s3 with heap := pushCells (s3.heap.push { cls := .type "dict", data := .dict #[] }) scope.names } : Shared) = s4 at I4 ⊢
  have st4 : tn 0 s4.heap := T.keep _ _ _ st3 fun b _ o e => by rw [← hs4]; exact pushCells_keeps _ _ _ _ (Heap.get?_push_of_some _ e)
  have stat : ∀ {σ' : L2.St} {H' : Hp} {s' : Shared}, Inv (X.blk s3 H3 scope ce fp) [] σ' H' s' → (∀ b ∈ fp, H' b = none) → ∀ b ∈ fp, FpOk (X.blk s3 H3 scope ce fp) [] H' b := fun {σ' H' s'} I' hn b hb =>
    ⟨hn b hb, (I'.ok.exf b hb).1, I'.ok.exfs b hb, .inl hb, fun x c e => (I'.ok.exf b hb).2 x c e, fun p hp => absurd (show p ∈ ([] : List (Addr × Obj)) ++ [] from hp) (by simp)⟩
  have loop : codeAny (model X.prog X.w) X.A (.compLoop (.ListComp elt (⟨tg, iter, ifs, 0⟩ :: rest) scope pos) 0 (.ref it) (.ref D) ce) (compPost (model X.prog X.w) X.A X.xe use Qf (.ref D) s3.heap.objs.size) s4 := by
    refine loopO (hT _ _ _) (hs1 ce) (fun n s' => ∃ i H', Inv (X.blk s3 H3 scope ce fp) [] (wipe σ (own.map (·.2))) H' s' ∧ tn i s'.heap ∧ (∀ b ∈ fp, H' b = none) ∧ W i n H') ?_ m0 ⟨0, H3, I4, st4, nfp, w0⟩
    rintro n s5 ⟨i, H5, I5, st5, n5, w5⟩
    rcases turn i n H5 w5 with ⟨stop, qq⟩ | ⟨go, Nx, hNx, step⟩
    · have td := T.done (X.blk s3 H3 scope ce fp) rfl rfl rfl hc i [] s5 _ H5 (fun _ _ => False) I5 (stat I5 n5) st5 stop
      refine thnF td fun r s6 ⟨hr, I6⟩ => ?_
      subst hr
      have I7 : Inv X pins σ H5 s6 := I3.call' (ch := fp) I6.os I6.base I6.hok I6.bare fun b hb => ⟨(f3 b hb).1.2.2.2.1, (f3 b hb).1.2.1, (f3 b hb).1.2.2.2.2.1, (f3 b hb).1.2.2.2.2.2⟩
      have nC : H5 s3.heap.objs.size = none := by
        have z : H5 ce.locals = none := I6.free
        rw [cL] at z
        exact z
      obtain ⟨m, hn, _⟩ := I6.loc
      have hn : s6.heap.Ns ce.locals m := hn
      rw [cL] at hn
      exact hRR D s3.heap.objs.size s6 m H5 I7 qq hn (I3.fpOk (Nat.le_refl _) nC)
    · have ti := T.item (X.blk s3 H3 scope ce fp) rfl rfl rfl hc i [] s5 _ H5 (fun _ _ => False) I5 (stat I5 n5) st5 go
      refine thnF ti fun r s6 ⟨u, hr, h6⟩ => ?_
      subst hr
      refine thnF h6 fun _ s7 ⟨x, H7, I7, r7, y7, st7, n7⟩ => ?_
      have I7' := I7.pinned (stat I7 n7) (T.obj _ _ st7)
      refine thnF (pg.run _ s7 _ H7 x u _ I7' r7 (step x H7 y7)) fun _ s8 ⟨σ8, H8, I8, hw8, q8⟩ => ?_
      refine thnF (pt.run _ s8 σ8 H8 _ I8 q8) fun b s9 ⟨H9, I9, q9⟩ => ?_
      have fin : ∀ {σ9 : L2.St} {s' : Shared} {H' : Hp}, Inv (X.blk s3 H3 scope ce fp) ([] ++ pinsAt fp s7.heap) σ9 H' s' → (wipe σ (own.map (·.2))).length = σ9.length → (∀ (j : Nat) v, (wipe σ (own.map (·.2)))[j]? = some (some v) → σ9[j]? = some (some v)) → Nx H' →
          ∃ m, m < n ∧ ∃ i H', Inv (X.blk s3 H3 scope ce fp) [] (wipe σ (own.map (·.2))) H' s' ∧ tn i s'.heap ∧ (∀ b ∈ fp, H' b = none) ∧ W i m H' := fun {σ9 s' H'} I' hl hk nx => by
        obtain ⟨m', hm, w'⟩ := hNx H' nx
        have pin' : ∀ b ∈ fp, ∀ o, s7.heap.get? b = some o → s'.heap.get? b = some o ∧ H' b = none := fun b hb o e =>
          let z := I'.pin (b, o) (List.mem_append_right _ (List.mem_append_right _ (mem_pinsAt hb e)))
          ⟨z.1, z.2.1⟩
        refine ⟨m', hm, i + 1, H', (I'.unpinned (pins := [])).weak hl hk, T.keep _ _ _ st7 fun b hb o e => (pin' b hb o e).1, fun b hb => ?_, w'⟩
        obtain ⟨o, e, _⟩ := T.obj _ _ st7 b hb
        exact (pin' b hb o e).2
      have hl8 : (wipe σ (own.map (·.2))).length = σ8.length := by rw [← hw8, wipe_length]
      have hk8 : ∀ (j : Nat) v, (wipe σ (own.map (·.2)))[j]? = some (some v) → σ8[j]? = some (some v) := fun j v e => by
        rw [← hw8] at e
        exact (wipe_some e).1
      have hk9 : ∀ (j : Nat) v, (wipe σ (own.map (·.2)))[j]? = some (some v) → (wipe σ8 vs1)[j]? = some (some v) := fun j v e => by
        rw [← hw8] at e
        obtain ⟨e1, e2⟩ := wipe_some e
        rw [wipe_out fun z => e2 (hv j z)]
        exact e1
      cases b with
      | false =>
        simp only [Bool.false_eq_true, if_false] at q9 ⊢
        exact fin I9 hl8 hk8 q9
      | true =>
        simp only [if_true] at q9 ⊢
        refine thnF (pj _ s9 σ8 H9 D Nx I9 q9) fun xv s10 hx => thnF hx fun itv s11 h11 => ?_
        refine codeAny_mono h11 fun r s' hr => ?_
        cases r with
        | error e => exact hr
        | ok f =>
          obtain ⟨H', I', nx⟩ := hr
          exact fin I' (hl8.trans (wipe_length σ8 vs1).symm) hk9 nx
  exact codeAny_compStart_list loop (T.self X.A 0 _ _ _ st4 loop)
theorem pe_lcN {elt tg iter iter1 : Expr} {ifs : List Expr} {rest : List Comprehension} {scope : Scope} {own : List (Str × Nat)} {vs1 : List Nat} {pos : Pos} {wi : TI} {g : TG} {tt : TT} {tin : TM}
    (hc : X.calm = true) (hN : X.N.Nodup) (hi : PI X tg iter wi) (ok : BlkOk X.N X.env.scope scope own) (hv : ∀ i ∈ vs1, i ∈ own.map (·.2))
    (hg : ∀ (s : Shared) (H : Hp) (C : Addr) (cl : List (Str × Addr)) (fp : List Addr), PG (X.blk s H scope (compEnvC scope cl C X.env) fp) tg g) (ht : ∀ (s : Shared) (H : Hp) (C : Addr) (cl : List (Str × Addr)) (fp : List Addr), PTs (X.blk s H scope (compEnvC scope cl C X.env) fp) ifs tt)
    (hs : ∀ x, foldedSetIterable iter X.env x = pure x) (hs1 : ∀ env x, foldedSetIterable iter1 env x = pure x)
    (hj : ∀ (s : Shared) (H : Hp) (C : Addr) (cl : List (Str × Addr)) (fp : List Addr), JO (X.blk s H scope (compEnvC scope cl C X.env) fp) (.ListComp elt (⟨tg, iter, ifs, 0⟩ :: rest) scope pos) iter1 1 tin vs1)
    (hT : ∀ it acc env, compTurn (.ListComp elt (⟨tg, iter, ifs, 0⟩ :: rest) scope pos) 0 it acc env = turnO (.ListComp elt (⟨tg, iter, ifs, 0⟩ :: rest) scope pos) 0 tg iter ifs iter1 it acc env) :
    PE X (.ListComp elt (⟨tg, iter, ifs, 0⟩ :: rest) scope pos) (tLcN wi g tt tin (own.map (·.2))) := by
  refine ⟨fun pins s σ H Q I h => ?_⟩
  rw [eval_ListComp]
  refine lcN_core hc hN I hi ok hv hg ht hs hs1 hj hT h fun D C s' m H' I' q hn f => ⟨m, hn, fun h'' sb => ?_⟩
  obtain ⟨f0, f1, f2, f3, f4, f5⟩ := f
  exact ⟨.ref D, H', I'.turned (t' := s'.toks) (fun b o hb e => (sb.2 b hb).trans e) f0 f1 f3 f4 f5, rfl, q⟩
theorem ps_setLcN {i : Nat} {y : Str} {py : Pos} {elt tg iter iter1 : Expr} {ifs : List Expr} {rest : List Comprehension} {scope : Scope} {own : List (Str × Nat)} {vs1 : List Nat} {pos spos : Pos} {wi : TI} {g : TG} {tt : TT} {tin : TM}
    (hc : X.calm = true) (hN : X.N.Nodup) (hy : X.N[i]? = some y) (hyl : X.env.scope.names.lookup y = some .local)
    (hsw : swapsWith (.ListComp elt (⟨tg, iter, ifs, 0⟩ :: rest) scope pos) (some (.Name y py)) spos.line X.env = pure true) (hi : PI X tg iter wi) (ok : BlkOk X.N X.env.scope scope own) (hv : ∀ i ∈ vs1, i ∈ own.map (·.2))
    (hg : ∀ (s : Shared) (H : Hp) (C : Addr) (cl : List (Str × Addr)) (fp : List Addr), PG (X.blk s H scope (compEnvC scope cl C X.env) fp) tg g) (ht : ∀ (s : Shared) (H : Hp) (C : Addr) (cl : List (Str × Addr)) (fp : List Addr), PTs (X.blk s H scope (compEnvC scope cl C X.env) fp) ifs tt)
    (hs : ∀ x, foldedSetIterable iter X.env x = pure x) (hs1 : ∀ env x, foldedSetIterable iter1 env x = pure x)
    (hj : ∀ (s : Shared) (H : Hp) (C : Addr) (cl : List (Str × Addr)) (fp : List Addr), JO (X.blk s H scope (compEnvC scope cl C X.env) fp) (.ListComp elt (⟨tg, iter, ifs, 0⟩ :: rest) scope pos) iter1 1 tin vs1)
    (hT : ∀ it acc env, compTurn (.ListComp elt (⟨tg, iter, ifs, 0⟩ :: rest) scope pos) 0 it acc env = turnO (.ListComp elt (⟨tg, iter, ifs, 0⟩ :: rest) scope pos) 0 tg iter ifs iter1 it acc env) :
    PS X (.Assign [.Name y py] (.ListComp elt (⟨tg, iter, ifs, 0⟩ :: rest) scope pos) spos) (tAsg (tLcN wi g tt tin (own.map (·.2))) (gName i)) := by
  refine ⟨fun pins s σ H D I h => ?_⟩
  rw [exec_Assign_Name_used _ _ _ _ hsw]
  refine wpAny_bind (wpAny_standAt (wpAny_bind ?_))
  show wpAny _ X.A (do let _ ← comprehension (.ListComp elt (⟨tg, iter, ifs, 0⟩ :: rest) scope pos) scope X.env (firstIterPos (⟨tg, iter, ifs, 0⟩ :: rest) pos) (newList []) false (eval iter X.env) (some (assign (.Name y py) X.env))) _ _ s
  have h : tLcN wi g tt tin (own.map (·.2)) σ H (fun x H1 => gName i x σ H1 D.nx) := h
  refine wpAny_bind (thn (lcN_core (Qf := fun _ s' => SP X pins D .next s') hc hN I hi ok hv hg ht hs hs1 hj hT h fun L C s' m H' I' q hn f => ?_) fun _ s' hq => wpAny_pure (wpAny_pure hq))
  show wpAny _ _ (assign (.Name y py) X.env (.ref L)) _ _ _
  refine wpAny_assign_Name (store_ok2 (v := V.ref L) I' hN hy (.inl hyl) rfl (fun s2 I2 ⟨a, sb, ha⟩ => ?_) (.inr hyl))
  obtain ⟨f0, f1, f2, f3, f4, f5⟩ := f
  have haC : C ≠ a := by
    rcases ha with z | z
    · rw [z]; exact f1
    · exact fun e => f4 y a z e.symm
  refine ⟨m, hn.sameBut sb haC, fun h3 sb3 => ?_⟩
  exact ⟨_, H', I2.turned (t' := s2.toks) (fun b o hb e => (sb3.2 b hb).trans e) f0 f1 f3 f4 f5, q⟩
end
end Pm
/-! PmZl: comprehensions of several clauses, upon data. -/
namespace Pm
open PySem PySem.Spec PyProof.Rows L2
section
variable {K : PySem.W.Frag} {mg : Str → Option Value} {W : WX} {Z H : Hp} {S : Fp} {σ : Sl} {X : Cx} {A : Nat → Bool}
/-- what stands within a clause: the slots and what was made so far -/
abbrev In := Env → List D → Res (List D)
def emit (e : M EV) : In := fun ρ acc => match e ρ with
  | .ok ev ρ1 => match use1 ev ρ1 with
    | .ok d ρ2 => if acc.length < cap then .ok (acc ++ [d]) ρ2 else .stuck
    | _ => .stuck
  | _ => .stuck
def clIt (vs : List Nat) (g : Tg) (c : M Bool) (inn : In) : List D → In
  | [] => fun ρ acc => .ok acc ρ
  | d :: ds => fun ρ acc => match g d ρ with
    | .ok _ ρ1 => match c ρ1 with
      | .ok true ρ2 => match inn ρ2 acc with
        | .ok acc' ρ3 => clIt vs g c inn ds (wipeE ρ3 vs) acc'
        | _ => .stuck
      | .ok false ρ2 => clIt vs g c inn ds (wipeE ρ2 vs) acc
      | _ => .stuck
    | _ => .stuck
def cla (vs : List Nat) (s : M (List D)) (g : Tg) (c : M Bool) (inn : In) : In := fun ρ acc => match s ρ with
  | .ok ds ρ1 => clIt vs g c inn ds (wipeE ρ1 vs) acc
  | _ => .stuck
def compN (own : List Nat) (s : M (List D)) (g : Tg) (c : M Bool) (inn : In) : M EV := bnd s fun ds => fun ρ => match clIt own g c inn ds (wipeE ρ own) [] with
  | .ok acc ρ' => .ok (.val (.lst true acc)) (backE ρ ρ' own)
  | _ => .stuck
/-- such a part's wish; L: the list that grows -/
def tN (K : PySem.W.Frag) (inn : In) (vs : List Nat) : TM := fun σ H L Nx => ∃ (Z : Hp) (ρ : Env) (S Sa : Fp) (acc : List D) (ys : List V), Wd Z H (fun a => S a ∨ (a = L ∨ Sa a)) ∧ (∀ a, S a → (a = L ∨ Sa a) → False) ∧ EnvR K Z H ρ σ S ∧ H L = some (.lst ys) ∧ ¬ Sa L ∧ RepL K Z H acc ys Sa ∧
  ∃ acc' ρ', inn ρ acc = .ok acc' ρ' ∧ ∀ (Z' H' : Hp) (S' Sa' : Fp) (ys' : List V), Step Z H (fun a => S a ∨ (a = L ∨ Sa a)) Z' H' (fun a => S' a ∨ (a = L ∨ Sa' a)) → (∀ a, S' a → (a = L ∨ Sa' a) → False) → EnvR K Z' H' ρ' (L2.wipe σ vs) S' → H' L = some (.lst ys') → ¬ Sa' L → RepL K Z' H' acc' ys' Sa' → Nx H'
theorem tEm_of {e : M EV} {L : Addr} {Nx : Hp → Prop} (h : tN K (emit e) [] σ H L Nx) : tEm (tE K mg wF e) σ H L Nx := by
  obtain ⟨Z, ρ, S, Sa, acc, ys, w, dj, er, hy, nL, ra, acc', ρ', ei, k⟩ := h
  obtain ⟨F, hF⟩ : ∃ F : Fp, F = fun a => a = L ∨ Sa a := ⟨_, rfl⟩
  have wF' : Wd Z H (fun a => S a ∨ F a) := by rw [hF]; exact w
  have dF : ∀ a, S a → F a → False := fun a x y => dj a x (by rw [hF] at y; exact y)
  have subSa : ∀ a, Sa a → F a := fun a x => by rw [hF]; exact .inr x
  have inL : F L := by rw [hF]; exact .inl rfl
  refine ⟨Z, ρ, S, wF'.less fun a x => .inl x, er, ?_⟩
  unfold emit at ei
  cases e5 : e ρ with
  | stuck => rw [e5] at ei; cases ei
  | exc x ρ5 => rw [e5] at ei; cases ei
  | ok ev ρ5 =>
    simp only [e5] at ei
    intro v Z6 H6 S6 Sd st6 dj6 er6 r6
    have st6F := st6.frame wF' dF
    have dF6 := st6.apart (fun a x => wF'.dom a (.inr x)) dF
    have ra6 : RepL K Z6 H6 acc ys Sa := st6.stayL (fun a x y => dF a x (subSa a y)) ra
    have hy6 : H6 L = some (.lst ys) := st6.fr L _ (fun x => dF L x inL) hy
    cases e6 : use1 ev ρ5 with
    | stuck => rw [e6] at ei; cases ei
    | exc x ρ6 => rw [e6] at ei; cases ei
    | ok d' ρ6 =>
      simp only [e6] at ei
      by_cases hz : acc.length < cap
      · rw [if_pos hz] at ei
        simp only [Res.ok.injEq] at ei
        obtain ⟨rfl, rfl⟩ := ei
        have w6 : Wd Z6 H6 (fun a => (S6 a ∨ Sd a) ∨ F a) := st6F.wd
        obtain ⟨Z7, S7, st7, m7, er7, r7⟩ := use1_ok w6 dj6 dF6 er6 r6 e6
        have ra7 : RepL K Z7 H6 acc ys Sa := ra6.move st7.zz (fun _ _ _ x => x) fun _ x => x
        refine ⟨ys, hy6, by rw [← ra.length]; exact Nat.lt_trans hz (by rw [sizeLine_eq]; decide), ?_⟩
        have st8 : Step Z7 H6 (fun a => (S7 a ∨ Sd a) ∨ F a) Z7 (upd H6 L (.lst (ys ++ [v]))) (fun a => (S7 a ∨ Sd a) ∨ F a) := Step.write st7.wd (.inr inL)
        have neL : ∀ {T : Fp}, (∀ a, T a → a = L → False) → ∀ a o, T a → H6 a = some o → upd H6 L (.lst (ys ++ [v])) a = some o := fun {T} n a o t e => by rw [upd_ne fun q => n a t q]; exact e
        have stAll : Step Z H (fun a => S a ∨ F a) Z7 (upd H6 L (.lst (ys ++ [v]))) (fun a => (S7 a ∨ Sd a) ∨ F a) := (st6F.trans st7).trans st8
        refine k Z7 _ S7 (fun a => Sa a ∨ Sd a) (ys ++ [v]) ?_ ?_ ?_ upd_same ?_ ?_
        · rw [hF] at stAll
          refine stAll.less fun a x => ?_
          rcases x with x | x | x | x
          · exact .inl (.inl x)
          · exact .inr (.inl x)
          · exact .inr (.inr x)
          · exact .inl (.inr x)
        · intro a x y
          rcases y with y | y | y
          · exact dF6 a (.inl (m7 a x)) (by rw [hF]; exact .inl y)
          · exact dF6 a (.inl (m7 a x)) (subSa a y)
          · exact dj6 a (m7 a x) y
        · exact er7.move (Same.refl _) (neL fun a t q => dF6 a (.inl (m7 a t)) (by rw [q]; exact inL)) fun _ x => x
        · rintro (x | x)
          · exact nL x
          · exact dF6 L (.inr x) inL
        · exact RepL.append (ra7.move (Same.refl _) (neL fun a t q => nL (by rw [← q]; exact t)) fun _ x => x) ⟨Sd, Fp0, fun _ x => x, fun _ x => x.elim, fun _ _ x => x, r7.move (Same.refl _) (neL fun a t q => dF6 a (.inr t) (by rw [q]; exact inL)) fun _ x => x, trivial⟩ (fun a x => .inl x) (fun a x => .inr x) fun a x y => dF6 a (.inr y) (subSa a x)
      · rw [if_neg hz] at ei
        cases ei
theorem wipe_sub {vs vs' : List Nat} (hv : ∀ v ∈ vs', v ∈ vs) (σ : Sl) : L2.wipe (L2.wipe σ vs') vs = L2.wipe σ vs := by
  refine wipe_keep (σ := σ) ⟨fun j hj => ?_, wipe_length _ _⟩
  have hj' : j ∉ vs := of_decide_eq_false hj
  exact wipe_out fun z => hj' (hv j z)
/-- a turn -/
theorem turn_of {vs vs' : List Nat} {g : Tg} {c : M Bool} {inn : In} {d : D} {ds : List D} {x : V} {L : Addr} {Z3 H3 : Hp} {ρ2 ρF : Env} {S2 Sa : Fp} {acc accF : List D} {ys : List V} {Nx1 : Hp → Prop} {tin : TM} (hv : ∀ v ∈ vs', v ∈ vs) (hin : ∀ σ H Nx, tN K inn vs' σ H L Nx → tin σ H L Nx)
    (w3 : Wd Z3 H3 (fun a => S2 a ∨ (a = L ∨ Sa a))) (dj2 : ∀ a, S2 a → (a = L ∨ Sa a) → False) (er3 : EnvR K Z3 H3 (wipeE ρ2 vs) (L2.wipe σ vs) S2) (hys : H3 L = some (.lst ys)) (nL : ¬ Sa L) (ra3 : RepL K Z3 H3 acc ys Sa) (r3 : Rep K Z3 H3 d x Fp0)
    (ci : clIt vs g c inn (d :: ds) (wipeE ρ2 vs) acc = .ok accF ρF)
    (k : ∀ (Z' H' : Hp) (S' Sa' : Fp) (ys' : List V) (acc' : List D) (ρ' : Env), Step Z3 H3 (fun a => S2 a ∨ (a = L ∨ Sa a)) Z' H' (fun a => S' a ∨ (a = L ∨ Sa' a)) → (∀ a, S' a → (a = L ∨ Sa' a) → False) → EnvR K Z' H' (wipeE ρ' vs) (L2.wipe σ vs) S' → H' L = some (.lst ys') → ¬ Sa' L → RepL K Z' H' acc' ys' Sa' →
      clIt vs g c inn ds (wipeE ρ' vs) acc' = .ok accF ρF → Nx1 H') :
    tG K (fun j => decide (j ∈ vs)) g x (L2.wipe σ vs) H3 fun σ3 H5 => L2.wipe σ3 vs = L2.wipe σ vs ∧ tT K mg wF c σ3 H5 fun b H6 => if b = true then tin σ3 H6 L Nx1 else Nx1 H6 := by
  have w3' : Wd Z3 H3 (fun a => S2 a ∨ Fp0 a) := w3.less fun a x => x.elim .inl False.elim
  refine ⟨Z3, wipeE ρ2 vs, S2, Fp0, d, w3', fun _ _ x => x, er3, r3, ?_⟩
  simp only [clIt] at ci
  cases e3 : g d (wipeE ρ2 vs) with
  | stuck => rw [e3] at ci; cases ci
  | exc x ρ3 => rw [e3] at ci; cases ci
  | ok u ρ3 =>
    simp only [e3] at ci
    intro σ4 Z4 H4 S4 kp4 st4 er4
    have hw4 : L2.wipe σ4 vs = L2.wipe σ vs := (wipe_keep kp4).trans wipe_wipe
    refine ⟨hw4, ?_⟩
    obtain ⟨F, hF⟩ : ∃ F : Fp, F = fun a => a = L ∨ Sa a := ⟨_, rfl⟩
    have dF : ∀ a, S2 a → F a → False := fun a x y => dj2 a x (by rw [hF] at y; exact y)
    have w3F : Wd Z3 H3 (fun a => S2 a ∨ F a) := by rw [hF]; exact w3
    have st4' : Step Z3 H3 S2 Z4 H4 S4 := (Step.less (Step.refl (w3F.less fun a x => .inl x)) (S2 := fun a => S2 a ∨ Fp0 a) (fun a x => x.elim id False.elim)).trans st4
    have st4F := st4'.frame w3F dF
    have dF4 := st4'.apart (fun a x => w3F.dom a (.inr x)) dF
    have subSa : ∀ a, Sa a → F a := fun a x => by rw [hF]; exact .inr x
    have inL : F L := by rw [hF]; exact .inl rfl
    have ra4 : RepL K Z4 H4 acc ys Sa := st4'.stayL (fun a x y => dF a x (subSa a y)) ra3
    have hy4 : H4 L = some (.lst ys) := st4'.fr L _ (fun x => dF L x inL) hys
    refine ⟨Z4, ρ3, S4, st4.wd, er4, ?_⟩
    cases e4 : c ρ3 with
    | stuck => rw [e4] at ci; cases ci
    | exc x ρ4 => rw [e4] at ci; cases ci
    | ok t ρ4 =>
      intro Z5 H5 S5 st5 er5
      have st5F := st5.frame st4F.wd dF4
      have dF5 := st5.apart (fun a x => st4F.wd.dom a (.inr x)) dF4
      have ra5 : RepL K Z5 H5 acc ys Sa := st5.stayL (fun a x y => dF4 a x (subSa a y)) ra4
      have hy5 : H5 L = some (.lst ys) := st5.fr L _ (fun x => dF4 L x inL) hy4
      have st35 : Step Z3 H3 (fun a => S2 a ∨ F a) Z5 H5 (fun a => S5 a ∨ F a) := st4F.trans st5F
      cases t with
      | false =>
        rw [if_neg Bool.false_ne_true]
        simp only [e4] at ci
        have q := er5.wipe (own := vs)
        rw [hw4] at q
        rw [hF] at st35
        exact k Z5 H5 S5 Sa ys acc ρ4 st35 (fun a x y => dF5 a x (by rw [hF]; exact y)) q hy5 nL ra5 ci
      | true =>
        rw [if_pos rfl]
        simp only [e4] at ci
        cases e5 : inn ρ4 acc with
        | stuck => rw [e5] at ci; cases ci
        | exc x ρ5 => rw [e5] at ci; cases ci
        | ok acc5 ρ5 =>
          simp only [e5] at ci
          have w5 := st5F.wd
          rw [hF] at w5 st35
          refine hin _ _ _ ⟨Z5, ρ4, S5, Sa, acc, ys, w5, fun a x y => dF5 a x (by rw [hF]; exact y), er5, hy5, nL, ra5, acc5, ρ5, e5, fun Z6 H6 S6 Sa6 ys6 st6 dj6 er6 hy6 nL6 ra6 => ?_⟩
          have q := er6.wipe (own := vs)
          rw [wipe_sub hv, hw4] at q
          exact k Z6 H6 S6 Sa6 ys6 acc5 ρ5 (st35.trans st6) dj6 q hy6 nL6 ra6 ci
theorem tCl_of {vs vs' : List Nat} {s : M (List D)} {g : Tg} {c : M Bool} {inn : In} {L : Addr} {Nx : Hp → Prop} {tin : TM} (hv : ∀ v ∈ vs', v ∈ vs) (hin : ∀ σ H Nx, tN K inn vs' σ H L Nx → tin σ H L Nx) (h : tN K (cla vs s g c inn) vs σ H L Nx) :
    tCl (tI K mg wF s) (tG K (fun j => decide (j ∈ vs)) g) (tT K mg wF c) tin vs σ H L Nx := by
  obtain ⟨Z, ρ, S, Sa, acc, ys, w, dj, er, hy, nL, ra, accF, ρF, ei, k⟩ := h
  obtain ⟨F, hF⟩ : ∃ F : Fp, F = fun a => a = L ∨ Sa a := ⟨_, rfl⟩
  have wF' : Wd Z H (fun a => S a ∨ F a) := by rw [hF]; exact w
  have dF : ∀ a, S a → F a → False := fun a x y => dj a x (by rw [hF] at y; exact y)
  have subSa : ∀ a, Sa a → F a := fun a x => by rw [hF]; exact .inr x
  have inL : F L := by rw [hF]; exact .inl rfl
  refine ⟨Z, ρ, S, wF'.less fun a x => .inl x, er, ?_⟩
  unfold cla at ei
  cases e1 : s ρ with
  | stuck => rw [e1] at ei; cases ei
  | exc x ρ1 => rw [e1] at ei; cases ei
  | ok ds ρ1 =>
    simp only [e1] at ei
    intro J Z1 H1 S1 st1 er1 wk
    have st1F := st1.frame wF' dF
    have dF1 := st1.apart (fun a x => wF'.dom a (.inr x)) dF
    have ra1 : RepL K Z1 H1 acc ys Sa := st1.stayL (fun a x y => dF a x (subSa a y)) ra
    have hy1 : H1 L = some (.lst ys) := st1.fr L _ (fun x => dF L x inL) hy
    rw [hF] at st1F
    refine ⟨fun i m H' => ∃ Z' ρ' S' Sa' acc' ys', Same Z1 Z' ∧ Step Z H (fun a => S a ∨ (a = L ∨ Sa a)) Z' H' (fun a => S' a ∨ (a = L ∨ Sa' a)) ∧ (∀ a, S' a → (a = L ∨ Sa' a) → False) ∧ EnvR K Z' H' (wipeE ρ' vs) (L2.wipe σ vs) S' ∧ H' L = some (.lst ys') ∧ ¬ Sa' L ∧ RepL K Z' H' acc' ys' Sa' ∧ i + m = ds.length ∧
      clIt vs g c inn (ds.drop i) (wipeE ρ' vs) acc' = .ok accF ρF, ⟨ds.length, Z1, ρ1, S1, Sa, acc, ys, Same.refl _, st1F, fun a x y => dF1 a x (by rw [hF]; exact y), er1.wipe, hy1, nL, ra1, by omega, ei⟩, ?_⟩
    rintro i m H2 ⟨Z2, ρ2, S2, Sa2, acc2, ys2, zz2, st2, dj2, er2, hy2, nL2, ra2, him, ci⟩
    obtain ⟨w3, w4⟩ := wk Z2 H2 zz2 st2.wd.same
    by_cases hi : i < ds.length
    · obtain ⟨go, yl⟩ := w4 i ds[i] (List.getElem?_eq_getElem hi)
      have ed : ds.drop i = ds[i] :: ds.drop (i + 1) := List.drop_eq_getElem_cons hi
      rw [ed] at ci
      refine .inr ⟨go, fun H' => ∃ Z' ρ' S' Sa' acc' ys', Same Z1 Z' ∧ Step Z H (fun a => S a ∨ (a = L ∨ Sa a)) Z' H' (fun a => S' a ∨ (a = L ∨ Sa' a)) ∧ (∀ a, S' a → (a = L ∨ Sa' a) → False) ∧ EnvR K Z' H' (wipeE ρ' vs) (L2.wipe σ vs) S' ∧ H' L = some (.lst ys') ∧ ¬ Sa' L ∧ RepL K Z' H' acc' ys' Sa' ∧ (i + 1) + (m - 1) = ds.length ∧
        clIt vs g c inn (ds.drop (i + 1)) (wipeE ρ' vs) acc' = .ok accF ρF, fun H' q => ⟨m - 1, by omega, q⟩, fun x H3 y => ?_⟩
      obtain ⟨Z3, st3, k3, r3⟩ := yl x H3 (fun a => S2 a ∨ (a = L ∨ Sa2 a)) st2.wd y
      exact turn_of hv (hin) st3.wd dj2 (er2.move st3.zz (fun a o _ e => k3 a o e) fun _ x => x) (k3 _ _ hy2) nL2 (ra2.move st3.zz (fun a o _ e => k3 a o e) fun _ x => x) r3 ci fun Z' H' S' Sa' ys' acc' ρ' st' dj' er' hy' nL' ra' ci' =>
        ⟨Z', ρ', S', Sa', acc', ys', zz2.trans (st3.zz.trans st'.zz), (st2.trans st3).trans st', dj', er', hy', nL', ra', by omega, ci'⟩
    · refine .inl ⟨w3 i (by omega), ?_⟩
      rw [List.drop_eq_nil_of_le (by omega)] at ci
      simp only [clIt, Res.ok.injEq] at ci
      obtain ⟨rfl, rfl⟩ := ci
      exact k Z2 H2 S2 Sa2 ys2 st2 dj2 er2 hy2 nL2 ra2
theorem tE_compN {own vs' : List Nat} {s : M (List D)} {g : Tg} {c : M Bool} {inn : In} {Q : VK} {tin : TM} (hv : ∀ v ∈ vs', v ∈ own) (hin : ∀ L σ H Nx, tN K inn vs' σ H L Nx → tin σ H L Nx) (h : tE K mg W (compN own s g c inn) σ H Q) :
    tLcN (tI K mg W s) (tG K (fun j => decide (j ∈ own)) g) (tT K mg wF c) tin own σ H Q := by
  obtain ⟨Z, ρ, S, w, er, o⟩ := h
  refine ⟨Z, ρ, S, w, er, ?_⟩
  simp only [compN, bnd] at o
  cases e1 : s ρ with
  | stuck => rw [e1] at o; exact o
  | exc x ρ1 => rw [e1] at o; exact o
  | ok ds ρ1 =>
    simp only [e1] at o
    intro J Z1 H1 S1 st er1 wk L hL
    cases e2 : clIt own g c inn ds (wipeE ρ1 own) [] with
    | stuck => simp only [e2] at o; exact o.elim
    | exc x ρ2 => simp only [e2] at o; exact o.elim
    | ok accF ρF =>
      simp only [e2] at o
      obtain ⟨f1, f2, f3, f4⟩ := fresh_lst (K := K) (ds := []) (vs := []) st.wd hL trivial
      refine ⟨fun i m H' => ∃ Z' ρ' S' Sa acc ys, Step Z1 H1 S1 Z' H' (fun a => S' a ∨ (a = L ∨ Sa a)) ∧ (∀ a, S' a → (a = L ∨ Sa a) → False) ∧ EnvR K Z' H' (wipeE ρ' own) (L2.wipe σ own) S' ∧ H' L = some (.lst ys) ∧ ¬ Sa L ∧ RepL K Z' H' acc ys Sa ∧ i + m = ds.length ∧
        clIt own g c inn (ds.drop i) (wipeE ρ' own) acc = .ok accF ρF, ⟨ds.length, Z1, ρ1, S1, Fp0, [], [], f1.less fun a x => x.elim .inl fun y => .inr (y.elim id False.elim), fun a x y => y.elim (f3 a x) False.elim, (er1.move (Same.refl _) (fun a o _ e => f2 a o e) fun _ x => x).wipe, upd_same, fun x => x, trivial, by omega, e2⟩, ?_⟩
      rintro i m H2 ⟨Z2, ρ2, S2, Sa, acc, ys, st2, dj2, er2, hys, nL, ra, him, ci⟩
      obtain ⟨w3, w4⟩ := wk Z2 H2 st2.zz st2.wd.same
      by_cases hi : i < ds.length
      · obtain ⟨go, yl⟩ := w4 i ds[i] (List.getElem?_eq_getElem hi)
        have ed : ds.drop i = ds[i] :: ds.drop (i + 1) := List.drop_eq_getElem_cons hi
        rw [ed] at ci
        refine .inr ⟨go, fun H' => ∃ Z' ρ' S' Sa acc ys, Step Z1 H1 S1 Z' H' (fun a => S' a ∨ (a = L ∨ Sa a)) ∧ (∀ a, S' a → (a = L ∨ Sa a) → False) ∧ EnvR K Z' H' (wipeE ρ' own) (L2.wipe σ own) S' ∧ H' L = some (.lst ys) ∧ ¬ Sa L ∧ RepL K Z' H' acc ys Sa ∧ (i + 1) + (m - 1) = ds.length ∧
          clIt own g c inn (ds.drop (i + 1)) (wipeE ρ' own) acc = .ok accF ρF, fun H' q => ⟨m - 1, by omega, q⟩, fun x H3 y => ?_⟩
        obtain ⟨Z3, st3, k3, r3⟩ := yl x H3 (fun a => S2 a ∨ (a = L ∨ Sa a)) st2.wd y
        exact turn_of hv (hin L) st3.wd dj2 (er2.move st3.zz (fun a o _ e => k3 a o e) fun _ x => x) (k3 _ _ hys) nL (ra.move st3.zz (fun a o _ e => k3 a o e) fun _ x => x) r3 ci fun Z' H' S' Sa' ys' acc' ρ' st' dj' er' hy' nL' ra' ci' =>
          ⟨Z', ρ', S', Sa', acc', ys', (st2.trans st3).trans st', dj', er', hy', nL', ra', by omega, ci'⟩
      · refine .inl ⟨w3 i (by omega), ?_⟩
        rw [List.drop_eq_nil_of_le (by omega)] at ci
        simp only [clIt, Res.ok.injEq] at ci
        obtain ⟨rfl, rfl⟩ := ci
        have er2' := wipeE_back er1 st2.zz (own := own) er2.unwipe
        exact o (.ref L) Z2 H2 S2 (fun a => a = L ∨ Sa a) (st.trans st2) dj2 er2' ⟨L, ys, Sa, rfl, hys, .inl rfl, nL, fun a x => .inr x, ra⟩
/-! ### the rules -/
variable {elt tg0 i0 tg1 i1 tg2 i2 : Expr} {ifs0 ifs1 ifs2 : List Expr} {scope : Scope} {own : List (Str × Nat)} {vs1 vs2 : List Nat} {pos : Pos} {s0 s1 s2 : M (List D)} {g0 g1 g2 : Tg} {c0 c1 c2 : M Bool} {e : M EV}
abbrev inA (vs : List Nat) : Nat → Bool := fun j => decide (j ∈ vs)
theorem E_lc2 (vs1 : List Nat) (hN : X.N.Nodup) (hi : PI X tg0 i0 (tI X.K X.mg W s0)) (ok : BlkOk X.N X.env.scope scope own)
    (hg : ∀ (s : Shared) (H : Hp) (C : Addr) (cl : List (Str × Addr)) (fp : List Addr), PG (X.blk s H scope (compEnvC scope cl C X.env) fp) tg0 (tG X.K (ownA own) g0)) (ht : ∀ (s : Shared) (H : Hp) (C : Addr) (cl : List (Str × Addr)) (fp : List Addr), PTs (X.blk s H scope (compEnvC scope cl C X.env) fp) ifs0 (tT X.K X.mg wF c0))
    (hi1 : ∀ (s : Shared) (H : Hp) (C : Addr) (cl : List (Str × Addr)) (fp : List Addr), PI (X.blk s H scope (compEnvC scope cl C X.env) fp) tg1 i1 (tI X.K X.mg wF s1))
    (hg1 : ∀ (s : Shared) (H : Hp) (C : Addr) (cl : List (Str × Addr)) (fp : List Addr), PG (X.blk s H scope (compEnvC scope cl C X.env) fp) tg1 (tG X.K (inA vs1) g1)) (ht1 : ∀ (s : Shared) (H : Hp) (C : Addr) (cl : List (Str × Addr)) (fp : List Addr), PTs (X.blk s H scope (compEnvC scope cl C X.env) fp) ifs1 (tT X.K X.mg wF c1))
    (he : ∀ (s : Shared) (H : Hp) (C : Addr) (cl : List (Str × Addr)) (fp : List Addr), PE (X.blk s H scope (compEnvC scope cl C X.env) fp) elt (tE X.K X.mg wF e)) (hv : ∀ i ∈ vs1, i ∈ own.map (·.2) := by decide) (hc : X.calm = true := by rfl) (hs : ∀ x, foldedSetIterable i0 X.env x = pure x := by intro _; rfl) (hs1 : ∀ env x, foldedSetIterable i1 env x = pure x := by intro _ _; rfl) :
    PE X (.ListComp elt [⟨tg0, i0, ifs0, 0⟩, ⟨tg1, i1, ifs1, 0⟩] scope pos) (tE X.K X.mg W (compN (own.map (·.2)) s0 g0 c0 (cla vs1 s1 g1 c1 (emit e)))) :=
  PE.of (pe_lcN hc hN hi ok hv hg ht hs hs1 (fun s H C cl fp => jo_last rfl hc (hi1 s H C cl fp) (hg1 s H C cl fp) (ht1 s H C cl fp) (he s H C cl fp) (fun _ _ => turn21) starts21) fun _ _ _ => turn20) fun _ _ _ q =>
    tE_compN hv (fun L σ H Nx q1 => tCl_of (vs' := []) (fun _ z => nomatch z) (fun _ _ _ q2 => tEm_of q2) q1) q
theorem E_lc3 (vs1 vs2 : List Nat) (hN : X.N.Nodup) (hi : PI X tg0 i0 (tI X.K X.mg W s0)) (ok : BlkOk X.N X.env.scope scope own)
    (hg : ∀ (s : Shared) (H : Hp) (C : Addr) (cl : List (Str × Addr)) (fp : List Addr), PG (X.blk s H scope (compEnvC scope cl C X.env) fp) tg0 (tG X.K (ownA own) g0)) (ht : ∀ (s : Shared) (H : Hp) (C : Addr) (cl : List (Str × Addr)) (fp : List Addr), PTs (X.blk s H scope (compEnvC scope cl C X.env) fp) ifs0 (tT X.K X.mg wF c0))
    (hi1 : ∀ (s : Shared) (H : Hp) (C : Addr) (cl : List (Str × Addr)) (fp : List Addr), PI (X.blk s H scope (compEnvC scope cl C X.env) fp) tg1 i1 (tI X.K X.mg wF s1))
    (hg1 : ∀ (s : Shared) (H : Hp) (C : Addr) (cl : List (Str × Addr)) (fp : List Addr), PG (X.blk s H scope (compEnvC scope cl C X.env) fp) tg1 (tG X.K (inA vs1) g1)) (ht1 : ∀ (s : Shared) (H : Hp) (C : Addr) (cl : List (Str × Addr)) (fp : List Addr), PTs (X.blk s H scope (compEnvC scope cl C X.env) fp) ifs1 (tT X.K X.mg wF c1))
    (hi2 : ∀ (s : Shared) (H : Hp) (C : Addr) (cl : List (Str × Addr)) (fp : List Addr), PI (X.blk s H scope (compEnvC scope cl C X.env) fp) tg2 i2 (tI X.K X.mg wF s2))
    (hg2 : ∀ (s : Shared) (H : Hp) (C : Addr) (cl : List (Str × Addr)) (fp : List Addr), PG (X.blk s H scope (compEnvC scope cl C X.env) fp) tg2 (tG X.K (inA vs2) g2)) (ht2 : ∀ (s : Shared) (H : Hp) (C : Addr) (cl : List (Str × Addr)) (fp : List Addr), PTs (X.blk s H scope (compEnvC scope cl C X.env) fp) ifs2 (tT X.K X.mg wF c2))
    (he : ∀ (s : Shared) (H : Hp) (C : Addr) (cl : List (Str × Addr)) (fp : List Addr), PE (X.blk s H scope (compEnvC scope cl C X.env) fp) elt (tE X.K X.mg wF e)) (hv : ∀ i ∈ vs1, i ∈ own.map (·.2) := by decide) (hv2 : ∀ i ∈ vs2, i ∈ vs1 := by decide) (hc : X.calm = true := by rfl) (hs : ∀ x, foldedSetIterable i0 X.env x = pure x := by intro _; rfl) (hs1 : ∀ env x, foldedSetIterable i1 env x = pure x := by intro _ _; rfl)
    (hs2 : ∀ env x, foldedSetIterable i2 env x = pure x := by intro _ _; rfl) :
    PE X (.ListComp elt [⟨tg0, i0, ifs0, 0⟩, ⟨tg1, i1, ifs1, 0⟩, ⟨tg2, i2, ifs2, 0⟩] scope pos) (tE X.K X.mg W (compN (own.map (·.2)) s0 g0 c0 (cla vs1 s1 g1 c1 (cla vs2 s2 g2 c2 (emit e))))) :=
  PE.of (pe_lcN hc hN hi ok hv hg ht hs hs1 (fun s H C cl fp => jo_mid rfl hc (hi1 s H C cl fp) (hg1 s H C cl fp) (ht1 s H C cl fp) (jo_last rfl hc (hi2 s H C cl fp) (hg2 s H C cl fp) (ht2 s H C cl fp) (he s H C cl fp) (fun _ _ => turn32) starts32) hv2 (hs2 _) (fun _ _ => turn31) starts31) fun _ _ _ => turn30) fun _ _ _ q =>
    tE_compN hv (fun L σ H Nx q1 => tCl_of hv2 (fun _ _ _ q2 => tCl_of (vs' := []) (fun _ z => nomatch z) (fun _ _ _ q3 => tEm_of q3) q2) q1) q
theorem S_lc2 (vs1 : List Nat) {i : Nat} {y : Str} {py spos : Pos} (hN : X.N.Nodup) (hi : PI X tg0 i0 (tI X.K X.mg W s0)) (ok : BlkOk X.N X.env.scope scope own)
    (hg : ∀ (s : Shared) (H : Hp) (C : Addr) (cl : List (Str × Addr)) (fp : List Addr), PG (X.blk s H scope (compEnvC scope cl C X.env) fp) tg0 (tG X.K (ownA own) g0)) (ht : ∀ (s : Shared) (H : Hp) (C : Addr) (cl : List (Str × Addr)) (fp : List Addr), PTs (X.blk s H scope (compEnvC scope cl C X.env) fp) ifs0 (tT X.K X.mg wF c0))
    (hi1 : ∀ (s : Shared) (H : Hp) (C : Addr) (cl : List (Str × Addr)) (fp : List Addr), PI (X.blk s H scope (compEnvC scope cl C X.env) fp) tg1 i1 (tI X.K X.mg wF s1))
    (hg1 : ∀ (s : Shared) (H : Hp) (C : Addr) (cl : List (Str × Addr)) (fp : List Addr), PG (X.blk s H scope (compEnvC scope cl C X.env) fp) tg1 (tG X.K (inA vs1) g1)) (ht1 : ∀ (s : Shared) (H : Hp) (C : Addr) (cl : List (Str × Addr)) (fp : List Addr), PTs (X.blk s H scope (compEnvC scope cl C X.env) fp) ifs1 (tT X.K X.mg wF c1))
    (he : ∀ (s : Shared) (H : Hp) (C : Addr) (cl : List (Str × Addr)) (fp : List Addr), PE (X.blk s H scope (compEnvC scope cl C X.env) fp) elt (tE X.K X.mg wF e)) (hv : ∀ i ∈ vs1, i ∈ own.map (·.2) := by decide) (hc : X.calm = true := by rfl) (hs : ∀ x, foldedSetIterable i0 X.env x = pure x := by intro _; rfl) (hs1 : ∀ env x, foldedSetIterable i1 env x = pure x := by intro _ _; rfl)
    (hA : A i = true := by rfl) (hy : X.N[i]? = some y := by rfl) (hyl : X.env.scope.names.lookup y = some .local := by rfl) (hsw : swapsWith (.ListComp elt [⟨tg0, i0, ifs0, 0⟩, ⟨tg1, i1, ifs1, 0⟩] scope pos) (some (.Name y py)) spos.line X.env = pure true := by rfl) :
    PS X (.Assign [.Name y py] (.ListComp elt [⟨tg0, i0, ifs0, 0⟩, ⟨tg1, i1, ifs1, 0⟩] scope pos) spos) (tS X.K X.mg W A (asg (compN (own.map (·.2)) s0 g0 c0 (cla vs1 s1 g1 c1 (emit e))) (gN i))) :=
  PS.of (ps_setLcN hc hN hy hyl hsw hi ok hv hg ht hs hs1 (fun s H C cl fp => jo_last rfl hc (hi1 s H C cl fp) (hg1 s H C cl fp) (ht1 s H C cl fp) (he s H C cl fp) (fun _ _ => turn21) starts21) fun _ _ _ => turn20) fun D σ H q =>
    tE_compN (Q := _) hv (fun L σ H Nx q1 => tCl_of (vs' := []) (fun _ z => nomatch z) (fun _ _ _ q2 => tEm_of q2) q1) (tE_mono (fun v H1 r => tG_N hA r) (tS_asg q))
theorem S_lc3 (vs1 vs2 : List Nat) {i : Nat} {y : Str} {py spos : Pos} (hN : X.N.Nodup) (hi : PI X tg0 i0 (tI X.K X.mg W s0)) (ok : BlkOk X.N X.env.scope scope own)
    (hg : ∀ (s : Shared) (H : Hp) (C : Addr) (cl : List (Str × Addr)) (fp : List Addr), PG (X.blk s H scope (compEnvC scope cl C X.env) fp) tg0 (tG X.K (ownA own) g0)) (ht : ∀ (s : Shared) (H : Hp) (C : Addr) (cl : List (Str × Addr)) (fp : List Addr), PTs (X.blk s H scope (compEnvC scope cl C X.env) fp) ifs0 (tT X.K X.mg wF c0))
    (hi1 : ∀ (s : Shared) (H : Hp) (C : Addr) (cl : List (Str × Addr)) (fp : List Addr), PI (X.blk s H scope (compEnvC scope cl C X.env) fp) tg1 i1 (tI X.K X.mg wF s1))
    (hg1 : ∀ (s : Shared) (H : Hp) (C : Addr) (cl : List (Str × Addr)) (fp : List Addr), PG (X.blk s H scope (compEnvC scope cl C X.env) fp) tg1 (tG X.K (inA vs1) g1)) (ht1 : ∀ (s : Shared) (H : Hp) (C : Addr) (cl : List (Str × Addr)) (fp : List Addr), PTs (X.blk s H scope (compEnvC scope cl C X.env) fp) ifs1 (tT X.K X.mg wF c1))
    (hi2 : ∀ (s : Shared) (H : Hp) (C : Addr) (cl : List (Str × Addr)) (fp : List Addr), PI (X.blk s H scope (compEnvC scope cl C X.env) fp) tg2 i2 (tI X.K X.mg wF s2))
    (hg2 : ∀ (s : Shared) (H : Hp) (C : Addr) (cl : List (Str × Addr)) (fp : List Addr), PG (X.blk s H scope (compEnvC scope cl C X.env) fp) tg2 (tG X.K (inA vs2) g2)) (ht2 : ∀ (s : Shared) (H : Hp) (C : Addr) (cl : List (Str × Addr)) (fp : List Addr), PTs (X.blk s H scope (compEnvC scope cl C X.env) fp) ifs2 (tT X.K X.mg wF c2))
    (he : ∀ (s : Shared) (H : Hp) (C : Addr) (cl : List (Str × Addr)) (fp : List Addr), PE (X.blk s H scope (compEnvC scope cl C X.env) fp) elt (tE X.K X.mg wF e)) (hv : ∀ i ∈ vs1, i ∈ own.map (·.2) := by decide) (hv2 : ∀ i ∈ vs2, i ∈ vs1 := by decide) (hc : X.calm = true := by rfl) (hs : ∀ x, foldedSetIterable i0 X.env x = pure x := by intro _; rfl) (hs1 : ∀ env x, foldedSetIterable i1 env x = pure x := by intro _ _; rfl)
    (hs2 : ∀ env x, foldedSetIterable i2 env x = pure x := by intro _ _; rfl)
    (hA : A i = true := by rfl) (hy : X.N[i]? = some y := by rfl) (hyl : X.env.scope.names.lookup y = some .local := by rfl) (hsw : swapsWith (.ListComp elt [⟨tg0, i0, ifs0, 0⟩, ⟨tg1, i1, ifs1, 0⟩, ⟨tg2, i2, ifs2, 0⟩] scope pos) (some (.Name y py)) spos.line X.env = pure true := by rfl) :
    PS X (.Assign [.Name y py] (.ListComp elt [⟨tg0, i0, ifs0, 0⟩, ⟨tg1, i1, ifs1, 0⟩, ⟨tg2, i2, ifs2, 0⟩] scope pos) spos) (tS X.K X.mg W A (asg (compN (own.map (·.2)) s0 g0 c0 (cla vs1 s1 g1 c1 (cla vs2 s2 g2 c2 (emit e)))) (gN i))) :=
  PS.of (ps_setLcN hc hN hy hyl hsw hi ok hv hg ht hs hs1 (fun s H C cl fp => jo_mid rfl hc (hi1 s H C cl fp) (hg1 s H C cl fp) (ht1 s H C cl fp) (jo_last rfl hc (hi2 s H C cl fp) (hg2 s H C cl fp) (ht2 s H C cl fp) (he s H C cl fp) (fun _ _ => turn32) starts32) hv2 (hs2 _) (fun _ _ => turn31) starts31) fun _ _ _ => turn30) fun D σ H q =>
    tE_compN (Q := _) hv (fun L σ H Nx q1 => tCl_of hv2 (fun _ _ _ q2 => tCl_of (vs' := []) (fun _ z => nomatch z) (fun _ _ _ q3 => tEm_of q3) q2) q1) (tE_mono (fun v H1 r => tG_N hA r) (tS_asg q))
end
end Pm
/-! PmV: texts added, repeated, read as numbers. -/
namespace Pm
open PySem PySem.Spec PyProof.Rows L2
section
variable {K : PySem.W.Frag} {mg : Str → Option Value} {W : WX} {Z H : Hp} {S : Fp} {σ : Sl} {X : Cx}
def strRep (x : Str) (n : Int) : Str := if n < 1 then Str.empty else if (n == 1 || x.length == 0) = true then x else ⟨(List.replicate n.toNat x.cps).foldl (· ++ ·) #[]⟩
theorem op_repS : OpR X (binaryOp .Mult) (fun x y H Q => ∃ a k, x = .str a ∧ y = .int k ∧ k ≤ 1000000 ∧ -1000000 ≤ k ∧ a.length * k.toNat ≤ sizeLine ∧ Q (.str (strRep a k)) H) := by
  intro pins s σ H x y v u Q I rx ry h
  obtain ⟨a, k, rfl, rfl, h1, h2, hz, q⟩ := h
  obtain ⟨t, rfl⟩ := rx
  obtain ⟨t', rfl⟩ := ry
  refine PySem.P.mul_str (by
    rw [decide_eq_false (show ¬ k < -(2 ^ 63 : Int) by omega), decide_eq_false (show ¬ k ≥ 2 ^ 63 by omega)]; rfl) (fun h3 _ => ?_) (fun h3 _ => ?_) ?_
  · have e : (a.length : Int) ≤ (2 ^ 63 - 1) / k := by
      rw [Int.le_ediv_iff_mul_le (by omega)]
      have e2 : ((a.length * k.toNat : Nat) : Int) = (a.length : Int) * k := by rw [Int.natCast_mul, Int.toNat_of_nonneg (by omega)]
      have e3 : a.length * k.toNat ≤ 2 ^ 63 - 1 := Nat.le_trans hz (by rw [sizeLine_eq]; decide)
      omega
    omega
  · exact decide_eq_false (Nat.not_lt.mpr hz)
  · unfold strRep at q
    split
    · rename_i c
      rw [if_pos c] at q
      exact ⟨by decide, ⟨.str _, H, I.tok _, ⟨_, rfl⟩, q⟩⟩
    · rename_i c
      rw [if_neg c] at q
      split
      · rename_i c2
        rw [if_pos c2] at q
        exact ⟨.str _, H, I, ⟨_, rfl⟩, q⟩
      · rename_i c2
        rw [if_neg c2] at q
        exact ⟨fits_reps (decide_eq_false (Nat.not_lt.mpr hz)), ⟨.str _, H, I.tok _, ⟨_, rfl⟩, q⟩⟩
def gAddS : List D → Option D
  | [.str a, .str b] => if a.length + b.length ≤ cap then some (.str (a ++ b)) else none
  | _ => none
def gMulS : List D → Option D
  | [.str a, .int k] => if k ≤ 1000000 ∧ -1000000 ≤ k ∧ a.length * k.toNat ≤ cap then some (.str (strRep a k)) else none
  | _ => none
theorem opd_addS : Opd X (binaryOp .Add) gAddS := by
  refine ⟨_, op_add_str, snd_pure fun Z H S ds vs d Q w rb e k => ?_⟩
  unfold gAddS at e
  split at e
  · split at e
    · rename_i a b c
      obtain ⟨v, u, rfl, rv, ru⟩ := rb2 rb
      obtain rfl : v = .str a := rv
      obtain rfl : u = .str b := ru
      cases e
      exact ⟨_, _, rfl, a, b, rfl, rfl, cap_le c, k _ rfl⟩
    · cases e
  · cases e
theorem opd_mulS : Opd X (binaryOp .Mult) gMulS := by
  refine ⟨_, op_repS, snd_pure fun Z H S ds vs d Q w rb e k => ?_⟩
  unfold gMulS at e
  split at e
  · split at e
    · rename_i a b c
      obtain ⟨v, u, rfl, rv, ru⟩ := rb2 rb
      obtain rfl : v = .str a := rv
      obtain rfl : u = .int b := ru
      cases e
      exact ⟨_, _, rfl, a, b, rfl, rfl, c.1, c.2.1, cap_le c.2.2, k _ rfl⟩
    · cases e
  · cases e
def gAdd : List D → Option D
  | [.str a, .str b] => gAddS [.str a, .str b]
  | ds => on2I iAdd ds
def gMul : List D → Option D
  | [.str a, .int k] => gMulS [.str a, .int k]
  | ds => on2I iMul ds
theorem opd_gAdd : Opd X (binaryOp .Add) gAdd := Opd.or opd_addS opd_addI fun ds d h => by
  unfold gAdd at h
  split at h
  · exact .inl h
  · exact .inr h
theorem opd_gMul : Opd X (binaryOp .Mult) gMul := Opd.or opd_mulS opd_mulI fun ds d h => by
  unfold gMul at h
  split at h
  · exact .inl h
  · exact .inr h
def opInt : List D → Option D
  | [.str a] => if a.length ≤ 640 then (PySem.intText? a).map D.int else none
  | ds => opInt1 ds
theorem snd_int : Snd X (fun xs H Q => ((∃ i, xs = [.int i] ∧ Q (.int i) H) ∨ ∃ k, xs = [.bl k] ∧ Q (.int (if k then 1 else 0)) H) ∨ ∃ a n, xs = [.str a] ∧ PySem.intText? a = some n ∧ a.length ≤ 640 ∧ Q (.int n) H) opInt := by
  intro Z H S ds vs d Q w rb e k
  unfold opInt at e
  split at e
  · rename_i a
    split at e
    · rename_i c
      cases hn : PySem.intText? a with
      | none => rw [hn] at e; cases e
      | some n =>
        rw [hn] at e
        simp only [Option.map_some, Option.some.injEq] at e
        subst e
        obtain ⟨v, rfl, rv⟩ := rb1 rb
        obtain rfl : v = .str a := rv
        refine .inr ⟨a, n, rfl, hn, c, k _ Z H Fp0 ?_ (Same.refl H) (fun _ _ x => x) rfl⟩
        exact w.nil
    · cases e
  · exact .inl (snd_int1 Z H S ds vs d Q w rb e k)
theorem call_intA : CallR X (.type "int") (fun xs H Q => ((∃ i, xs = [.int i] ∧ Q (.int i) H) ∨ ∃ k, xs = [.bl k] ∧ Q (.int (if k then 1 else 0)) H) ∨ ∃ a n, xs = [.str a] ∧ PySem.intText? a = some n ∧ a.length ≤ 640 ∧ Q (.int n) H) := CallR.or call_int1 call_int_str
end
end Pm
/-! PmY: the module's own constants, chained comparisons, texts within texts, all and any, lists joined. -/
namespace Pm
open PySem PySem.Spec PyProof.Rows L2
section
variable {K : PySem.W.Frag} {mg : Str → Option Value} {W : WX} {Z Z' H H' : Hp} {S S' : Fp} {σ : Sl} {X : Cx} {a b c e : Expr} {pos : Pos} {fa fb fc : M EV}
/-! ### constants of the module -/
theorem E_gs {x z : Str} {t : Tok} (hm : X.mg x = some (.str z t)) (hg : Gl X x := by rfl) (hd : (x == ("__debug__" : Str)) = false := by decide) : PE X (.Name x pos) (tE X.K X.mg W (con (.str z))) :=
  ⟨fun _ _ _ H _ I h => ld_glob I hg hm ⟨.str z, H, I, ⟨_, rfl⟩, tE_con (d := .str z) (fun _ _ => rfl) h⟩ hd⟩
theorem E_gi {x : Str} {i : Int} {t : Tok} (hm : X.mg x = some (.int i t)) (hg : Gl X x := by rfl) (hd : (x == ("__debug__" : Str)) = false := by decide) : PE X (.Name x pos) (tE X.K X.mg W (con (.int i))) :=
  ⟨fun _ _ _ H _ I h => ld_glob I hg hm ⟨.int i, H, I, ⟨_, rfl⟩, tE_con (d := .int i) (fun _ _ => rfl) h⟩ hd⟩
/-! ### a < b < c over ints -/
def chI (p q : Int → Int → Bool) (fa fb fc : M EV) : M EV := bnd fa fun ea => bnd fb fun eb => fun ρ => match peek1 ρ ea, peek1 ρ eb with
  | some (.int i), some (.int j) => if p i j = true then (bnd fc fun ec => fun ρ' => match peek1 ρ' ec with
      | some (.int l) => .ok (.val (.bl (q j l))) ρ'
      | _ => .stuck) ρ else .ok (.val (.bl false)) ρ
  | _, _ => .stuck
theorem int_of {ev : EV} {v : V} {i : Int} {ρ : Env} (h : peek1 ρ ev = some (.int i)) (r : EVR K Z H σ ev v S) (er : EnvR K Z' H' ρ σ S') : v = .int i := by
  cases ev with
  | val d =>
    have e : d = .int i := Option.some.inj h
    subst e
    exact r
  | ref j => exact peek1_rep (Z := Z') (H := H') (Sa := Fp0) (e := .ref j) er r h
theorem tE_chI {p q : Int → Int → Bool} {Q : VK} (h : tE K mg W (chI p q fa fb fc) σ H Q) : tChain (rI0 fun i j => .bl (p i j)) (rI0 fun i j => .bl (q i j)) (tE K mg W fa) (tE K mg W fb) (tE K mg W fc) σ H Q := by
  obtain ⟨Z, ρ, S, w, er, o⟩ := h
  refine ⟨Z, ρ, S, w, er, ?_⟩
  simp only [chI, bnd] at o
  cases e1 : fa ρ with
  | stuck => rw [e1] at o; exact o
  | exc x ρ1 => rw [e1] at o; exact o
  | ok ea ρ1 =>
    rw [e1] at o
    intro x Z1 H1 S1 Sa st1 dj1 er1 r1
    have t1 := st1.less (S2 := S1) fun a x => .inl x
    refine ⟨Z1, ρ1, S1, t1.wd, er1, ?_⟩
    have o1 := OutE.after (K := K) (mg := mg) (W := W) (σ := σ) (Q := Q) t1 o
    cases e2 : fb ρ1 with
    | stuck => simp only [e2] at o1; exact o1
    | exc x ρ2 => simp only [e2] at o1; exact o1
    | ok eb ρ2 =>
      simp only [e2] at o1
      intro y Z2 H2 S2 Sb st2 dj2 er2 r2
      have t2 := st2.less (S2 := S2) fun a x => .inl x
      have o2 := OutE.after (K := K) (mg := mg) (W := W) (σ := σ) (Q := Q) t2 o1
      split at o2
      · rename_i i j h1 h2
        have ex := int_of h1 r1 er2
        have ey := int_of h2 r2 er2
        refine ⟨i, j, ex, ey, p i j, rfl, ?_⟩
        cases hp : p i j with
        | false =>
          rw [hp] at o2
          exact o2 (.bl false) Z2 H2 S2 Fp0 t2.wd.nil (fun _ _ x => x) er2 rfl
        | true =>
          rw [hp] at o2
          simp only [if_true] at o2 ⊢
          refine ⟨Z2, ρ2, S2, t2.wd, er2, ?_⟩
          cases e3 : fc ρ2 with
          | stuck => simp only [e3] at o2; exact o2
          | exc x ρ3 => simp only [e3] at o2; exact o2
          | ok ec ρ3 =>
            simp only [e3] at o2
            intro z Z3 H3 S3 Sc st3 dj3 er3 r3
            have t3 := st3.less (S2 := S3) fun a x => .inl x
            have o3 := OutE.after (K := K) (mg := mg) (W := W) (σ := σ) (Q := Q) t3 o2
            split at o3
            · rename_i l h3
              exact ⟨j, l, ey, int_of h3 r3 er3, o3 (.bl (q j l)) Z3 H3 S3 Fp0 t3.wd.nil (fun _ _ x => x) er3 rfl⟩
            · exact o3.elim
      · exact o2.elim
theorem E_ch {op op' : CmpOp} {p q : Int → Int → Bool} (h1 : OpR X (compareOp op) (rI0 fun i j => .bl (p i j))) (h2 : OpR X (compareOp op') (rI0 fun i j => .bl (q i j))) (ha : PE X a (tE X.K X.mg W fa)) (hb : PE X b (tE X.K X.mg W fb)) (hc : PE X c (tE X.K X.mg W fc))
    (hm : lastMarks [op, op'] [b, c] = false := by with_unfolding_all rfl) : PE X (.Compare a [op, op'] [b, c] pos) (tE X.K X.mg W (chI p q fa fb fc)) := PE.of (pe_chain h1 h2 ha hb hc hm) fun _ _ _ q => tE_chI q
theorem tT_tstOf {f : M EV} {t : TE} {Q : Bool → Hp → Prop} (i : ∀ σ H Q, tE K mg W f σ H Q → t σ H Q) (h : tT K mg W (tst f) σ H Q) : tTest t σ H Q := i _ _ _ (tT_tst h)
theorem T_ch {op op' : CmpOp} {p q : Int → Int → Bool} (h1 : OpR X (compareOp op) (rI0 fun i j => .bl (p i j))) (h2 : OpR X (compareOp op') (rI0 fun i j => .bl (q i j))) (ha : PE X a (tE X.K X.mg W fa)) (hb : PE X b (tE X.K X.mg W fb)) (hc : PE X c (tE X.K X.mg W fc))
    (hm : lastMarks [op, op'] [b, c] = false := by with_unfolding_all rfl) : PT X (.Compare a [op, op'] [b, c] pos) (tT X.K X.mg W (tst (chI p q fa fb fc))) := PT.of (pt_chain h1 h2 ha hb hc hm) fun _ _ _ q => tT_tstOf (fun _ _ _ => tE_chI) q
def cLt (i j : Int) : Bool := decide (i < j)
def cLe (i j : Int) : Bool := decide (i ≤ j)
def cGt (i j : Int) : Bool := decide (j < i)
def cGe (i j : Int) : Bool := decide (j ≤ i)
theorem oc_lt : OpR X (compareOp .Lt) (rI0 fun i j => .bl (cLt i j)) := op_lt
theorem oc_le : OpR X (compareOp .LtE) (rI0 fun i j => .bl (cLe i j)) := op_le
theorem oc_gt : OpR X (compareOp .Gt) (rI0 fun i j => .bl (cGt i j)) := op_gt
theorem oc_ge : OpR X (compareOp .GtE) (rI0 fun i j => .bl (cGe i j)) := op_ge
/-! ### one text within another -/
def subS (i j : Str) : Bool := !(Builtin.Str.occurrences j i 0 j.length 1).isEmpty
def opInS : List D → Option D
  | [.str i, .str j] => some (.bl (subS i j))
  | _ => none
def opNotInS : List D → Option D
  | [.str i, .str j] => some (.bl (!(subS i j)))
  | _ => none
theorem opd_inS : Opd X (compareOp .In) opInS := by
  refine ⟨_, op_in_str, snd_pure fun Z H S ds vs d Q w rb e k => ?_⟩
  unfold opInS at e
  split at e
  · rename_i x y
    obtain ⟨v, u, rfl, rv, ru⟩ := rb2 rb
    obtain rfl : v = .str x := rv
    obtain rfl : u = .str y := ru
    cases e
    exact ⟨_, _, rfl, x, y, rfl, rfl, k _ rfl⟩
  · cases e
theorem opd_notInS : Opd X (compareOp .NotIn) opNotInS := by
  refine ⟨_, op_notin_str, snd_pure fun Z H S ds vs d Q w rb e k => ?_⟩
  unfold opNotInS at e
  split at e
  · rename_i x y
    obtain ⟨v, u, rfl, rv, ru⟩ := rb2 rb
    obtain rfl : v = .str x := rv
    obtain rfl : u = .str y := ru
    cases e
    exact ⟨_, _, rfl, x, y, rfl, rfl, k _ rfl⟩
  · cases e
/-! ### all, any -/
def blsD : List D → Option (List Bool)
  | [] => some []
  | .bl b :: ds => (blsD ds).map (b :: ·)
  | _ => none
theorem blsD_map : ∀ bs : List Bool, blsD (bs.map D.bl) = some bs
  | [] => rfl
  | b :: bs => by rw [List.map_cons, blsD, blsD_map bs]; rfl
theorem blsD_inv : ∀ {ds : List D} {bs : List Bool}, blsD ds = some bs → ds = bs.map D.bl
  | [], bs, h => by
    simp only [blsD, Option.some.injEq] at h
    subst h
    rfl
  | d :: ds, bs, h => by
    cases d with
    | bl b =>
      simp only [blsD, Option.map_eq_some_iff] at h
      obtain ⟨cs, h1, rfl⟩ := h
      rw [blsD_inv h1]
      rfl
    | _ => simp [blsD] at h
theorem reps_bls : ∀ {bs : List Bool} {vs : List V} {S : Fp}, RepL K Z H (bs.map D.bl) vs S → vs = bs.map V.bl
  | [], [], _, _ => rfl
  | [], _ :: _, _, h => h.elim
  | _ :: _, [], _, h => h.elim
  | b :: bs, v :: vs, S, ⟨_, _, _, _, _, r, q⟩ => by
    have e : v = .bl b := r
    rw [e, reps_bls q]
    rfl
def opAll : List D → Option D
  | [.node _ .lst xs] => match blsD xs with
    | some bs => some (.bl (bs.all id))
    | none => none
  | _ => none
def opAny : List D → Option D
  | [.node _ .lst xs] => match blsD xs with
    | some bs => some (.bl (bs.any id))
    | none => none
  | _ => none
theorem snd_all : Snd X (rAll X.K) opAll := by
  refine snd_pure fun Z H S ds vs d Q w rb e k => ?_
  unfold opAll at e
  split at e
  · split at e
    · rename_i bs hb
      obtain ⟨v, rfl, rv⟩ := rb1 rb
      obtain ⟨a, ys, rfl, c, rl⟩ := rep_lst w.same rv
      rw [blsD_inv hb] at rl
      have ey := reps_bls rl
      subst ey
      cases e
      exact ⟨a, bs, rfl, SqL.of c, k _ rfl⟩
    · cases e
  · cases e
theorem snd_any : Snd X (rAny X.K) opAny := by
  refine snd_pure fun Z H S ds vs d Q w rb e k => ?_
  unfold opAny at e
  split at e
  · split at e
    · rename_i bs hb
      obtain ⟨v, rfl, rv⟩ := rb1 rb
      obtain ⟨a, ys, rfl, c, rl⟩ := rep_lst w.same rv
      rw [blsD_inv hb] at rl
      have ey := reps_bls rl
      subst ey
      cases e
      exact ⟨a, bs, rfl, SqL.of c, k _ rfl⟩
    · cases e
  · cases e
end
end Pm
/-! PmZ: lists and tuples joined, membership. -/
namespace Pm
open PySem PySem.Spec PyProof.Rows L2
section
variable {K : PySem.W.Frag} {mg : Str → Option Value} {W : WX} {Z Z' H H' : Hp} {S S' : Fp} {σ : Sl} {X : Cx} {a b c e : Expr} {pos : Pos} {fa fb fc : M EV}
theorem RepL.joinP : ∀ {ds es : List D} {vs ws : List V}, RepL K Z H ds vs Fp0 → RepL K Z H es ws Fp0 → RepL K Z H (ds ++ es) (vs ++ ws) Fp0 := fun {ds es vs ws} h1 h2 => RepL.append h1 h2 (fun _ x => x) (fun _ x => x) fun _ x _ => x
def opCatL : List D → Option D
  | [.node _ .lst xs, .node _ .lst ys] => if plainL xs = true ∧ plainL ys = true ∧ xs.length + ys.length ≤ cap then some (.lst true (xs ++ ys)) else none
  | _ => none
theorem opd_catL : Opd X (binaryOp .Add) opCatL := by
  refine ⟨_, op_cat, fun Z H S ds vs d Q w rb e k => ?_⟩
  unfold opCatL at e
  split at e
  · split at e
    · rename_i hp
      obtain ⟨v, u, rfl, rv, ru⟩ := rb2 rb
      obtain ⟨a, ys, rfl, c, rl⟩ := rep_lst w.same rv
      obtain ⟨a', ys', rfl, c', rl'⟩ := rep_lst w.same ru
      cases e
      refine ⟨_, _, rfl, a, a', ys, ys', rfl, rfl, c, c', by rw [← rl.length, ← rl'.length]; exact cap_le hp.2.2, fun p np => ?_⟩
      obtain ⟨f1, f2, f3, f4⟩ := fresh_lst w np ((rl.plain hp.1).joinP (rl'.plain hp.2.1))
      exact k _ _ _ _ f1 f2 f3 f4
    · cases e
  · cases e
def opCatT : List D → Option D
  | [.node false .tup xs, .node false .tup ys] => if plainL xs = true ∧ plainL ys = true ∧ xs.length + ys.length ≤ cap then some (.tup (xs ++ ys)) else none
  | _ => none
theorem opd_catT : Opd X (binaryOp .Add) opCatT := by
  refine ⟨_, op_catA, fun Z H S ds vs d Q w rb e k => ?_⟩
  unfold opCatT at e
  split at e
  · split at e
    · rename_i xs zs hp
      obtain ⟨v, u, rfl, rv, ru⟩ := rb2 rb
      have rv0 : Rep X.K Z H (.tup xs) v Fp0 := Rep.plain rv (by simp [D.plain, hp.1])
      have ru0 : Rep X.K Z H (.tup zs) u Fp0 := Rep.plain ru (by simp [D.plain, hp.2.1])
      obtain ⟨a, ys, rfl, c, rl⟩ := rep_tup w.same rv0
      obtain ⟨a', ys', rfl, c', rl'⟩ := rep_tup w.same ru0
      cases e
      have l1 := rl.length
      have l2 := rl'.length
      refine ⟨_, _, rfl, a, a', ys, ys', rfl, rfl, c, c', by rw [← l1, ← l2]; exact cap_le hp.2.2, fun h => ?_, fun _ h => ?_, fun _ _ p np => ?_⟩
      · have ex : xs = [] := List.length_eq_zero_iff.mp (by rw [l1, h]; rfl)
        rw [ex, List.nil_append] at k
        exact k _ _ _ Fp0 w.nil (Same.refl H) (fun _ _ x => x) ru0
      · have ex : zs = [] := List.length_eq_zero_iff.mp (by rw [l2, h]; rfl)
        rw [ex, List.append_nil] at k
        exact k _ _ _ Fp0 w.nil (Same.refl H) (fun _ _ x => x) rv0
      · obtain ⟨f1, f2, f3⟩ := fresh_tup w np ((rl.plain hp.1).joinP (rl'.plain hp.2.1))
        exact k _ _ _ _ f1 f2 (fun _ _ x => x) f3
    · cases e
  · cases e
/-- everything that is added -/
def hAdd : List D → Option D
  | [.str a, .str b] => gAddS [.str a, .str b]
  | [.node p .lst xs, .node q .lst ys] => opCatL [.node p .lst xs, .node q .lst ys]
  | [.node p .tup xs, .node q .tup ys] => opCatT [.node p .tup xs, .node q .tup ys]
  | ds => on2I iAdd ds
theorem opd_hAdd : Opd X (binaryOp .Add) hAdd := by
  refine Opd.or (g1 := gAdd) (g2 := fun ds => match opCatL ds with | some d => some d | none => opCatT ds) opd_gAdd (Opd.or opd_catL opd_catT fun ds d h => ?_) fun ds d h => ?_
  · cases e : opCatL ds with
    | some d' => simp only [e] at h; exact .inl h
    | none => simp only [e] at h; exact .inr h
  · unfold hAdd at h
    split at h
    · exact .inl h
    · exact .inr (by simp only [h])
    · exact .inr (by
        rename_i p xs q ys
        have e : opCatL [D.node p .tup xs, .node q .tup ys] = none := rfl
        simp only [e]
        exact h)
    · refine .inl ?_
      unfold gAdd
      split
      · rename_i n1 _ _
        exact absurd rfl (n1 _ _)
      · exact h
/-! ### x in a list or a tuple of flat things -/
def flt : D → Option V
  | .non => some .non
  | .bl b => some (.bl b)
  | .int i => some (.int i)
  | .str x => some (.str x)
  | _ => none
def fltL : List D → Option (List V)
  | [] => some []
  | d :: ds => match flt d, fltL ds with
    | some v, some vs => some (v :: vs)
    | _, _ => none
theorem flt_ok {d : D} {v v' : V} (h : flt d = some v) (r : Rep K Z H d v' S) : v' = v ∧ flatV v = true := by
  cases d with
  | non => cases h; exact ⟨r, rfl⟩
  | bl b => cases h; exact ⟨r, rfl⟩
  | int i => cases h; exact ⟨r, rfl⟩
  | str x => cases h; exact ⟨r, rfl⟩
  | op u => cases h
  | node o k xs => cases h
theorem fltL_ok : ∀ {ds : List D} {vs vs' : List V} {S : Fp}, fltL ds = some vs → RepL K Z H ds vs' S → vs' = vs ∧ vs.all flatV = true
  | [], vs, [], _, h, _ => by cases h; exact ⟨rfl, rfl⟩
  | [], _, _ :: _, _, _, r => r.elim
  | _ :: _, _, [], _, _, r => r.elim
  | d :: ds, vs, v' :: vs', _, h, ⟨_, _, _, _, _, r, q⟩ => by
    unfold fltL at h
    split at h
    · rename_i v us h1 h2
      cases h
      obtain ⟨e1, f1⟩ := flt_ok h1 r
      obtain ⟨e2, f2⟩ := fltL_ok h2 q
      exact ⟨by rw [e1, e2], by rw [List.all_cons, f1, f2]; rfl⟩
    · cases h
def opInQ (neg : Bool) : List D → Option D
  | [x, .node _ .lst xs] => match flt x, fltL xs with
    | some v, some vs => some (.bl (if neg then !inV v vs else inV v vs))
    | _, _ => none
  | [x, .node _ .tup xs] => match flt x, fltL xs with
    | some v, some vs => some (.bl (if neg then !inV v vs else inV v vs))
    | _, _ => none
  | _ => none
theorem snd_inQ {neg : Bool} : Snd X (fun vs H Q => ∃ x y, vs = [x, y] ∧ rIn X.K neg x y H Q) (opInQ neg) := by
  refine snd_pure fun Z H S ds vs d Q w rb e k => ?_
  unfold opInQ at e
  split at e
  · split at e
    · rename_i v us h1 h2
      obtain ⟨v', u', rfl, rv, ru⟩ := rb2 rb
      obtain ⟨a, ys, rfl, c, rl⟩ := rep_lst w.same ru
      obtain ⟨e1, f1⟩ := flt_ok h1 rv
      obtain ⟨e2, f2⟩ := fltL_ok h2 rl
      subst e1
      subst e2
      cases e
      exact ⟨_, _, rfl, a, _, rfl, .inl (SqL.of c), f1, f2, k _ rfl⟩
    · cases e
  · split at e
    · rename_i v us h1 h2
      obtain ⟨v', u', rfl, rv, ru⟩ := rb2 rb
      obtain ⟨a, ys, rfl, c, rl⟩ := rep_tup w.same ru
      obtain ⟨e1, f1⟩ := flt_ok h1 rv
      obtain ⟨e2, f2⟩ := fltL_ok h2 rl
      subst e1
      subst e2
      cases e
      exact ⟨_, _, rfl, a, _, rfl, .inr c, f1, f2, k _ rfl⟩
    · cases e
  · cases e
def opIn : List D → Option D
  | [.str i, .str j] => opInS [.str i, .str j]
  | ds => opInQ false ds
def opNotIn : List D → Option D
  | [.str i, .str j] => opNotInS [.str i, .str j]
  | ds => opInQ true ds
theorem opd_in : Opd X (compareOp .In) opIn := Opd.or opd_inS ⟨_, op_in_seq, snd_inQ⟩ fun ds d h => by
  unfold opIn at h
  split at h
  · exact .inl h
  · exact .inr h
theorem opd_notIn : Opd X (compareOp .NotIn) opNotIn := Opd.or opd_notInS ⟨_, op_notIn_seq, snd_inQ⟩ fun ds d h => by
  unfold opNotIn at h
  split at h
  · exact .inl h
  · exact .inr h
end
end Pm
/-! PmZa: methods of texts. -/
namespace Pm
open PySem PySem.Spec PyProof.Rows L2
section
variable {K : PySem.W.Frag} {mg : Str → Option Value} {W : WX} {Z Z' H H' : Hp} {S S' : Fp} {σ : Sl} {X : Cx} {a b c e o : Expr} {pos : Pos} {fa fb fc : M EV}
/-- a method of a text without arguments, with one -/
def smet0 (g : List D → Option D) (f : M EV) : M EV := bnd f fun e1 => fun ρ => match peek1 ρ e1 with
  | some (.str a) => match g [.str a] with
    | some d => .ok (.val d) ρ
    | none => .stuck
  | _ => .stuck
def smet1 (g : List D → Option D) (f fe : M EV) : M EV := bnd f fun e1 => fun ρ => match peek1 ρ e1 with
  | some (.str a) => (bnd fe fun e2 => fun ρ' => match peek1 ρ' e2 with
    | some d => match g [.str a, d] with
      | some d' => .ok (.val d') ρ'
      | none => .stuck
    | none => .stuck) ρ
  | _ => .stuck
theorem str_of {ev : EV} {v : V} {x : Str} {ρ : Env} (h : peek1 ρ ev = some (.str x)) (r : EVR K Z H σ ev v S) (er : EnvR K Z' H' ρ σ S') : v = .str x := by
  cases ev with
  | val d =>
    have e : d = .str x := Option.some.inj h
    subst e
    exact r
  | ref j => exact peek1_rep (Z := Z') (H := H') (Sa := Fp0) (e := .ref j) er r h
theorem tE_smet0 {g : List D → Option D} {r : V → List V → Hp → VK → Prop} {Q : VK} (hs : Snd X (fun vs H Q => ∃ x, vs = [x] ∧ r x [] H Q) g) (h : tE X.K X.mg W (smet0 g fa) σ H Q) : tM0 r (tE X.K X.mg W fa) σ H Q := by
  obtain ⟨Z, ρ, S, w, er, o⟩ := h
  refine ⟨Z, ρ, S, w, er, ?_⟩
  simp only [smet0, bnd] at o
  cases e1 : fa ρ with
  | stuck => rw [e1] at o; exact o
  | exc x ρ1 => rw [e1] at o; exact o
  | ok ea ρ1 =>
    rw [e1] at o
    intro x Z1 H1 S1 Sa st1 dj1 er1 r1
    have t1 := st1.less (S2 := S1) fun a x => .inl x
    simp only at o
    have o1 := OutE.after (K := X.K) (mg := X.mg) (W := W) (σ := σ) (Q := Q) t1 o
    split at o1
    · rename_i z hz
      have ex := str_of hz r1 er1
      subst ex
      refine ⟨⟨z, rfl⟩, ?_⟩
      split at o1
      · rename_i d hd
        obtain ⟨x', hx, q⟩ := hs Z1 H1 S1 [.str z] [.str z] d Q t1.wd ⟨rfl, trivial⟩ hd fun v Z2 H2 Sd st2 sm dj2 rd => o1 v Z2 H2 S1 Sd st2 dj2 (er1.move st2.zz (fun a ob _ e => sm a ob e) fun _ x => x) rd
        cases hx
        exact q
      · exact o1.elim
    · exact o1.elim
theorem tE_smet1 {g : List D → Option D} {r : V → List V → Hp → VK → Prop} {Q : VK} (hs : Snd X (fun vs H Q => ∃ x y, vs = [x, y] ∧ r x [y] H Q) g) (h : tE X.K X.mg W (smet1 g fa fb) σ H Q) : tM1 r (tE X.K X.mg W fa) (tE X.K X.mg W fb) σ H Q := by
  obtain ⟨Z, ρ, S, w, er, o⟩ := h
  refine ⟨Z, ρ, S, w, er, ?_⟩
  simp only [smet1, bnd] at o
  cases e1 : fa ρ with
  | stuck => rw [e1] at o; exact o
  | exc x ρ1 => rw [e1] at o; exact o
  | ok ea ρ1 =>
    rw [e1] at o
    intro x Z1 H1 S1 Sa st1 dj1 er1 r1
    have t1 := st1.less (S2 := S1) fun a x => .inl x
    simp only at o
    have o1 := OutE.after (K := X.K) (mg := X.mg) (W := W) (σ := σ) (Q := Q) t1 o
    split at o1
    · rename_i z hz
      have ex := str_of hz r1 er1
      subst ex
      refine ⟨⟨z, rfl⟩, Z1, ρ1, S1, t1.wd, er1, ?_⟩
      cases e2 : fb ρ1 with
      | stuck => simp only [e2] at o1; exact o1
      | exc x ρ2 => simp only [e2] at o1; exact o1
      | ok eb ρ2 =>
        simp only [e2] at o1
        intro y Z2 H2 S2 Sb st2 dj2 er2 r2
        have o2 := OutE.after (K := X.K) (mg := X.mg) (W := W) (σ := σ) (Q := Q) st2 o1
        split at o2
        · rename_i d hd
          split at o2
          · rename_i d' hg
            obtain ⟨x', y', hx, q⟩ := hs Z2 H2 _ [.str z, d] [.str z, y] d' Q st2.wd ⟨rfl, peek1_rep er2 r2 hd, trivial⟩ hg fun v Z3 H3 Sd st3 sm dj3 rd =>
              o2 v Z3 H3 S2 Sd (st3.less fun a x => x.elim (fun y => .inl (.inl y)) .inr) (fun a x y => dj3 a (.inl x) y) (er2.move st3.zz (fun a ob _ e => sm a ob e) fun _ x => x) rd
            cases hx
            exact q
          · exact o2.elim
        · exact o2.elim
    · exact o1.elim
/-! #### join -/
def strsD : List D → Option (List Str)
  | [] => some []
  | .str x :: ds => (strsD ds).map (x :: ·)
  | _ => none
theorem strsD_map : ∀ xs : List Str, strsD (xs.map D.str) = some xs
  | [] => rfl
  | x :: xs => by rw [List.map_cons, strsD, strsD_map xs]; rfl
theorem strsD_inv : ∀ {ds : List D} {xs : List Str}, strsD ds = some xs → ds = xs.map D.str
  | [], xs, h => by
    simp only [strsD, Option.some.injEq] at h
    subst h
    rfl
  | d :: ds, xs, h => by
    cases d with
    | str x =>
      simp only [strsD, Option.map_eq_some_iff] at h
      obtain ⟨ys, h1, rfl⟩ := h
      rw [strsD_inv h1]
      rfl
    | _ => simp [strsD] at h
theorem reps_strs : ∀ {xs : List Str} {vs : List V} {S : Fp}, RepL K Z H (xs.map D.str) vs S → vs = xs.map V.str
  | [], [], _, _ => rfl
  | [], _ :: _, _, h => h.elim
  | _ :: _, [], _, h => h.elim
  | x :: xs, v :: vs, S, ⟨_, _, _, _, _, r, q⟩ => by
    have e : v = .str x := r
    rw [e, reps_strs q]
    rfl
def opJoin : List D → Option D
  | [.str a, .node _ .lst xs] => match strsD xs with
    | some ys => if (ys.map (·.length)).sum + ys.length * a.length ≤ cap then some (.str (Txt.join a ys)) else none
    | none => none
  | [.str a, .node _ .tup xs] => match strsD xs with
    | some ys => if (ys.map (·.length)).sum + ys.length * a.length ≤ cap then some (.str (Txt.join a ys)) else none
    | none => none
  | _ => none
def rJoin (K : PySem.W.Frag) : V → List V → Hp → VK → Prop := fun x xs H Q => ∃ a p, ∃ ys : List Str, x = .str a ∧ xs = [.ref p] ∧ (SqL K H p (ys.map V.str) ∨ SqT K H p (ys.map V.str)) ∧ (ys.map (·.length)).sum + ys.length * a.length ≤ 16777216 ∧ Q (.str (Txt.join a ys)) H
theorem snd_join : Snd X (fun vs H Q => ∃ x y, vs = [x, y] ∧ rJoin X.K x [y] H Q) opJoin := by
  refine snd_pure fun Z H S ds vs d Q w rb e k => ?_
  unfold opJoin at e
  split at e
  · split at e
    · rename_i ys hy
      split at e
      · rename_i hl
        obtain ⟨v, u, rfl, rv, ru⟩ := rb2 rb
        obtain ⟨p, zs, rfl, c, rl⟩ := rep_lst w.same ru
        rw [strsD_inv hy] at rl
        have ez := reps_strs rl
        subst ez
        cases e
        exact ⟨_, _, rfl, _, p, ys, rv, rfl, .inl (SqL.of c), Nat.le_trans hl (by decide), k _ rfl⟩
      · cases e
    · cases e
  · split at e
    · rename_i ys hy
      split at e
      · rename_i hl
        obtain ⟨v, u, rfl, rv, ru⟩ := rb2 rb
        obtain ⟨p, zs, rfl, c, rl⟩ := rep_tup w.same ru
        rw [strsD_inv hy] at rl
        have ez := reps_strs rl
        subst ez
        cases e
        exact ⟨_, _, rfl, _, p, ys, rv, rfl, .inr c, Nat.le_trans hl (by decide), k _ rfl⟩
      · cases e
    · cases e
  · cases e
theorem E_join {apos : Pos} (ho : PE X o (tE X.K X.mg W fa)) (he : PE X e (tE X.K X.mg W fb)) (hs : starEach [e] X.env = [(false, eval e X.env)] := by rfl) (hbase : attributeBase o "join" X.env (eval o X.env) = eval o X.env := by rfl) (hline : (apos.endLine == pos.line) = true := by rfl) :
    PE X (.Call (.Attribute o "join" apos) [e] [] pos) (tE X.K X.mg W (smet1 opJoin fa fb)) := PE.of (pe_join ho he hs hbase hline) fun _ _ _ q => tE_smet1 (r := rJoin X.K) snd_join q
/-! #### texts in, a thing of one piece out -/
def onSS (g : Str → Str → D) : List D → Option D
  | [.str a, .str b] => some (g a b)
  | _ => none
theorem snd_SS {r : V → List V → Hp → VK → Prop} {g : Str → Str → D} {hv : Str → Str → V} (hr : ∀ a b H Q, Q (hv a b) H → r (.str a) [.str b] H Q) (hg : ∀ a b Z H, Rep X.K Z H (g a b) (hv a b) Fp0) : Snd X (fun vs H Q => ∃ x y, vs = [x, y] ∧ r x [y] H Q) (onSS g) := by
  refine snd_pure fun Z H S ds vs d Q w rb e k => ?_
  unfold onSS at e
  split at e
  · rename_i a b
    obtain ⟨v, u, rfl, rv, ru⟩ := rb2 rb
    obtain rfl : v = .str a := rv
    obtain rfl : u = .str b := ru
    cases e
    exact ⟨_, _, rfl, hr _ _ _ _ (k _ (hg a b Z H))⟩
  · cases e
abbrev opCountS : List D → Option D := onSS fun a b => .int (Txt.count a b)
theorem snd_count : Snd X (fun vs H Q => ∃ x y, vs = [x, y] ∧ (fun (x : V) (xs : List V) (H : Hp) (Q : VK) => ∃ a b, x = .str a ∧ xs = [.str b] ∧ Q (.int (Txt.count a b)) H) x [y] H Q) opCountS :=
  snd_SS (r := fun (x : V) (xs : List V) (H : Hp) (Q : VK) => ∃ a b, x = .str a ∧ xs = [.str b] ∧ Q (.int (Txt.count a b)) H) (g := fun a b => .int (Txt.count a b)) (hv := fun a b => .int (Txt.count a b)) (fun a b H Q h => ⟨a, b, rfl, rfl, h⟩) fun _ _ _ _ => rfl
theorem E_count {apos : Pos} (ho : PE X o (tE X.K X.mg W fa)) (he : PE X e (tE X.K X.mg W fb)) (hs : starEach [e] X.env = [(false, eval e X.env)] := by rfl) (hbase : attributeBase o "count" X.env (eval o X.env) = eval o X.env := by rfl) (hline : (apos.endLine == pos.line) = true := by rfl) :
    PE X (.Call (.Attribute o "count" apos) [e] [] pos) (tE X.K X.mg W (smet1 opCountS fa fb)) :=
  PE.of (pe_m1 F.slot_str_count F.type_str_count mt_count ho he hs hbase hline) fun _ _ _ q => tE_smet1 (g := opCountS) snd_count q
end
end Pm
/-! PmZb: list.pop. -/
namespace Pm
open PySem PySem.Spec PyProof.Rows L2
section
variable {K : PySem.W.Frag} {mg : Str → Option Value} {W : WX} {Z Z' H H' : Hp} {S S' : Fp} {σ : Sl} {X : Cx} {a b c e o : Expr} {pos : Pos} {fa fb fc : M EV}
theorem RepL.erase : ∀ {ds : List D} {vs : List V} {S : Fp} {i : Nat} {d : D}, RepL K Z H ds vs S → ds[i]? = some d →
    ∃ v, ∃ S1 S2 : Fp, vs[i]? = some v ∧ (∀ a, S1 a → S a) ∧ (∀ a, S2 a → S a) ∧ (∀ a, S1 a → S2 a → False) ∧ Rep K Z H d v S1 ∧ RepL K Z H (ds.eraseIdx i) (vs.eraseIdx i) S2
  | [], _, _, _, _, _, e => by simp at e
  | _ :: _, [], _, _, _, h, _ => h.elim
  | d :: ds, v :: vs, S, 0, d', ⟨S1, S2, s1, s2, dj, r, q⟩, e => by
    simp only [List.getElem?_cons_zero, Option.some.injEq] at e
    subst e
    exact ⟨v, S1, S2, rfl, s1, s2, dj, r, q⟩
  | d :: ds, v :: vs, S, i + 1, d', ⟨S1, S2, s1, s2, dj, r, q⟩, e => by
    simp only [List.getElem?_cons_succ] at e
    obtain ⟨u, U1, U2, hu, u1, u2, uj, ru, rest⟩ := RepL.erase q e
    exact ⟨u, U1, fun a => S1 a ∨ U2 a, by simpa using hu, fun a x => s2 a (u1 a x), fun a x => x.elim (s1 a) fun y => s2 a (u2 a y), fun a x y => y.elim (fun z => dj a z (u1 a x)) (uj a x), ru, S1, U2, fun _ x => .inl x, fun _ x => .inr x, fun a x y => dj a x (u2 a y), r, rest⟩
theorem pop_item {i j : Nat} {xs : List D} {ρ : Env} {d : D} (w : Wd Z H S) (er : EnvR K Z H ρ σ S) (e : ρ.getD j none = some (.node true .lst xs)) (hi : xs[i]? = some d) :
    ∃ p ys y, ∃ S' T : Fp, σ[j]? = some (some (.ref p)) ∧ H p = some (.lst ys) ∧ ys.length = xs.length ∧ ys[i]? = some y ∧ (∀ a, S' a → S a) ∧ (∀ a, T a → S a) ∧ (∀ a, S' a → T a → False) ∧ S p ∧
      Rep K Z (upd H p (.lst (ys.eraseIdx i))) d y T ∧ EnvR K Z (upd H p (.lst (ys.eraseIdx i))) (ρ.set j (some (.node true .lst (xs.eraseIdx i)))) σ S' := by
  obtain ⟨u, U1, U2, hv, u1, u2, uj, ru, eu⟩ := er.take (getD_some e)
  obtain ⟨p, ys, U', rfl, c, sa, na, sub, rl⟩ := ru
  obtain ⟨hj, ej⟩ := List.getElem?_eq_some_iff.mp hv
  have es : σ.set j (some (.ref p)) = σ := by rw [← ej, List.set_getElem_self]
  have hl : j < ρ.length := by rw [er.length]; exact hj
  obtain ⟨y, T1, T2, hy, t1, t2, tj, ry, rest⟩ := rl.erase hi
  have keep : ∀ {B : Fp}, (∀ a, B a → a = p → False) → ∀ a o, B a → H a = some o → upd H p (.lst (ys.eraseIdx i)) a = some o := fun {B} n a o b q => by rw [upd_ne fun z => n a b z]; exact q
  have n1 : ∀ a, U' a → a = p → False := fun a x y => na (by rw [← y]; exact x)
  have rn : Rep K Z (upd H p (.lst (ys.eraseIdx i))) (.node true .lst (xs.eraseIdx i)) (.ref p) (fun a => a = p ∨ T2 a) := ⟨p, ys.eraseIdx i, T2, rfl, upd_same, .inl rfl, fun x => n1 p (t2 p x) rfl, fun _ x => .inr x, rest.move (Same.refl Z) (keep fun a x => n1 a (t2 a x)) fun _ x => x⟩
  have q := EnvR.put (S := fun a => (a = p ∨ T2 a) ∨ U2 a) (eu.move (Same.refl Z) (keep fun a x y => uj p sa (by rw [← y]; exact x)) fun _ x => x) hl rn (fun _ x => .inl x) (fun _ x => .inr x) fun a x y => by
    rcases x with x | x
    · exact uj p sa (by rw [← x]; exact y)
    · exact uj a (sub a (t2 a x)) y
  rw [es] at q
  refine ⟨p, ys, y, _, T1, hv, c, rl.length.symm, hy, fun a x => ?_, fun a x => u1 a (sub a (t1 a x)), fun a x t => ?_, u1 p sa, ry.move (Same.refl Z) (keep fun a x => n1 a (t1 a x)) fun _ x => x, q⟩
  · rcases x with (x | x) | x
    · rw [x]; exact u1 p sa
    · exact u1 a (sub a (t2 a x))
    · exact u2 a x
  · rcases x with (x | x) | x
    · exact n1 a (t1 a t) x
    · exact tj a t x
    · exact uj a (sub a (t1 a t)) x
/-- x.pop(), x.pop(i) of a slot's own list -/
def popd (j : Nat) : M EV := fun ρ => match ρ.getD j none with
  | some (.node true .lst xs) => match xs[xs.length - 1]? with
    | some d => .ok (.val d) (ρ.set j (some (.node true .lst (xs.eraseIdx (xs.length - 1)))))
    | none => .stuck
  | _ => .stuck
def popi (j : Nat) (fi : M EV) : M EV := fun ρ0 => match ρ0.getD j none with
  | some (.node true .lst _) => bnd fi (fun ei => fun ρ => match ρ.getD j none, peek1 ρ ei with
    | some (.node true .lst xs), some (.int k) => match ixN xs.length k with
      | some i => match xs[i]? with
        | some d => if xs.length ≤ cap then .ok (.val d) (ρ.set j (some (.node true .lst (xs.eraseIdx i)))) else .stuck
        | none => .stuck
      | none => .stuck
    | _, _ => .stuck) ρ0
  | _ => .stuck
theorem drop_erase {α : Type} (xs : List α) : xs.dropLast = xs.eraseIdx (xs.length - 1) := by
  rw [List.dropLast_eq_take, List.eraseIdx_eq_take_drop_succ]
  cases xs with
  | nil => rfl
  | cons x xs => simp
theorem tE_popd {j : Nat} {Q : VK} (h : tE K mg W (popd j) σ H Q) : tBM0 K "list" rPop (tVar j) σ H Q := by
  obtain ⟨Z, ρ, S, w, er, o⟩ := h
  simp only [popd] at o
  split at o
  · rename_i xs h0
    split at o
    · rename_i d hd
      obtain ⟨p, ys, y, S', T, hv, hp, hl, hy, m1, m2, dj, sp, rd, er'⟩ := pop_item w er h0 hd
      refine ⟨.ref p, hv, .inl ⟨rfl, ys, SqL.of hp⟩, p, ys, y, rfl, rfl, hp, by rw [hl]; exact hy, ?_⟩
      rw [drop_erase, hl]
      exact o y Z _ S' T ((Step.write w sp).less fun a x => x.elim (m1 a) (m2 a)) dj er' rd
    · exact o.elim
  · exact o.elim
theorem tE_popi {j : Nat} {Q : VK} (h : tE K mg W (popi j fa) σ H Q) : tBM K "list" rPopAt (tVar j) (tCons (tE K mg W fa) tNil) σ H Q := by
  obtain ⟨Z, ρ, S, w, er, o⟩ := h
  simp only [popi] at o
  split at o
  · rename_i xs0 h0
    obtain ⟨u, U1, U2, hv, u1, u2, uj, ru, eu⟩ := er.take (getD_some h0)
    obtain ⟨p0, ys0, U', rfl, c0, _⟩ := ru
    refine ⟨.ref p0, hv, .inl ⟨rfl, ys0, SqL.of c0⟩, Z, ρ, S, w, er, ?_⟩
    simp only [bnd] at o
    cases e1 : fa ρ with
    | stuck => rw [e1] at o; exact o
    | exc x ρ1 => rw [e1] at o; exact o
    | ok ev ρ1 =>
      simp only [e1] at o
      intro v Z1 H1 S1 Sa st1 dj1 er1 r1
      have t1 := st1.less (S2 := S1) fun a x => .inl x
      have o1 := OutE.after (K := K) (mg := mg) (W := W) (σ := σ) (Q := Q) t1 o
      split at o1
      · rename_i xs k hx hk
        have ev' := int_of hk r1 er1
        subst ev'
        split at o1
        · rename_i i hi
          split at o1
          · rename_i d hd
            split at o1
            · rename_i hz
              obtain ⟨p, ys, y, S', T, hv2, hp, hl, hy, m1, m2, dj, sp, rd, er'⟩ := pop_item t1.wd er1 hx hd
              rw [hv] at hv2
              cases hv2
              obtain ⟨q1, q2, q3, q4⟩ := ixN_seq hi
              have hz' : xs.length ≤ 1000000 := hz
              refine ⟨p0, ys, k, i, y, rfl, rfl, hp, by omega, by omega, by rw [hl]; exact q1, hy, ?_⟩
              exact o1 y Z1 _ S' T ((Step.write t1.wd sp).less fun a x => x.elim (m1 a) (m2 a)) dj er' rd
            · exact o1.elim
          · exact o1.elim
        · exact o1.elim
      · exact o1.elim
  · exact o.elim
theorem E_popd {j : Nat} {x : Str} {p2 apos cpos : Pos} (hj : X.N[j]? = some x := by rfl) (hv : Vis X.env.scope x := by first | exact Or.inl rfl | exact Or.inr (Or.inl rfl) | exact Or.inr (Or.inr rfl)) (hd : (x == ("__debug__" : Str)) = false := by decide) (hcd : (x == ("__classdict__" : Str)) = false := by decide)
    (hbase : attributeBase (.Name x p2) "pop" X.env (eval (.Name x p2) X.env) = eval (.Name x p2) X.env := by rfl) (hline : (apos.endLine == cpos.line) = true := by rfl) : PE X (.Call (.Attribute (.Name x p2) "pop" apos) [] [] cpos) (tE X.K X.mg W (popd j)) :=
  PE.of (pe_bm0 PySem.F.plainAttrs_list PySem.F.slot_list_pop PySem.F.type_list_pop mt_pop (pe_var hj hv hd hcd) hbase hline) fun _ _ _ q => tE_popd q
theorem E_popi {j : Nat} {x : Str} {p2 apos cpos : Pos} (he : PE X e (tE X.K X.mg W fa)) (hj : X.N[j]? = some x := by rfl) (hv : Vis X.env.scope x := by first | exact Or.inl rfl | exact Or.inr (Or.inl rfl) | exact Or.inr (Or.inr rfl)) (hd : (x == ("__debug__" : Str)) = false := by decide) (hcd : (x == ("__classdict__" : Str)) = false := by decide)
    (hbase : attributeBase (.Name x p2) "pop" X.env (eval (.Name x p2) X.env) = eval (.Name x p2) X.env := by rfl)
    (hfew : ((backTo cpos (starEach [e] X.env)).all (fun x => !x.1) && (backToKw cpos (keywordEach [] X.env)).all (fun x => x.1.isSome)
      && decide ([e].length + ([] : List Keyword).length + (if ([] : List Keyword).isEmpty then 0 else 1) < 30)) = true := by rfl)
    (hline : (apos.endLine == cpos.line) = true := by rfl) (hs : starEach [e] X.env = (false, eval e X.env) :: starEach [] X.env := by rfl) (hplain : (backTo cpos (starEach [] X.env)).any (·.1) = false := by rfl) :
    PE X (.Call (.Attribute (.Name x p2) "pop" apos) [e] [] cpos) (tE X.K X.mg W (popi j fa)) :=
  PE.of (pe_bm PySem.F.plainAttrs_list PySem.F.slot_list_pop PySem.F.type_list_pop mt_popAt (pe_var hj hv hd hcd) (pa_cons he pa_nil hs) hbase hfew hline hs hplain) fun _ _ _ q => tE_popi q
end
end Pm
/-! PmZc: sorted. -/
namespace Pm
open PySem PySem.Spec PyProof.Rows L2
section
variable {K : PySem.W.Frag} {mg : Str → Option Value} {W : WX} {Z Z' H H' : Hp} {S S' : Fp} {σ : Sl} {X : Cx} {a b c e o : Expr} {pos : Pos} {fa fb fc : M EV}
def sortI (ns : List Int) : List Int := ns.mergeSort fun i j => decide (i ≤ j)
theorem sortI_perm (ns : List Int) : (sortI ns).Perm ns := List.mergeSort_perm ns _
theorem sortI_pair (ns : List Int) : (sortI ns).Pairwise (· ≤ ·) := by
  have h := List.pairwise_mergeSort (le := fun (i j : Int) => decide (i ≤ j)) (fun a b c h1 h2 => by simp at *; omega) (fun a b => by simp; omega) ns
  exact h.imp fun h => of_decide_eq_true h
theorem sortI_of {ns ms : List Int} (h : ms.Perm ns) (h2 : ms.Pairwise (· ≤ ·)) : ms = sortI ns := List.Perm.eq_of_pairwise (le := (· ≤ ·)) (fun a b _ _ h1 h2 => by omega) h2 (sortI_pair ns) (h.trans (sortI_perm ns).symm)
def leS (x y : Str) : Bool := !decide (y.cps.toList < x.cps.toList)
theorem leS_trans (a b c : Str) (h1 : leS a b = true) (h2 : leS b c = true) : leS a c = true := by
  unfold leS at *
  simp only [Bool.not_eq_true', decide_eq_false_iff_not] at *
  exact List.not_lt.mpr (List.le_trans (List.not_lt.mp h1) (List.not_lt.mp h2))
theorem leS_total (a b : Str) : (leS a b || leS b a) = true := by
  unfold leS
  rcases List.le_total a.cps.toList b.cps.toList with h | h
  · have h' : ¬ b.cps.toList < a.cps.toList := List.not_lt.mpr h
    simp [h']
  · have h' : ¬ a.cps.toList < b.cps.toList := List.not_lt.mpr h
    simp [h']
theorem leS_anti (a b : Str) (h1 : leS a b = true) (h2 : leS b a = true) : a = b := by
  unfold leS at *
  simp only [Bool.not_eq_true', decide_eq_false_iff_not] at *
  have e := List.le_antisymm (List.not_lt.mp h1) (List.not_lt.mp h2)
  cases a
  cases b
  congr
  exact Array.toList_inj.mp e
def sortS (xs : List Str) : List Str := xs.mergeSort leS
theorem sortS_perm (xs : List Str) : (sortS xs).Perm xs := List.mergeSort_perm xs _
theorem sortS_pair (xs : List Str) : (sortS xs).Pairwise fun x y => leS x y = true := List.pairwise_mergeSort leS_trans leS_total xs
theorem rising_pair : ∀ (p : Str) (xs : List Str), risingS p xs = true → (p :: xs).Pairwise fun x y => leS x y = true
  | p, [], _ => List.pairwise_singleton _ _
  | p, x :: xs, h => by
    unfold risingS at h
    rw [Bool.and_eq_true] at h
    have ih := rising_pair x xs h.2
    have hp : leS p x = true := (PyProof.Rows.le_meets p x).trans h.1
    refine List.Pairwise.cons (fun y hy => ?_) ih
    rcases List.mem_cons.mp hy with rfl | hy
    · exact hp
    · exact leS_trans _ _ _ hp ((List.pairwise_cons.mp ih).1 y hy)
theorem sortS_of {xs ys : List Str} (h : ys.Perm xs) (h2 : sortedS ys = true) : ys = sortS xs := by
  refine List.Perm.eq_of_pairwise (le := fun x y => leS x y = true) (fun a b _ _ h1 h2 => leS_anti a b h1 h2) ?_ (sortS_pair xs) (h.trans (sortS_perm xs).symm)
  cases ys with
  | nil => exact List.Pairwise.nil
  | cons y ys => exact rising_pair y ys h2
def opSorted : List D → Option D
  | [.node _ .lst xs] => match intsD xs with
    | some ns => some (.lst true ((sortI ns).map D.int))
    | none => match strsD xs with
      | some ys => if ys.length < 64 then some (.lst true ((sortS ys).map D.str)) else none
      | none => none
  | _ => none
theorem reps_strsV : ∀ xs : List Str, RepL K Z H (xs.map D.str) (xs.map V.str) Fp0
  | [] => trivial
  | x :: xs => ⟨Fp0, Fp0, fun _ x => x, fun _ x => x, fun _ x _ => x, rfl, reps_strsV xs⟩
theorem reps_ints0 : ∀ ns : List Int, RepL K Z H (ns.map D.int) (ns.map V.int) Fp0
  | [] => trivial
  | x :: xs => ⟨Fp0, Fp0, fun _ x => x, fun _ x => x, fun _ x _ => x, rfl, reps_ints0 xs⟩
theorem snd_sorted : Snd X (fun vs H Q => rSortedI X.K vs H Q ∨ rSortedS X.K vs H Q) opSorted := by
  intro Z H S ds vs d Q w rb e k
  unfold opSorted at e
  split at e
  · split at e
    · rename_i ns hn
      obtain ⟨v, rfl, rv⟩ := rb1 rb
      obtain ⟨a, ys, rfl, c, rl⟩ := rep_lst w.same rv
      rw [intsD_inv hn] at rl
      have ey := reps_intsV rl
      subst ey
      cases e
      refine .inl ⟨a, ns, rfl, SqL.of c, fun ms p h1 h2 np => ?_⟩
      rw [sortI_of h1 h2]
      obtain ⟨f1, f2, f3, f4⟩ := fresh_lst w np (reps_ints0 (K := X.K) (Z := Z) (H := H) (sortI ns))
      exact k _ _ _ _ f1 f2 f3 f4
    · split at e
      · rename_i ys hy
        split at e
        · rename_i hl
          obtain ⟨v, rfl, rv⟩ := rb1 rb
          obtain ⟨a, zs, rfl, c, rl⟩ := rep_lst w.same rv
          rw [strsD_inv hy] at rl
          have ez := reps_strs rl
          subst ez
          cases e
          refine .inr ⟨a, ys, rfl, SqL.of c, hl, fun ms p h1 h2 np => ?_⟩
          rw [sortS_of h1 h2]
          obtain ⟨f1, f2, f3, f4⟩ := fresh_lst w np (reps_strsV (K := X.K) (Z := Z) (H := H) (sortS ys))
          exact k _ _ _ _ f1 f2 f3 f4
        · cases e
      · cases e
  · cases e
theorem call_sortedA : CallR X (.builtin "sorted") (fun vs H Q => rSortedI X.K vs H Q ∨ rSortedS X.K vs H Q) := CallR.or cr_sortedI cr_sortedS
end
end Pm
/-! PmZd: enumerate. -/
namespace Pm
open PySem PySem.Spec PyProof.Rows L2
section
variable {K : PySem.W.Frag} {mg : Str → Option Value} {W : WX} {Z Z' H H' : Hp} {S S' : Fp} {σ : Sl} {X : Cx} {a b c e o : Expr} {pos : Pos} {fa fb fc : M EV}
def enumD : Nat → List D → List D
  | _, [] => []
  | i, d :: ds => .tup [.int (i : Int), d] :: enumD (i + 1) ds
theorem enumD_length : ∀ (ds : List D) (i : Nat), (enumD i ds).length = ds.length
  | [], _ => rfl
  | d :: ds, i => by rw [enumD, List.length_cons, List.length_cons, enumD_length ds]
theorem enumD_get : ∀ (ds : List D) (k i : Nat) (d' : D), (enumD k ds)[i]? = some d' → ∃ d, ds[i]? = some d ∧ d' = .tup [.int ((k + i : Nat) : Int), d]
  | [], _, _, _, h => by simp [enumD] at h
  | d :: ds, k, 0, d', h => by
    simp only [enumD, List.getElem?_cons_zero, Option.some.injEq] at h
    exact ⟨d, rfl, h.symm⟩
  | d :: ds, k, i + 1, d', h => by
    simp only [enumD, List.getElem?_cons_succ] at h
    obtain ⟨e, h1, h2⟩ := enumD_get ds (k + 1) i d' h
    exact ⟨e, by simpa using h1, by rw [h2, show k + 1 + i = k + (i + 1) by omega]⟩
theorem walk_enum {p : Addr} {ds : List D} (h : WalkR K (Itl K p) Z ds) : WalkR K (Ite K p) Z (enumD 0 ds) := by
  intro Z' H' z1 z2
  obtain ⟨h1, h2⟩ := h Z' H' z1 z2
  refine ⟨fun i hi => h1 i (by rw [enumD_length] at hi; exact hi), fun i d hd => ?_⟩
  obtain ⟨d0, hd0, rfl⟩ := enumD_get ds 0 i d hd
  obtain ⟨g, y⟩ := h2 i d0 hd0
  refine ⟨g, fun x H'' S' w hx => ?_⟩
  obtain ⟨T, u, rfl, nT, rfl, fu⟩ := hx
  obtain ⟨Z2, st, sm, ru⟩ := y u H' S' w ⟨rfl, fu⟩
  have st2 := Step.allocZ (o := .tup [.int ((i : Nat) : Int), u]) st.wd nT
  refine ⟨_, st.trans st2, fun a o e => by rw [upd_ne (ne_of_none e nT)]; exact e, T, [.int ((i : Nat) : Int), u], rfl, SqT.of upd_same, Fp0, Fp0, fun _ x => x, fun _ x => x, fun _ x _ => x, by rw [Nat.zero_add]; rfl, Fp0, Fp0, fun _ x => x, fun _ x => x, fun _ x _ => x, ?_, trivial⟩
  exact ru.move st2.zz (fun _ _ x => x.elim) fun _ x => x
def srcEnum (f : M EV) : M (List D) := bnd (srcSeq f .lst) fun ds => ret (enumD 0 ds)
theorem tI_enum {R : It → Hp → Prop} (h : tI K mg W (srcEnum fa) σ H R) : tI K mg W (srcSeq fa .lst) σ H fun J H1 => ∃ Z1 ds, WalkR K J Z1 ds ∧ ∀ J2, WalkR K J2 Z1 (enumD 0 ds) → R J2 H1 := by
  obtain ⟨Z, ρ, S, w, er, o⟩ := h
  refine ⟨Z, ρ, S, w, er, ?_⟩
  simp only [srcEnum, bnd] at o
  cases e1 : srcSeq fa .lst ρ with
  | stuck => rw [e1] at o; exact o
  | exc x ρ1 => rw [e1] at o; exact o
  | ok ds ρ1 =>
    simp only [e1, ret] at o
    exact fun J Z1 H1 S1 st er1 wk => ⟨Z1, ds, wk, fun J2 w2 => o J2 Z1 H1 S1 st er1 w2⟩
theorem I_enum {p tpos : Pos} {elts : List Expr} {kk : Nat} (hm : X.mg "enumerate" = none) (h : PE X e (tE X.K X.mg W fa)) (hg : Gl X "enumerate" := by rfl) (hs : starEach [e] X.env = [(false, eval e X.env)] := by rfl) :
    PI X (.Tuple elts kk tpos) (.Call (.Name "enumerate" p) [e] [] pos) (tI X.K X.mg W (srcEnum fa)) :=
  PI.of (pi_enum hg hm (pa_cons h pa_nil hs) hs) fun σ H R q => by
    have q1 := srcSeq_of (tI_enum q) (.inl rfl)
    refine tE_mono (fun x H1 q2 => ?_) q1
    obtain ⟨a, rfl, Z', ys, ds, sm, c, rl, k⟩ := q2
    obtain ⟨Z1, ds1, wk, f⟩ := k _ (walk_lst' (SqL.of c) rl)
    exact ⟨a, ys, rfl, Same.seq sm (SqL.of c), f _ (walk_enum wk)⟩
end
end Pm
/-! PmZe: zip of two lists, of two tuples. -/
namespace Pm
open PySem PySem.Spec PyProof.Rows L2
section
variable {K : PySem.W.Frag} {mg : Str → Option Value} {W : WX} {Z Z' H H' : Hp} {S S' : Fp} {σ : Sl} {X : Cx} {a b c e e2 o : Expr} {pos : Pos} {fa fb fc : M EV}
def zipD : List D → List D → List D
  | d :: ds, e :: es => .tup [d, e] :: zipD ds es
  | _, _ => []
theorem zipD_length : ∀ ds es : List D, (zipD ds es).length = min ds.length es.length
  | [], es => by simp [zipD]
  | d :: ds, [] => by simp [zipD]
  | d :: ds, e :: es => by rw [zipD, List.length_cons, zipD_length ds es, List.length_cons, List.length_cons]; omega
theorem zipD_get : ∀ (ds es : List D) (i : Nat) (x : D), (zipD ds es)[i]? = some x → ∃ d e, ds[i]? = some d ∧ es[i]? = some e ∧ x = .tup [d, e]
  | [], _, _, _, h => by simp [zipD] at h
  | _ :: _, [], _, _, h => by simp [zipD] at h
  | d :: ds, e :: es, 0, x, h => by
    simp only [zipD, List.getElem?_cons_zero, Option.some.injEq] at h
    exact ⟨d, e, rfl, rfl, h.symm⟩
  | d :: ds, e :: es, i + 1, x, h => by
    simp only [zipD, List.getElem?_cons_succ] at h
    obtain ⟨d', e', h1, h2, h3⟩ := zipD_get ds es i x h
    exact ⟨d', e', by simpa using h1, by simpa using h2, h3⟩
theorem WalkR.more {J : It} {ds : List D} (h : WalkR K J Z ds) (s : Same Z Z') : WalkR K J Z' ds := fun Z1 H1 z1 z2 => h Z1 H1 (s.trans z1) z2
def srcZip (k : Kd) (f g : M EV) : M (List D) := bnd (srcSeq f k) fun ds => bnd (srcSeq g k) fun es => ret (zipD ds es)
theorem tI_zip {k : Kd} {R : It → Hp → Prop} (h : tI K mg W (srcZip k fa fb) σ H R) : tI K mg W (srcSeq fa k) σ H fun J H1 => ∃ ds, tI K mg W (srcSeq fb k) σ H1 fun J2 H2 => ∃ Z2 es, Same Z2 H2 ∧ WalkR K J Z2 ds ∧ WalkR K J2 Z2 es ∧ ∀ J3, WalkR K J3 Z2 (zipD ds es) → R J3 H2 := by
  obtain ⟨Z, ρ, S, w, er, o⟩ := h
  refine ⟨Z, ρ, S, w, er, ?_⟩
  simp only [srcZip, bnd] at o
  cases e1 : srcSeq fa k ρ with
  | stuck => rw [e1] at o; exact o
  | exc x ρ1 => rw [e1] at o; exact o
  | ok ds ρ1 =>
    simp only [e1] at o
    intro J Z1 H1 S1 st1 er1 wk
    refine ⟨ds, Z1, ρ1, S1, st1.wd, er1, ?_⟩
    cases e2 : srcSeq fb k ρ1 with
    | stuck => simp only [e2] at o; exact o
    | exc x ρ2 => simp only [e2] at o; exact o.after st1
    | ok es ρ2 =>
      simp only [e2, ret] at o
      exact fun J2 Z2 H2 S2 st2 er2 wk2 => ⟨Z2, es, st2.wd.same, wk.more st2.zz, wk2, fun J3 w3 => o J3 Z2 H2 S2 (st1.trans st2) er2 w3⟩
theorem walk_zipL {p q : Addr} {ds es : List D} (h : WalkR K (Itl K p) Z ds) (h' : WalkR K (Itl K q) Z es) : WalkR K (Itz K p q) Z (zipD ds es) := by
  intro Z' H' z1 z2
  obtain ⟨h1, h2⟩ := h Z' H' z1 z2
  obtain ⟨h3, h4⟩ := h' Z' H' z1 z2
  refine ⟨fun i hi => ?_, fun i d hd => ?_⟩
  · obtain ⟨xs, c1, l1⟩ := h1 (max i ds.length) (by omega)
    obtain ⟨ys, c2, l2⟩ := h3 (max i es.length) (by omega)
    rw [zipD_length] at hi
    by_cases hc : ds.length ≤ i
    · obtain ⟨xs, c1, l1⟩ := h1 i hc
      exact ⟨xs, ys, c1, c2, .inl l1⟩
    · obtain ⟨ys, c2, l2⟩ := h3 i (by omega)
      exact ⟨xs, ys, c1, c2, .inr l2⟩
  · obtain ⟨d1, e1, hd1, he1, rfl⟩ := zipD_get ds es i d hd
    obtain ⟨⟨xs, x, c1, g1⟩, y1⟩ := h2 i d1 hd1
    obtain ⟨⟨ys, y, c2, g2⟩, y2⟩ := h4 i e1 he1
    refine ⟨⟨xs, ys, x, y, c1, c2, g1, g2⟩, fun v H'' S' w hx => ?_⟩
    obtain ⟨T, u, v', rfl, nT, rfl, f1, f2⟩ := hx
    obtain ⟨Z2, st, sm, ru⟩ := y1 u H' S' w ⟨rfl, f1⟩
    obtain ⟨_, y2'⟩ := (h'.more (z1.trans st.zz)) Z2 H' (Same.refl Z2) st.wd.same
    obtain ⟨Z3, st', sm', rv⟩ := (y2' i e1 he1).2 v' H' S' st.wd ⟨rfl, f2⟩
    have st2 := Step.allocZ (o := .tup [u, v']) st'.wd nT
    refine ⟨_, (st.trans st').trans st2, fun a o e => by rw [upd_ne (ne_of_none e nT)]; exact e, T, [u, v'], rfl, SqT.of upd_same, Fp0, Fp0, fun _ x => x, fun _ x => x, fun _ x _ => x, ru.move (st'.zz.trans st2.zz) (fun _ _ x => x.elim) fun _ x => x, Fp0, Fp0, fun _ x => x, fun _ x => x, fun _ x _ => x, ?_, trivial⟩
    exact rv.move st2.zz (fun _ _ x => x.elim) fun _ x => x
theorem I_zipL {p tpos : Pos} {elts : List Expr} {kk : Nat} (hm : X.mg "zip" = none) (h : PE X e (tE X.K X.mg W fa)) (h2 : PE X e2 (tE X.K X.mg W fb)) (hg : Gl X "zip" := by rfl) (hs : starEach [e, e2] X.env = (false, eval e X.env) :: starEach [e2] X.env := by rfl) (hs2 : starEach [e2] X.env = (false, eval e2 X.env) :: starEach [] X.env := by rfl) (hpl : (backTo pos (starEach [e2] X.env)).any (·.1) = false := by rfl) :
    PI X (.Tuple elts kk tpos) (.Call (.Name "zip" p) [e, e2] [] pos) (tI X.K X.mg W (srcZip .lst fa fb)) :=
  PI.of (RZ.pi_zipA hg hm (pa_cons h (pa_cons h2 pa_nil hs2) hs) hs hpl) fun σ H R q => by
    have q1 := srcSeq_of (tI_zip q) (.inl rfl)
    refine tE_mono (fun x H1 q2 => ?_) q1
    obtain ⟨p1, rfl, Z1, ys1, ds1, sm1, c, rl, k1⟩ := q2
    obtain ⟨ds, q3⟩ := k1 _ (walk_lst' (SqL.of c) rl)
    refine tE_mono (fun y H2 q4 => ?_) (srcSeq_of q3 (.inl rfl))
    obtain ⟨p2, rfl, Z2, ys2, es2, sm2, c, rl, k2⟩ := q4
    obtain ⟨Z3, es, sm3, wk1, wk2, f⟩ := k2 _ (walk_lst' (SqL.of c) rl)
    obtain ⟨xs, cx, _⟩ := (wk1 Z3 H2 (Same.refl Z3) sm3).1 ds.length (Nat.le_refl _)
    obtain ⟨zs, cz, _⟩ := (wk2 Z3 H2 (Same.refl Z3) sm3).1 es.length (Nat.le_refl _)
    exact ⟨p1, p2, xs, zs, rfl, .inl ⟨cx, cz, f _ (walk_zipL wk1 wk2)⟩⟩
theorem walk_zipT {p q : Addr} {ds es : List D} (h : WalkR K (Itt K p) Z ds) (h' : WalkR K (Itt K q) Z es) : WalkR K (RZ.ItzT K p q) Z (zipD ds es) := by
  intro Z' H' z1 z2
  obtain ⟨h1, h2⟩ := h Z' H' z1 z2
  obtain ⟨h3, h4⟩ := h' Z' H' z1 z2
  refine ⟨fun i hi => ?_, fun i d hd => ?_⟩
  · obtain ⟨xs, c1, l1⟩ := h1 (max i ds.length) (by omega)
    obtain ⟨ys, c2, l2⟩ := h3 (max i es.length) (by omega)
    rw [zipD_length] at hi
    by_cases hc : ds.length ≤ i
    · obtain ⟨xs, c1, l1⟩ := h1 i hc
      exact ⟨xs, ys, c1, c2, .inl l1⟩
    · obtain ⟨ys, c2, l2⟩ := h3 i (by omega)
      exact ⟨xs, ys, c1, c2, .inr l2⟩
  · obtain ⟨d1, e1, hd1, he1, rfl⟩ := zipD_get ds es i d hd
    obtain ⟨⟨xs, x, c1, g1⟩, y1⟩ := h2 i d1 hd1
    obtain ⟨⟨ys, y, c2, g2⟩, y2⟩ := h4 i e1 he1
    refine ⟨⟨xs, ys, x, y, c1, c2, g1, g2⟩, fun v H'' S' w hx => ?_⟩
    obtain ⟨T, u, v', rfl, nT, rfl, f1, f2⟩ := hx
    obtain ⟨Z2, st, sm, ru⟩ := y1 u H' S' w ⟨rfl, f1⟩
    obtain ⟨_, y2'⟩ := (h'.more (z1.trans st.zz)) Z2 H' (Same.refl Z2) st.wd.same
    obtain ⟨Z3, st', sm', rv⟩ := (y2' i e1 he1).2 v' H' S' st.wd ⟨rfl, f2⟩
    have st2 := Step.allocZ (o := .tup [u, v']) st'.wd nT
    refine ⟨_, (st.trans st').trans st2, fun a o e => by rw [upd_ne (ne_of_none e nT)]; exact e, T, [u, v'], rfl, SqT.of upd_same, Fp0, Fp0, fun _ x => x, fun _ x => x, fun _ x _ => x, ru.move (st'.zz.trans st2.zz) (fun _ _ x => x.elim) fun _ x => x, Fp0, Fp0, fun _ x => x, fun _ x => x, fun _ x _ => x, ?_, trivial⟩
    exact rv.move st2.zz (fun _ _ x => x.elim) fun _ x => x
theorem I_zipT {p tpos : Pos} {elts : List Expr} {kk : Nat} (hm : X.mg "zip" = none) (h : PE X e (tE X.K X.mg W fa)) (h2 : PE X e2 (tE X.K X.mg W fb)) (hg : Gl X "zip" := by rfl) (hs : starEach [e, e2] X.env = (false, eval e X.env) :: starEach [e2] X.env := by rfl) (hs2 : starEach [e2] X.env = (false, eval e2 X.env) :: starEach [] X.env := by rfl) (hpl : (backTo pos (starEach [e2] X.env)).any (·.1) = false := by rfl) :
    PI X (.Tuple elts kk tpos) (.Call (.Name "zip" p) [e, e2] [] pos) (tI X.K X.mg W (srcZip .tup fa fb)) :=
  PI.of (RZ.pi_zipA hg hm (pa_cons h (pa_cons h2 pa_nil hs2) hs) hs hpl) fun σ H R q => by
    have q1 := srcSeq_of (tI_zip q) (.inr rfl)
    refine tE_mono (fun x H1 q2 => ?_) q1
    obtain ⟨p1, rfl, Z1, ys1, ds1, sm1, c, rl, k1⟩ := q2
    obtain ⟨ds, q3⟩ := k1 _ (walk_tup c rl)
    refine tE_mono (fun y H2 q4 => ?_) (srcSeq_of q3 (.inr rfl))
    obtain ⟨p2, rfl, Z2, ys2, es2, sm2, c, rl, k2⟩ := q4
    obtain ⟨Z3, es, sm3, wk1, wk2, f⟩ := k2 _ (walk_tup c rl)
    obtain ⟨xs, cx, _⟩ := (wk1 Z3 H2 (Same.refl Z3) sm3).1 ds.length (Nat.le_refl _)
    obtain ⟨zs, cz, _⟩ := (wk2 Z3 H2 (Same.refl Z3) sm3).1 es.length (Nat.le_refl _)
    exact ⟨p1, p2, xs, zs, rfl, .inr ⟨cx, cz, f _ (walk_zipT wk1 wk2)⟩⟩
end
end Pm
/-! PmZf: several targets, defs that call themselves. -/
namespace Pm
open PySem PySem.Spec PyProof.Rows L2
section
variable {K : PySem.W.Frag} {mg : Str → Option Value} {W : WX} {Z Z' H H' : Hp} {S S' : Fp} {σ : Sl} {X : Cx} {A : Nat → Bool} {a b c e e2 o : Expr} {pos : Pos} {fa fb fc : M EV} {f : M EV} {g1 g2 g3 : Tg}
/-- the same plain thing to two, to three targets -/
def asg2 (f : M EV) (g1 g2 : Tg) : M Fl := bnd f fun e => bnd (use1 e) fun d => fun ρ => if d.plain = true then (match g1 d ρ with
  | .ok _ ρ1 => match g2 d ρ1 with
    | .ok _ ρ2 => .ok .nx ρ2
    | _ => .stuck
  | _ => .stuck) else .stuck
def asg3 (f : M EV) (g1 g2 g3 : Tg) : M Fl := bnd f fun e => bnd (use1 e) fun d => fun ρ => if d.plain = true then (match g1 d ρ with
  | .ok _ ρ1 => match g2 d ρ1 with
    | .ok _ ρ2 => match g3 d ρ2 with
      | .ok _ ρ3 => .ok .nx ρ3
      | _ => .stuck
    | _ => .stuck
  | _ => .stuck) else .stuck
theorem tS_asg2 {D : Ends} (h : tS K mg W A (asg2 f g1 g2) D σ H) : tAsg2 (tE K mg W f) (tG K A g1) (tG K A g2) D σ H := by
  obtain ⟨Z, ρ, S, w, er, o⟩ := h
  refine keep_of w er o fun v d ρ1 Z1 H1 S1 Sd st dj er1 r1 o1 => ?_
  by_cases hp : d.plain = true
  · simp only [if_pos hp] at o1
    refine ⟨Z1, ρ1, S1, Sd, d, st.wd, dj, er1, r1, ?_⟩
    cases e1 : g1 d ρ1 with
    | stuck => simp only [e1] at o1; exact o1
    | exc x ρ2 => simp only [e1] at o1; exact o1.elim
    | ok u ρ2 =>
      simp only [e1] at o1
      intro σ2 Z2 H2 S2 kp2 st2 er2
      refine ⟨Z2, ρ2, S2, Fp0, d, st2.wd.less fun a x => x.elim id False.elim, fun _ _ x => x, er2, (Rep.plain (H' := H2) r1 hp).move st2.zz (fun _ _ x => x.elim) fun _ x => x, ?_⟩
      cases e2 : g2 d ρ2 with
      | stuck => simp only [e2] at o1; exact o1
      | exc x ρ3 => simp only [e2] at o1; exact o1.elim
      | ok u ρ3 =>
        simp only [e2] at o1
        intro σ3 Z3 H3 S3 kp3 st3 er3
        have st3' : Step Z2 H2 S2 Z3 H3 S3 := ⟨st3.wd, st3.zz, fun a o n e => st3.fr a o (fun x => x.elim n False.elim) e, fun a x => (st3.new a x).elim (fun y => y.elim .inl False.elim) .inr, fun a o e => (st3.znew a o e).elim .inl fun y => y.elim (fun z => z.elim (fun q => .inr (.inl q)) False.elim) fun q => .inr (.inr q)⟩
        exact o1 σ3 .non Z3 H3 S3 Fp0 (kp2.trans kp3) ((st.trans (st2.trans st3')).less fun a x => x.elim id False.elim) (fun _ _ x => x) er3 trivial
  · simp only [if_neg hp] at o1
    exact o1.elim
theorem tS_asg3 {D : Ends} (h : tS K mg W A (asg3 f g1 g2 g3) D σ H) : tAsg3 (tE K mg W f) (tG K A g1) (tG K A g2) (tG K A g3) D σ H := by
  obtain ⟨Z, ρ, S, w, er, o⟩ := h
  refine keep_of w er o fun v d ρ1 Z1 H1 S1 Sd st dj er1 r1 o1 => ?_
  by_cases hp : d.plain = true
  · simp only [if_pos hp] at o1
    refine ⟨Z1, ρ1, S1, Sd, d, st.wd, dj, er1, r1, ?_⟩
    have nar : ∀ {Z2 H2 Z3 H3 : Hp} {S2 S3 : Fp}, Step Z2 H2 (fun a => S2 a ∨ Fp0 a) Z3 H3 S3 → Step Z2 H2 S2 Z3 H3 S3 := fun st3 => ⟨st3.wd, st3.zz, fun a o n e => st3.fr a o (fun x => x.elim n False.elim) e, fun a x => (st3.new a x).elim (fun y => y.elim .inl False.elim) .inr, fun a o e => (st3.znew a o e).elim .inl fun y => y.elim (fun z => z.elim (fun q => .inr (.inl q)) False.elim) fun q => .inr (.inr q)⟩
    cases e1 : g1 d ρ1 with
    | stuck => simp only [e1] at o1; exact o1
    | exc x ρ2 => simp only [e1] at o1; exact o1.elim
    | ok u ρ2 =>
      simp only [e1] at o1
      intro σ2 Z2 H2 S2 kp2 st2 er2
      have r2 : Rep K Z2 H2 d v Fp0 := (Rep.plain (H' := H2) r1 hp).move st2.zz (fun _ _ x => x.elim) fun _ x => x
      refine ⟨Z2, ρ2, S2, Fp0, d, st2.wd.less fun a x => x.elim id False.elim, fun _ _ x => x, er2, r2, ?_⟩
      cases e2 : g2 d ρ2 with
      | stuck => simp only [e2] at o1; exact o1
      | exc x ρ3 => simp only [e2] at o1; exact o1.elim
      | ok u ρ3 =>
        simp only [e2] at o1
        intro σ3 Z3 H3 S3 kp3 st3 er3
        refine ⟨Z3, ρ3, S3, Fp0, d, st3.wd.less fun a x => x.elim id False.elim, fun _ _ x => x, er3, (Rep.plain (H' := H3) r2 hp).move st3.zz (fun _ _ x => x.elim) fun _ x => x, ?_⟩
        cases e3 : g3 d ρ3 with
        | stuck => simp only [e3] at o1; exact o1
        | exc x ρ4 => simp only [e3] at o1; exact o1.elim
        | ok u ρ4 =>
          simp only [e3] at o1
          intro σ4 Z4 H4 S4 kp4 st4 er4
          exact o1 σ4 .non Z4 H4 S4 Fp0 ((kp2.trans kp3).trans kp4) ((st.trans (st2.trans ((nar st3).trans (nar st4)))).less fun a x => x.elim id False.elim) (fun _ _ x => x) er4 trivial
  · simp only [if_neg hp] at o1
    exact o1.elim
theorem S_as2 {t1 t2 : Expr} (he : PE X e (tE X.K X.mg W f)) (h1 : PG X t1 (tG X.K A g1)) (h2 : PG X t2 (tG X.K A g2)) (ha : (assignEach [t1, t2] X.env).map (·.2) = [assign t1 X.env, assign t2 X.env] := by rfl) (hw : swappedStores [t1, t2] e X.env = pure none := by rfl) :
    PS X (.Assign [t1, t2] e pos) (tS X.K X.mg W A (asg2 f g1 g2)) := PS.of (ps_asg2 he h1 h2 ha hw) fun _ _ _ q => tS_asg2 q
theorem S_as3 {t1 t2 t3 : Expr} (he : PE X e (tE X.K X.mg W f)) (h1 : PG X t1 (tG X.K A g1)) (h2 : PG X t2 (tG X.K A g2)) (h3 : PG X t3 (tG X.K A g3)) (ha : (assignEach [t1, t2, t3] X.env).map (·.2) = [assign t1 X.env, assign t2 X.env, assign t3 X.env] := by rfl) (hw : swappedStores [t1, t2, t3] e X.env = pure none := by rfl) :
    PS X (.Assign [t1, t2, t3] e pos) (tS X.K X.mg W A (asg3 f g1 g2 g3)) := PS.of (ps_asg3 he h1 h2 h3 ha hw) fun _ _ _ q => tS_asg3 q
end
section
variable {P : Program} {w : World} {K : PySem.W.Frag} {mg : Str → Option Value} {base : Heap}
/-- of a def of which nothing is known nothing is told -/
theorem fnG_stuck {k : Nat} {f : Addr} {fd : FuncData} {ps : List Str} : FnG P w K mg base k f fd ps (fun _ => .stuck) :=
  ⟨fun _ h => absurd rfl h, fun _ _ _ _ _ _ _ _ _ _ _ _ _ _ h => by
    obtain ⟨_, _, _, _, _, o⟩ := h
    exact o.elim⟩
end
end Pm
/-! PmZg: str() of whole numbers. -/
namespace Pm
open PySem PySem.Spec PyProof.Rows L2
section
variable {K : PySem.W.Frag} {mg : Str → Option Value} {W : WX} {Z H : Hp} {S : Fp} {σ : Sl} {X : Cx}
def opStrI : List D → Option D
  | [.int i] => if i.natAbs.log2 < 1920 then some (.str (toString i)) else none
  | _ => none
theorem snd_strI : Snd X (fun xs H Q => ∃ i : Int, xs = [.int i] ∧ i.natAbs.log2 < 1920 ∧ Q (.str (toString i)) H) opStrI := by
  refine snd_pure fun Z H S ds vs d Q w rb e k => ?_
  unfold opStrI at e
  split at e
  · split at e
    · rename_i i c
      obtain ⟨v, rfl, rv⟩ := rb1 rb
      obtain rfl : v = .int i := rv
      cases e
      exact ⟨i, rfl, c, k _ rfl⟩
    · cases e
  · cases e
end
end Pm
/-! PmZh: list.extend. -/
namespace Pm
open PySem PySem.Spec PyProof.Rows L2
section
variable {K : PySem.W.Frag} {mg : Str → Option Value} {W : WX} {Z H : Hp} {S : Fp} {σ : Sl} {X : Cx} {e : Expr} {fa fe : M EV}
theorem push_items {j : Nat} {xs : List D} {ρ : Env} {ds : List D} {vs : List V} (w : Wd Z H S) (er : EnvR K Z H ρ σ S) (e : ρ.getD j none = some (.node true .lst xs)) (rv : RepL K Z H ds vs Fp0) :
    ∃ p ys, σ[j]? = some (some (.ref p)) ∧ H p = some (.lst ys) ∧ ys.length = xs.length ∧ ∃ S', (∀ a, S' a → S a) ∧ S p ∧ EnvR K Z (upd H p (.lst (ys ++ vs))) (ρ.set j (some (.node true .lst (xs ++ ds)))) σ S' := by
  obtain ⟨u, U1, U2, hv, u1, u2, uj, ru, eu⟩ := er.take (getD_some e)
  obtain ⟨p, ys, U', rfl, c, sa, na, sub, rl⟩ := ru
  obtain ⟨hj, ej⟩ := List.getElem?_eq_some_iff.mp hv
  have es : σ.set j (some (.ref p)) = σ := by rw [← ej, List.set_getElem_self]
  have hl : j < ρ.length := by rw [er.length]; exact hj
  have keep : ∀ {B : Fp}, (∀ a, B a → a = p → False) → ∀ a o, B a → H a = some o → upd H p (.lst (ys ++ vs)) a = some o := fun {B} n a o b q => by rw [upd_ne fun z => n a b z]; exact q
  have n1 : ∀ a, U' a → a = p → False := fun a x y => na (by rw [← y]; exact x)
  have pl : RepL K Z (upd H p (.lst (ys ++ vs))) (xs ++ ds) (ys ++ vs) U' := RepL.append (rl.move (Same.refl Z) (keep n1) fun _ x => x) (rv.move (Same.refl Z) (fun _ _ x => x.elim) fun _ x => x) (fun _ x => x) (fun _ x => x.elim) fun _ _ x => x
  have rn : Rep K Z (upd H p (.lst (ys ++ vs))) (.node true .lst (xs ++ ds)) (.ref p) (fun a => a = p ∨ U' a) := ⟨p, ys ++ vs, U', rfl, upd_same, .inl rfl, fun x => n1 p x rfl, fun _ x => .inr x, pl⟩
  have q := EnvR.put (S := fun a => (a = p ∨ U' a) ∨ U2 a) (eu.move (Same.refl Z) (keep fun a x y => uj p sa (by rw [← y]; exact x)) fun _ x => x) hl rn (fun _ x => .inl x) (fun _ x => .inr x) fun a x y => by
    rcases x with x | x
    · exact uj p sa (by rw [← x]; exact y)
    · exact uj a (sub a x) y
  rw [es] at q
  refine ⟨p, ys, hv, c, rl.length.symm, _, fun a x => ?_, u1 p sa, q⟩
  rcases x with (x | x) | x
  · rw [x]; exact u1 p sa
  · exact u1 a (sub a x)
  · exact u2 a x
/-- x.extend(a list of plain things) of a slot's own list -/
def extd (j : Nat) (fe : M EV) : M EV := fun ρ0 => match ρ0.getD j none with
  | some (.node true .lst _) => bnd fe (fun ev => fun ρ => match ρ.getD j none, peek1 ρ ev with
    | some (.node true .lst xs), some (.node _ .lst ys) => if plainL ys = true ∧ xs.length + ys.length ≤ cap then .ok (.val .non) (ρ.set j (some (.node true .lst (xs ++ ys)))) else .stuck
    | _, _ => .stuck) ρ0
  | _ => .stuck
theorem tE_extd {j : Nat} {Q : VK} (h : tE K mg W (extd j fe) σ H Q) : tBM K "list" rExtend (tVar j) (tCons (tE K mg W fe) tNil) σ H Q := by
  obtain ⟨Z, ρ, S, w, er, o⟩ := h
  simp only [extd] at o
  split at o
  · rename_i xs0 h0
    obtain ⟨u, U1, U2, hv, u1, u2, uj, ru, eu⟩ := er.take (getD_some h0)
    obtain ⟨p0, ys0, U', rfl, c0, _⟩ := ru
    refine ⟨.ref p0, hv, .inl ⟨rfl, ys0, SqL.of c0⟩, Z, ρ, S, w, er, ?_⟩
    simp only [bnd] at o
    cases e1 : fe ρ with
    | stuck => rw [e1] at o; exact o
    | exc x ρ1 => rw [e1] at o; exact o
    | ok ev ρ1 =>
      simp only [e1] at o
      intro v Z1 H1 S1 Sa st1 dj1 er1 r1
      have t1 := st1.less (S2 := S1) fun a x => .inl x
      have o1 := OutE.after (K := K) (mg := mg) (W := W) (σ := σ) (Q := Q) t1 o
      split at o1
      · rename_i xs b ys hx hk
        split at o1
        · rename_i hc
          have rb := peek1_rep er1 r1 hk
          obtain ⟨b2, zs, rfl, cb, rl⟩ := rep_lst t1.wd.same rb
          obtain ⟨p, ws, hv2, hp, hl, S', m', sp, er'⟩ := push_items t1.wd er1 hx (rl.plain hc.1)
          rw [hv] at hv2
          cases hv2
          refine ⟨p0, b2, ws, zs, rfl, rfl, hp, cb, by rw [hl, ← rl.length]; exact cap_le hc.2, ?_⟩
          exact o1 .non Z1 _ S' Fp0 ((Step.write t1.wd sp).less fun a x => x.elim (m' a) False.elim) (fun _ _ x => x) er' rfl
        · exact o1.elim
      · exact o1.elim
  · exact o.elim
theorem E_ext {j : Nat} {x : Str} {p2 apos cpos : Pos} (he : PE X e (tE X.K X.mg W fe)) (hj : X.N[j]? = some x := by rfl) (hv : Vis X.env.scope x := by first | exact Or.inl rfl | exact Or.inr (Or.inl rfl) | exact Or.inr (Or.inr rfl)) (hd : (x == ("__debug__" : Str)) = false := by decide) (hcd : (x == ("__classdict__" : Str)) = false := by decide)
    (hbase : attributeBase (.Name x p2) "extend" X.env (eval (.Name x p2) X.env) = eval (.Name x p2) X.env := by rfl)
    (hfew : ((backTo cpos (starEach [e] X.env)).all (fun x => !x.1) && (backToKw cpos (keywordEach [] X.env)).all (fun x => x.1.isSome)
      && decide ([e].length + ([] : List Keyword).length + (if ([] : List Keyword).isEmpty then 0 else 1) < 30)) = true := by rfl)
    (hline : (apos.endLine == cpos.line) = true := by rfl) (hs : starEach [e] X.env = (false, eval e X.env) :: starEach [] X.env := by rfl) (hplain : (backTo cpos (starEach [] X.env)).any (·.1) = false := by rfl) :
    PE X (.Call (.Attribute (.Name x p2) "extend" apos) [e] [] cpos) (tE X.K X.mg W (extd j fe)) :=
  PE.of (pe_bm PySem.F.plainAttrs_list PySem.F.slot_list_extend PySem.F.type_list_extend mt_extend (pe_var hj hv hd hcd) (pa_cons he pa_nil hs) hbase hfew hline hs hplain) fun _ _ _ q => tE_extd q
end
end Pm
/-! PmZm: stars in displays, xs += ys, comparisons of texts and of tuples of numbers, repeated lists, constants of the module that are tuples, sorted(set(xs)). -/
namespace Pm
open PySem PySem.Spec PyProof.Rows L2 StX
section
variable {K : PySem.W.Frag} {mg : Str → Option Value} {W : WX} {Z Z' H H' : Hp} {S S' : Fp} {σ : Sl} {X : Cx} {A : Nat → Bool} {a b c e o : Expr} {es : List Expr} {pos p : Pos} {fa fb fc f : M EV} {fs : M (List EV)}
/-! ### *e in a display -/
def itemsP : D → Option (List D)
  | .node _ .lst xs => if plainL xs = true then some xs else none
  | .node _ .tup xs => if plainL xs = true then some xs else none
  | _ => none
def aStar (f : M EV) (fs : M (List EV)) : M (List EV) := bnd f fun e => fun ρ => match peek1 ρ e with
  | some d => match itemsP d with
    | some ds => bnd fs (fun es => ret (ds.map EV.val ++ es)) ρ
    | none => .stuck
  | none => .stuck
theorem evs_vals : ∀ {ds : List D} {vs ws : List V} {es : List EV} {Sb : Fp}, RepL K Z H ds vs Fp0 → EVsR K Z H σ es ws Sb → EVsR K Z H σ (ds.map EV.val ++ es) (vs ++ ws) Sb
  | [], [], _, _, _, _, h => h
  | [], _ :: _, _, _, _, h, _ => h.elim
  | _ :: _, [], _, _, _, h, _ => h.elim
  | d :: ds, v :: vs, ws, es, Sb, ⟨_, _, s1, s2, _, r, q⟩, h =>
    ⟨Fp0, Sb, fun _ x => x.elim, fun _ x => x, fun _ x _ => x, r.move (Same.refl Z) (fun _ _ _ x => x) s1, evs_vals (q.move (Same.refl Z) (fun _ _ _ x => x) s2) h⟩
theorem tA_star {Q : List V → Hp → Prop} (h : tA K mg W (aStar f fs) σ H Q) : tStar K (tE K mg W f) (tA K mg W fs) σ H Q := by
  obtain ⟨Z, ρ, S, w, er, o⟩ := h
  refine ⟨Z, ρ, S, w, er, ?_⟩
  simp only [aStar, bnd] at o
  cases e1 : f ρ with
  | stuck => rw [e1] at o; exact o
  | exc x ρ1 => rw [e1] at o; exact o
  | ok ev ρ1 =>
    simp only [e1] at o
    intro v Z1 H1 S1 Sa st1 dj1 er1 r1
    cases hp : peek1 ρ1 ev with
    | none => simp only [hp] at o; exact o.elim
    | some d =>
      cases hi : itemsP d with
      | none => simp only [hp, hi] at o; exact o.elim
      | some ds =>
        simp only [hp, hi] at o
        have rd := peek1_rep er1 r1 hp
        have hs : ∃ a ys, v = .ref a ∧ (SqT K H1 a ys ∨ SqL K H1 a ys) ∧ RepL K Z1 H1 ds ys Fp0 := by
          unfold itemsP at hi
          split at hi
          · split at hi
            · rename_i hpl
              cases hi
              obtain ⟨a, ys, rfl, c, rl⟩ := rep_lst st1.wd.same rd
              exact ⟨a, ys, rfl, .inr (SqL.of c), rl.plain hpl⟩
            · cases hi
          · split at hi
            · rename_i hpl
              cases hi
              obtain ⟨a, ys, rfl, c, rl⟩ := rep_tup st1.wd.same rd
              exact ⟨a, ys, rfl, .inl c, rl.plain hpl⟩
            · cases hi
          · cases hi
        obtain ⟨a, ys, rfl, sq, rl⟩ := hs
        have t1 := st1.less (S2 := S1) fun a x => .inl x
        refine ⟨a, ys, rfl, sq, Z1, ρ1, S1, t1.wd, er1, ?_⟩
        cases e2 : fs ρ1 with
        | stuck => simp only [e2] at o; exact o
        | exc x ρ2 => simp only [e2] at o; exact XOut.after t1 o
        | ok es ρ2 =>
          simp only [e2, ret] at o
          intro vs Z2 H2 S2 Sb st2 dj2 er2 r2
          exact o (ys ++ vs) Z2 H2 S2 Sb (t1.trans st2) dj2 er2 (evs_vals (rl.move st2.zz (fun _ _ x => x.elim) fun _ x => x) r2)
theorem A_s (he : PE X e (tE X.K X.mg W f)) (hr : PA X es (tA X.K X.mg W fs)) (hs : starEach (.Starred e p :: es) X.env = (true, eval e X.env) :: starEach es X.env := by rfl) : PA X (.Starred e p :: es) (tA X.K X.mg W (aStar f fs)) :=
  PA.of (pa_star he hr hs) fun _ _ _ q => tA_star q
/-! ### xs += ys -/
def augL (i : Nat) (f : M EV) : M Fl := fun ρ0 => match ρ0.getD i none with
  | some (.node true .lst _) => bnd f (fun ev => fun ρ => match ρ.getD i none, peek1 ρ ev with
    | some (.node true .lst xs), some (.node _ .lst ys) => if plainL ys = true ∧ xs.length + ys.length ≤ cap then .ok .nx (ρ.set i (some (.node true .lst (xs ++ ys)))) else .stuck
    | _, _ => .stuck) ρ0
  | _ => .stuck
theorem tS_augL {i : Nat} {D : Ends} (hA : A i = true) (h : tS K mg W A (augL i f) D σ H) : tAug i (tE K mg W f) rExt2 D σ H := by
  obtain ⟨Z, ρ, S, w, er, o⟩ := h
  simp only [augL] at o
  split at o
  · rename_i xs0 h0
    obtain ⟨u, U1, U2, hv, u1, u2, uj, ru, eu⟩ := er.take (getD_some h0)
    obtain ⟨p0, ys0, U', rfl, c0, _⟩ := ru
    refine ⟨.ref p0, hv, Z, ρ, S, w, er, ?_⟩
    simp only [bnd] at o
    cases e1 : f ρ with
    | stuck => rw [e1] at o; exact o
    | exc x ρ1 => rw [e1] at o; exact o σ (Keep.refl σ)
    | ok ev ρ1 =>
      simp only [e1] at o
      intro v Z1 H1 S1 Sa st1 dj1 er1 r1
      have t1 := st1.less (S2 := S1) fun a x => .inl x
      have o1 := OutS.after (K := K) (mg := mg) (W := W) (A := A) (σ := σ) (D := D) t1 o
      split at o1
      · rename_i xs b ys hx hk
        split at o1
        · rename_i hc
          have rb := peek1_rep er1 r1 hk
          obtain ⟨b2, zs, rfl, cb, rl⟩ := rep_lst t1.wd.same rb
          obtain ⟨p, ws, hv2, hp, hl, S', m', sp, er'⟩ := push_items t1.wd er1 hx (rl.plain hc.1)
          rw [hv] at hv2
          cases hv2
          refine ⟨p0, b2, ws, zs, rfl, rfl, hp, cb, by rw [hl, ← rl.length]; exact cap_le hc.2, ?_⟩
          have es : σ.set i (some (.ref p0)) = σ := by
            obtain ⟨hj, ej⟩ := List.getElem?_eq_some_iff.mp hv
            rw [← ej, List.set_getElem_self]
          show D.nx (σ.set i (some (.ref p0))) _
          rw [es]
          exact o1 σ .non Z1 _ S' Fp0 (Keep.refl σ) ((Step.write t1.wd sp).less fun a x => x.elim (m' a) False.elim) (fun _ _ x => x) er' trivial
        · exact o1.elim
      · exact o1.elim
  · exact o.elim
theorem pip_of {op : Operator} {r : R2} (ho : OpR X (inplaceOp op) r) : PIp X op r := fun pins s σ H x y u v Q I rx ry q => ho pins s σ H x y u v Q I rx ry q
theorem S_augL {i : Nat} {x : Str} {pos' : Pos} (he : PE X e (tE X.K X.mg W f)) (hN : X.N.Nodup) (hA : A i = true := by rfl) (hi : X.N[i]? = some x := by rfl) (hx : Loc X.env.scope x := by first | exact .inl rfl | exact .inr rfl)
    (hf : X.fn x = true ∨ X.env.scope.names.lookup x = some .local := by first | exact .inl rfl | exact .inr rfl) : PS X (.AugAssign (.Name x pos') .Add e pos) (tS X.K X.mg W A (augL i f)) := PS.of (ps_aug hN hi hx he (pip_of iop_ext) hf) fun _ _ _ q => tS_augL hA q
/-! ### comparisons of texts, of tuples of numbers -/
def onS2 (g : Str → Str → Bool) : List D → Option D
  | [.str a, .str b] => some (.bl (g a b))
  | _ => none
theorem opd_S2 {fo : Value → Value → Sem Value} {g : Str → Str → Bool} (ho : OpR X fo (fun x y H Q => ∃ i j, x = .str i ∧ y = .str j ∧ Q (.bl (g i j)) H)) : Opd X fo (onS2 g) := by
  refine ⟨_, ho, snd_pure fun Z H S ds vs d Q w rb e k => ?_⟩
  unfold onS2 at e
  split at e
  · rename_i a b
    obtain ⟨v, u, rfl, rv, ru⟩ := rb2 rb
    obtain rfl : v = .str a := rv
    obtain rfl : u = .str b := ru
    cases e
    exact ⟨_, _, rfl, a, b, rfl, rfl, k _ rfl⟩
  · cases e
def ltS (a b : Str) : Bool := decide (a.cps.toList < b.cps.toList)
def opLtT : List D → Option D
  | [.node _ .tup xs, .node _ .tup ys] => match intsD xs, intsD ys with
    | some ns, some ms => some (.bl (HT.lexLt ns ms))
    | _, _ => none
  | _ => none
theorem opd_ltT (hu : X.A.units + 64 < cLine) : Opd X (compareOp .Lt) opLtT := by
  refine ⟨_, op_ltT (by omega), snd_pure fun Z H S ds vs d Q w rb e k => ?_⟩
  unfold opLtT at e
  split at e
  · split at e
    · rename_i ns ms h1 h2
      obtain ⟨v, u, rfl, rv, ru⟩ := rb2 rb
      obtain ⟨a, ys, rfl, c, rl⟩ := rep_tup w.same rv
      obtain ⟨b, zs, rfl, c2, rl2⟩ := rep_tup w.same ru
      rw [intsD_inv h1] at rl
      rw [intsD_inv h2] at rl2
      have e1 := reps_intsV rl
      have e2 := reps_intsV rl2
      subst e1
      subst e2
      cases e
      exact ⟨_, _, rfl, a, b, ns, ms, rfl, rfl, c, c2, k _ rfl⟩
    · cases e
  · cases e
/-- < of all kinds -/
def opLtA : List D → Option D
  | [.int i, .int j] => on2I iLt [.int i, .int j]
  | [.str i, .str j] => onS2 ltS [.str i, .str j]
  | ds => opLtT ds
theorem opd_ltA (hu : X.A.units + 64 < cLine) : Opd X (compareOp .Lt) opLtA := by
  refine Opd.or (g1 := on2I iLt) (g2 := fun ds => match onS2 ltS ds with | some d => some d | none => opLtT ds) opd_ltI (Opd.or (opd_S2 op_lt_str) (opd_ltT hu) fun ds d h => ?_) fun ds d h => ?_
  · cases e : onS2 ltS ds with
    | some d' => simp only [e] at h; exact .inl (show onS2 ltS ds = some d by rw [e]; exact h)
    | none => simp only [e] at h; exact .inr h
  · unfold opLtA at h
    split at h
    · exact .inl h
    · exact .inr (by simp only [h])
    · refine .inr ?_
      rename_i n1 n2
      have e : onS2 ltS ds = none := by
        unfold onS2
        split
        · first
            | exact (n2 _ _ rfl).elim
            | exact (n1 _ _ rfl).elim
        · rfl
      simp only [e]
      exact h
def orS (g : Int → Int → Option D) (q : Str → Str → Bool) : List D → Option D
  | [.str i, .str j] => onS2 q [.str i, .str j]
  | ds => on2I g ds
theorem opd_orS {fo : Value → Value → Sem Value} {g : Int → Int → Option D} {q : Str → Str → Bool} (h1 : Opd X fo (on2I g)) (h2 : Opd X fo (onS2 q)) : Opd X fo (orS g q) := Opd.or h1 h2 fun ds d h => by
  unfold orS at h
  split at h
  · exact .inr h
  · exact .inl h
abbrev opLeA : List D → Option D := orS iLe fun a b => !decide (b.cps.toList < a.cps.toList)
abbrev opGtA : List D → Option D := orS iGt fun a b => decide (b.cps.toList < a.cps.toList)
abbrev opGeA : List D → Option D := orS iGe fun a b => !decide (a.cps.toList < b.cps.toList)
theorem opd_leA : Opd X (compareOp .LtE) opLeA := opd_orS opd_leI (opd_S2 op_le_str)
theorem opd_gtA : Opd X (compareOp .Gt) opGtA := opd_orS opd_gtI (opd_S2 op_gt_str)
theorem opd_geA : Opd X (compareOp .GtE) opGeA := opd_orS opd_geI (opd_S2 op_ge_str)
/-! ### a constant of the module that is a tuple -/
theorem E_gt {x : Str} {d : D} {q : Addr} (hm : X.mg x = some (.ref q)) (hr : ∀ Z H : Hp, Rep X.K Z H d (.ref q) Fp0) (hg : Gl X x := by rfl) (hd : (x == ("__debug__" : Str)) = false := by decide) : PE X (.Name x pos) (tE X.K X.mg W (con d)) :=
  ⟨fun _ _ _ H _ I h => ld_glob I hg hm ⟨.ref q, H, I, rfl, tE_con (d := d) hr h⟩ hd⟩
theorem rep_cT {q : Addr} {dd : Option Addr} {n : Nat} {sl : Array (Option Value)} {its : List Value} {ds : List D} {vs : List V} (l : K.lookup q = some ⟨.type "tuple", dd, .seq its.toArray n, sl⟩) (r : Vals vs its) (hl : its.length ≤ 1000) (h : ∀ Z H : Hp, RepL K Z H ds vs Fp0) (Z H : Hp) : Rep K Z H (.tup ds) (.ref q) Fp0 :=
  ⟨q, vs, rfl, .inr ⟨_, its.toArray, n, l, rfl, rfl, by rw [List.size_toArray, sizeLine_eq]; omega, r⟩, h Z H⟩
theorem repL_0 (Z H : Hp) : RepL K Z H [] [] Fp0 := trivial
theorem repL_c {d : D} {v : V} {ds : List D} {vs : List V} (h1 : ∀ Z H : Hp, Rep K Z H d v Fp0) (h2 : ∀ Z H : Hp, RepL K Z H ds vs Fp0) (Z H : Hp) : RepL K Z H (d :: ds) (v :: vs) Fp0 := ⟨Fp0, Fp0, fun _ x => x, fun _ x => x, fun _ x _ => x, h1 Z H, h2 Z H⟩
theorem rep_cI (i : Int) (Z H : Hp) : Rep K Z H (.int i) (.int i) Fp0 := rfl
theorem rep_cS (x : Str) (Z H : Hp) : Rep K Z H (.str x) (.str x) Fp0 := rfl
/-! ### xs * k -/
def opRepL : List D → Option D
  | [.node true .lst xs, .int k] => if plainL xs = true ∧ -(2 ^ 63) ≤ k ∧ k < 2 ^ 63 ∧ xs.length * k.toNat ≤ cap then some (.lst true (List.replicate k.toNat xs).flatten) else none
  | _ => none
theorem reps_rep {ds : List D} {vs : List V} (r : RepL K Z H ds vs Fp0) : ∀ n : Nat, RepL K Z H (List.replicate n ds).flatten (List.replicate n vs).flatten Fp0
  | 0 => trivial
  | n + 1 => by
    rw [List.replicate_succ, List.replicate_succ, List.flatten_cons, List.flatten_cons]
    exact r.joinP (reps_rep r n)
theorem opd_repL : Opd X (binaryOp .Mult) opRepL := by
  refine ⟨_, op_rep, fun Z H S ds vs d Q w rb e k => ?_⟩
  unfold opRepL at e
  split at e
  · split at e
    · rename_i xs n hp
      obtain ⟨v, u, rfl, rv, ru⟩ := rb2 rb
      obtain ⟨a, ys, S', rfl, c, sa, na, sub, rl⟩ := rv
      obtain rfl : u = .int n := ru
      cases e
      refine ⟨_, _, rfl, a, n, ys, rfl, rfl, c, hp.2.1, hp.2.2.1, by rw [← rl.length]; exact cap_le hp.2.2.2, fun p np => ?_⟩
      obtain ⟨f1, f2, f3, f4⟩ := fresh_lst w np (reps_rep (rl.plain (H' := H) hp.1) n.toNat)
      exact k _ _ _ _ f1 f2 f3 f4
    · cases e
  · cases e
/-- everything that is multiplied -/
def hMul : List D → Option D
  | [.node o .lst xs, .int k] => opRepL [.node o .lst xs, .int k]
  | ds => gMul ds
theorem opd_hMul : Opd X (binaryOp .Mult) hMul := Opd.or opd_gMul opd_repL fun ds d h => by
  unfold hMul at h
  split at h
  · exact .inr h
  · exact .inl h
end
end Pm
/-! PmZi: what is never reached; [::-1]; dicts that are written and shown. -/
namespace Pm
open PySem PySem.Spec PyProof.Rows L2
section
variable {K : PySem.W.Frag} {mg : Str → Option Value} {W : WX} {Z Z' H H' : Hp} {S S' : Fp} {σ : Sl} {X : Cx} {A : Nat → Bool} {a b c e o : Expr} {pos : Pos} {fa fb fc f : M EV} {st : Stmt}
/-- a statement that is never reached -/
def nvr : M Fl := fun _ => .stuck
theorem S_never : PS X st (tS X.K X.mg W A nvr) := PS.of ps_never fun _ _ _ q => by
  obtain ⟨_, _, _, _, _, o⟩ := q
  exact o
end
/-! ### x[::-1] -/
section
open HT
variable {prog : Program} {w : World} {A : Around} {E : Value → Shared → Prop} {s : Shared}
theorem adjust_rev (n : Nat) : Builtin.Slice.sliceAdjust none none (-1) (n : Int) = ((n : Int) - 1, -1) := by
  unfold Builtin.Slice.sliceAdjust
  simp
theorem places_rev (n : Nat) : Builtin.Slice.slicePlaces ((n : Int) - 1) (-1) (-1) = n := by
  unfold Builtin.Slice.slicePlaces
  simp only [show ¬ ((-1 : Int) > 0) by decide, if_false, show (-(-1) : Int) = 1 by decide, Int.ediv_one]
  split <;> omega
theorem sliceApplied_rev {sl : Addr} {vs : Value} {n : Nat} {Q : Int × Int × Nat → Shared → Prop} (hs : s.heap.IsSliceOf sl .none .none vs) (ps : IsPart vs (some (-1)))
    (h : Q ((n : Int) - 1, -1, n) s) : wpAny (model prog w) A (Builtin.Slice.sliceApplied (.ref sl) (pure (n : Int))) Q E s := by
  obtain ⟨os, hos, hcs, hds⟩ := id hs
  unfold Builtin.Slice.sliceApplied Builtin.Slice.sliceFields
  refine wpAny_bind (wpAny_bind (wpAny_field hos hds (x := .none) rfl (wpAny_bind (wpAny_field hos hds (x := .none) rfl (wpAny_bind (wpAny_field hos hds (x := vs) rfl (wpAny_pure ?_)))))))
  refine wpAny_bind (slicePart_ ps ?_)
  show wpAny _ _ (if ((-1 : Int) == 0) = true then _ else _) _ _ s
  rw [if_neg (by decide)]
  refine wpAny_bind (slicePart_none (wpAny_bind (slicePart_none (wpAny_bind (wpAny_pure ?_)))))
  show wpAny _ _ (match Builtin.Slice.sliceAdjust none none (-1) (n : Int) with | (lo, hi) => pure (lo, (-1 : Int), Builtin.Slice.slicePlaces lo hi (-1))) _ _ s
  rw [adjust_rev]
  show wpAny _ _ (pure ((n : Int) - 1, (-1 : Int), Builtin.Slice.slicePlaces ((n : Int) - 1) (-1) (-1))) _ _ s
  rw [places_rev]
  exact wpAny_pure h
theorem pick_rev (xs : Array Value) : ((List.range xs.size).filterMap fun (m : Nat) => xs[(((xs.size : Nat) : Int) - 1 + (m : Int) * (-1)).toNat]?).toArray = xs.toList.reverse.toArray := by
  have e : (List.range xs.size).filterMap (fun (m : Nat) => xs[(((xs.size : Nat) : Int) - 1 + (m : Int) * (-1)).toNat]?) = ((List.range xs.size).map fun k => xs.size - 1 - k).filterMap (xs[·]?) := by
    have h1 : (List.range xs.size).filterMap (fun (m : Nat) => xs[(((xs.size : Nat) : Int) - 1 + (m : Int) * (-1)).toNat]?) = ((List.range xs.size).map fun (m : Nat) => (((xs.size : Nat) : Int) - 1 + (m : Int) * (-1)).toNat).filterMap (xs[·]?) := by
      rw [List.filterMap_map]
      rfl
    rw [h1]
    congr 1
    refine List.map_congr_left fun m hm => ?_
    have := List.mem_range.mp hm
    omega
  rw [e, PySem.W.krv_range, List.filterMap_reverse, PySem.W.krv_all]
theorem getItem_tuple_rev {t sl : Addr} {items : Array Value} {vs : Value} {Q : Value → Shared → Prop} (ht : IsTup s.heap t items) (hs : s.heap.IsSliceOf sl .none .none vs) (ps : IsPart vs (some (-1)))
    (h : Q (.ref s.heap.objs.size) { s with heap := s.heap.push { cls := .type "tuple", data := .seq items.toList.reverse.toArray } })
    (hsz : items.size ≤ sizeLine) : wpAny (model prog w) A (getItem (.ref t) (.ref sl)) Q E s := by
  have htake : sizeOk (.seq items.toList.reverse.toArray) := by
    show (items.toList.reverse.toArray).size ≤ sizeLine
    rw [List.size_toArray, List.length_reverse, Array.length_toList]
    exact hsz
  obtain ⟨os, hos, hcs, hds⟩ := id hs
  have hTs : s.TypeIs (.ref sl) "slice" := ⟨os, hos, hcs⟩
  unfold getItem
  try with_reducible refine wpAny_holding ?_
  first | refine wpAny_bind (wpAny_pure ?_) | skip
  refine wpAny_bind (wpAny_sequenceKey ht.typeIs (by decide) ?_)
  refine wpAny_bind (wpAny_callSpecial?_slot (name := Str.ofString "__getitem__") ht.typeIs PyProof.Rows.slot_tuple_getitem
    (wpAny_call_entry PyProof.Rows.slot_tuple_getitem ht.typeIs entry_tuple_getitem ?_ (args_tuple_getitem _ _)))
  show wpAny _ _ (Builtin.Tuple.tupleItemsOf (.ref t) >>= _) _ _ s
  refine wpAny_bind (tupleItemsOf_ ht ?_)
  refine wpAny_bind (wpAny_typeOf hTs ?_)
  rw [if_pos (by decide)]
  refine wpAny_bind (sliceApplied_rev hs ps ?_)
  have hno : ¬ ((((items.size : Nat) : Int) - 1 == 0 && (-1 : Int) == 1 && items.size == items.size) = true) := by
    intro q
    rw [Bool.and_eq_true, Bool.and_eq_true] at q
    exact absurd q.1.2 (by decide)
  show wpAny _ _ (if ((((items.size : Nat) : Int) - 1 == 0 && (-1 : Int) == 1 && items.size == items.size) = true) then _ else _) _ _ s
  rw [if_neg hno, pick_rev]
  first
    | exact wpAny_bind (m := Builtin.Tuple.tupleExact _) (wpAny_newObj_type (wpAny_pure ⟨_, rfl, wpAny_pure h⟩) htake)
    | exact wpAny_bind (m := Builtin.Tuple.tupleExact _) (wpAny_newObj_type (wpAny_bind (wpAny_pure (wpAny_pure ⟨_, rfl, wpAny_pure h⟩))) htake)
    | exact wpAny_bind (wpAny_bind (m := Builtin.Tuple.tupleExact _) (wpAny_newObj_type (wpAny_pure (wpAny_pure ⟨_, rfl, wpAny_pure h⟩)) htake))
    | exact wpAny_bind (wpAny_bind (m := Builtin.Tuple.tupleExact _) (wpAny_newObj_type (wpAny_pure ⟨_, rfl, wpAny_pure h⟩) htake))
end
section
variable {K : PySem.W.Frag} {mg : Str → Option Value} {W : WX} {Z Z' H H' : Hp} {S S' : Fp} {σ : Sl} {X : Cx} {A : Nat → Bool} {a b c e o : Expr} {pos : Pos} {fa fb fc f : M EV}
/-- a text from its end -/
def revS (x : Str) : Str := ⟨x.cps.toList.reverse.toArray⟩
theorem revS_ix (x : Str) : Builtin.Str.strSliceIndices none none (-1) x.length = (List.range x.cps.size).reverse := by
  unfold Builtin.Str.strSliceIndices
  show sliceRange (if (-1 : Int) > 0 then 0 else (x.cps.size : Int) - 1) (if (-1 : Int) > 0 then (x.cps.size : Int) else -1) (-1) = _
  rw [if_neg (by decide), if_neg (by decide), PySem.W.krv_sliceRange, PySem.W.krv_range]
theorem revS_len (x : Str) : (revS x).length = x.length := by
  show (x.cps.toList.reverse.toArray).size = x.cps.size
  simp
def rRev (K : PySem.W.Frag) : V → Hp → VK → Prop := fun x H Q => (∃ a xs, x = .ref a ∧ SqL K H a xs ∧ ∀ p, H p = none → Q (.ref p) (upd H p (.lst xs.reverse))) ∨
  (∃ a xs, x = .ref a ∧ SqT K H a xs ∧ ∀ p, H p = none → Q (.ref p) (upd H p (.tup xs.reverse))) ∨ ∃ z, x = .str z ∧ z.length ≤ sizeLine ∧ Q (.str (revS z)) H
theorem pe_rev {te : TE} {k : Nat} {p1 p2 p3 : Pos} (he : PE X e te) : PE X (.Subscript e (.Slice none none (some (.UnaryOp .USub (.Constant (.int 1) k p1) p2)) p3) pos) (tUn (rRev X.K) te) := by
  refine ⟨fun pins s σ H Q I h => ?_⟩
  refine Subscript_ (thn (he.run pins s σ H _ I h) fun v s1 ⟨x, H1, I1, r1, q1⟩ => ?_)
  have hst : PO X (some (.UnaryOp .USub (.Constant (.int 1) k p1) p2)) (tPart (tUn (rU fun i => .int (-i)) (tC (.int 1)))) := po_some (pe_un un_neg pe_int)
  refine wpAny_Slice (thn (po_none.run pins s1 σ H1 (fun o H2 => o = none ∧ H2 = H1) I1 ⟨rfl, rfl⟩) fun vl s2 ⟨l, H2, I2, pl, el, e2⟩ => ?_)
  subst el e2
  refine thn (po_none.run pins s2 σ H2 (fun o H3 => o = none ∧ H3 = H2) I2 ⟨rfl, rfl⟩) fun vu s3 ⟨u, H3, I3, pu, eu, e3⟩ => ?_
  subst eu e3
  refine thn (hst.run pins s3 σ H3 (fun o H4 => o = some (-1) ∧ H4 = H3) I3 ⟨1, rfl, -1, rfl, rfl, rfl⟩) fun vs s4 ⟨o, H4, I4, ps, eo, e4⟩ => ?_
  subst eo e4
  have I5 : Inv X pins σ H4 { s4 with heap := s4.heap.push { cls := .type "slice", data := .fields #[vl, vu, vs] } } := I4.kept (t' := s4.toks) fun b ob q => Heap.get?_push_of_some _ q
  have q1 : rRev X.K x H4 Q := q1
  rcases q1 with ⟨a, xs, ex, hx, q⟩ | ⟨a, xs, ex, hx, q⟩ | ⟨z, ex, hz, q⟩
  · subst ex
    cases r1
    obtain ⟨its, r, ht, hz⟩ := I5.list hx
    have hlen := r.length
    show wpAny (model X.prog X.w) X.A (subscriptTail e (.Slice none none (some (.UnaryOp .USub (.Constant (.int 1) k p1) p2)) p3) (.ref a) (.ref s4.heap.objs.size)) (EP X pins σ Q) X.xe { s4 with heap := s4.heap.push { cls := .type "slice", data := .fields #[vl, vu, vs] } }
    refine tail_any (ops := [.ref a, .ref s4.heap.objs.size]) ht.isList.typeIs (PySem.slot_list_getitem.lookup) ?_ (by with_unfolding_all rfl)
    refine wpAny_getItem_list_slice ht.isList (Heap.IsSliceOf.new _ vl vu vs) pl pu ps (by decide) ?_ (by rw [List.size_toArray]; omega)
    rw [PySem.W.krv_pick]
    refine ⟨.ref _, _, I5.laid (t' := s4.toks) (o := .lst xs.reverse) (fun b ob q => Heap.get?_push_of_some _ q) (Nat.le_refl _) ?_, rfl, q _ (I5.hok.fresh (Nat.le_refl _))⟩
    exact ⟨by rw [List.length_reverse]; exact hz, _, 0, r.reverse, Heap.get?_push_size _ rfl⟩
  · subst ex
    cases r1
    cases pl
    cases pu
    obtain ⟨its, r, ht, hz⟩ := I5.tuple hx
    have hlen := r.length
    show wpAny (model X.prog X.w) X.A (subscriptTail e (.Slice none none (some (.UnaryOp .USub (.Constant (.int 1) k p1) p2)) p3) (.ref a) (.ref s4.heap.objs.size)) (EP X pins σ Q) X.xe { s4 with heap := s4.heap.push { cls := .type "slice", data := .fields #[.none, .none, vs] } }
    refine tail_any (ops := [.ref a, .ref s4.heap.objs.size]) ht.typeIs (PyProof.Rows.slot_tuple_getitem.lookup) ?_ (by with_unfolding_all rfl)
    refine getItem_tuple_rev ht (Heap.IsSliceOf.new _ .none .none vs) ps ?_ (by rw [List.size_toArray]; omega)
    refine ⟨.ref _, _, I5.laid (t' := s4.toks) (o := .tup xs.reverse) (fun b ob q => Heap.get?_push_of_some _ q) (Nat.le_refl _) ?_, rfl, q _ (I5.hok.fresh (Nat.le_refl _))⟩
    exact ⟨by rw [List.length_reverse]; exact hz, its.reverse, r.reverse, IsTup.new _ _⟩
  · subst ex
    obtain ⟨t, rfl⟩ := r1
    cases pl
    cases pu
    cases ps with
    | int _ t2 =>
    show wpAny (model X.prog X.w) X.A (subscriptTail e (.Slice none none (some (.UnaryOp .USub (.Constant (.int 1) k p1) p2)) p3) (.str z t) (.ref s4.heap.objs.size)) (EP X pins σ Q) X.xe { s4 with heap := s4.heap.push { cls := .type "slice", data := .fields #[.none, .none, .int (-1) t2] } }
    refine tail_any (ops := [.str z t, .ref s4.heap.objs.size]) (typeIs_str _ _ _) (F.slot_str_getitem.lookup) ?_ (by with_unfolding_all rfl)
    refine wpAny_getItem_str_slice (l := none) (u := none) (st := some (-1, t2)) ⟨_, Heap.get?_push_size _ rfl, rfl, rfl⟩ rfl ?_
    show Made.post (if ((-1 : Int) == 1 && (Builtin.Str.strSliceIndices none none (-1) z.length).length == z.length) = true then Made.val (.str z t)
      else Made.str ⟨((Builtin.Str.strSliceIndices none none (-1) z.length).filterMap (z.cps[·]?)).toArray⟩) (EP X pins σ Q) _
    rw [if_neg (by intro q; rw [Bool.and_eq_true] at q; exact absurd q.1 (by decide)), revS_ix, List.filterMap_reverse, PySem.W.krv_all]
    exact ⟨by show (revS z).length ≤ sizeLine; rw [revS_len]; exact hz, .str _, H4, I5.tok _, ⟨_, rfl⟩, q⟩
theorem RepL.revP : ∀ {ds : List D} {vs : List V}, RepL K Z H ds vs Fp0 → RepL K Z H ds.reverse vs.reverse Fp0
  | [], [], _ => trivial
  | [], _ :: _, h => h.elim
  | _ :: _, [], h => h.elim
  | d :: ds, v :: vs, ⟨_, _, s1, s2, dj, r, q⟩ => by
    rw [List.reverse_cons, List.reverse_cons]
    have r0 : Rep K Z H d v Fp0 := r.move (Same.refl _) (fun _ _ _ x => x) s1
    have q0 : RepL K Z H ds vs Fp0 := q.move (Same.refl _) (fun _ _ _ x => x) s2
    exact RepL.joinP (RepL.revP q0) ⟨Fp0, Fp0, fun _ x => x, fun _ x => x, fun _ x _ => x, r0, trivial⟩
def opRev : List D → Option D
  | [.node _ .lst xs] => if plainL xs = true then some (.lst true xs.reverse) else none
  | [.node _ .tup xs] => if plainL xs = true then some (.tup xs.reverse) else none
  | [.str x] => if x.length ≤ cap then some (.str (revS x)) else none
  | _ => none
theorem snd_rev : Snd X (fun vs H Q => ∃ x, vs = [x] ∧ rRev X.K x H Q) opRev := by
  intro Z H S ds vs d Q w rb e k
  unfold opRev at e
  split at e
  · split at e
    · rename_i hp
      obtain ⟨v, rfl, rv⟩ := rb1 rb
      obtain ⟨a, ys, rfl, c, rl⟩ := rep_lst w.same rv
      cases e
      refine ⟨_, rfl, .inl ⟨a, ys, rfl, SqL.of c, fun p np => ?_⟩⟩
      obtain ⟨f1, f2, f3, f4⟩ := fresh_lst w np (RepL.revP (rl.plain hp))
      exact k _ _ _ _ f1 f2 f3 f4
    · cases e
  · split at e
    · rename_i hp
      obtain ⟨v, rfl, rv⟩ := rb1 rb
      obtain ⟨a, ys, rfl, c, rl⟩ := rep_tup w.same rv
      cases e
      refine ⟨_, rfl, .inr (.inl ⟨a, ys, rfl, c, fun p np => ?_⟩)⟩
      obtain ⟨f1, f2, f3⟩ := fresh_tup w np (RepL.revP (rl.plain hp))
      exact k _ _ _ _ f1 f2 (fun _ _ x => x) f3
    · cases e
  · split at e
    · rename_i hp
      obtain ⟨v, rfl, rv⟩ := rb1 rb
      obtain rfl : v = .str _ := rv
      cases e
      exact ⟨_, rfl, .inr (.inr ⟨_, rfl, cap_le hp, k _ _ _ Fp0 w.nil (Same.refl H) (fun _ _ x => x) rfl⟩)⟩
    · cases e
  · cases e
theorem E_rev {k : Nat} {p1 p2 p3 : Pos} (he : PE X e (tE X.K X.mg W f)) : PE X (.Subscript e (.Slice none none (some (.UnaryOp .USub (.Constant (.int 1) k p1) p2)) p3) pos) (tE X.K X.mg W (un opRev f)) :=
  PE.of (pe_rev he) fun _ _ _ q => one_of (tE_app snd_rev q)
/-! ### dicts written -/
def newD : M EV := con (.dct true [] [])
theorem tE_newD {Q : VK} (h : tE K mg W newD σ H Q) : tDNewK σ H Q := by
  obtain ⟨Z, ρ, S, w, er, o⟩ := h
  intro p np
  have r0 : RepL K Z H ([] : List D) ([] : List V) Fp0 := trivial
  have st := Step.alloc (o := .dK []) w np
  refine o (.ref p) Z _ S (fun a => a = p) st (fun a s e => w.dom a s (by rw [e]; exact np)) (er.move (Same.refl _) (fun a o _ e => by rw [upd_ne (ne_of_none e np)]; exact e) fun _ x => x) ?_
  exact ⟨p, [], Fp0, rfl, ⟨rfl, upd_same⟩, rfl, fun x => x, fun _ x => x.elim, trivial⟩
theorem E_D0 : PE X (.Dict [] [] pos) (tE X.K X.mg W newD) := PE.of pe_dnewK fun _ _ _ q => tE_newD q
/-- {k: e} with k a number or a text -/
def keyD : Key → D
  | .inl i => .int i
  | .inr x => .str x
def dct1 (k : Key) (f : M EV) : M EV := bnd f fun e => bnd (use1 e) fun d => ret (.val (.dct true [k] [d]))
theorem keyD_rep (k : Key) : Rep K Z H (keyD k) (kV k) Fp0 := by cases k <;> rfl
theorem tE_dct1 {k : Key} {Q : VK} (h : tE K mg W (dct1 k f) σ H Q) : tDisp [(tC (kV k), tE K mg W f)] σ H Q := by
  obtain ⟨Z, ρ, S, w, er, o⟩ := h
  intro p np
  show tPairs [(tC (kV k), tE K mg W f)] σ (upd H p (.dK [])) _
  have st0 := Step.alloc (o := .dK []) w np
  have dj0 : ∀ a, S a → a = p → False := fun a s e => w.dom a s (by rw [e]; exact np)
  have er0 : EnvR K Z (upd H p (.dK [])) ρ σ S := er.move (Same.refl _) (fun a o _ e => by rw [upd_ne (ne_of_none e np)]; exact e) fun _ x => x
  show tE K mg W f σ (upd H p (.dK [])) _
  refine ⟨Z, ρ, S, st0.wd.less fun a x => .inl x, er0, ?_⟩
  simp only [dct1, bnd] at o
  cases e1 : f ρ with
  | stuck => rw [e1] at o; exact o
  | exc x ρ1 =>
    rw [e1] at o
    exact XOut.behind st0 dj0 o
  | ok ev ρ1 =>
    simp only [e1] at o
    intro v Z1 H1 S1 Sa st1 dj1 er1 r1
    have st1F := st1.frame st0.wd dj0
    have ap1 := st1.apart (T := fun a => a = p) (fun a x => st0.wd.dom a (.inr x)) dj0
    have hp1 : H1 p = some (.dK []) := st1.fr p _ (fun x => dj0 p x rfl) upd_same
    cases e2 : use1 ev ρ1 with
    | stuck => simp only [e2] at o; exact o.elim
    | exc x ρ2 => exact absurd e2 use1_noexc
    | ok d ρ2 =>
      simp only [e2, ret] at o
      obtain ⟨Z2, S2, st2, m2, er2, r2⟩ := use1_ok st1F.wd dj1 ap1 er1 r1 e2
      refine ⟨hp1, [(k, v)], rfl, by show 1 ≤ 15; decide, ?_⟩
      show Q (.ref p) (upd H1 p (.dK [(k, v)]))
      have st3 : Step Z2 H1 (fun a => (S2 a ∨ Sa a) ∨ a = p) Z2 (upd H1 p (.dK [(k, v)])) (fun a => (S2 a ∨ Sa a) ∨ a = p) := Step.write st2.wd (.inr rfl)
      have keep : ∀ {B : Fp}, (∀ a, B a → a = p → False) → ∀ a o, B a → H1 a = some o → upd H1 p (.dK [(k, v)]) a = some o := fun {B} n a o b q => by rw [upd_ne fun z => n a b z]; exact q
      have apS2 : ∀ a, S2 a → a = p → False := fun a x e => ap1 a (.inl (m2 a x)) e
      have apSa : ∀ a, Sa a → a = p → False := fun a x e => ap1 a (.inr x) e
      refine o (.ref p) Z2 _ S2 (fun a => Sa a ∨ a = p) ?_ (fun a x y => y.elim (dj1 a (m2 a x)) (apS2 a x)) (er2.move (Same.refl _) (keep apS2) fun _ x => x) ?_
      · refine (((st0.trans st1F).trans st2).trans st3).less fun a x => ?_
        rcases x with x | x | x
        · exact .inl (.inl x)
        · exact .inl (.inr x)
        · exact .inr x
      · exact ⟨p, [v], Sa, rfl, ⟨rfl, upd_same⟩, .inr rfl, fun x => apSa p x rfl, fun a x => .inl x, ⟨Sa, Fp0, fun _ x => x, fun _ x => x.elim, fun _ _ x => x, r2.move (Same.refl _) (keep apSa) fun _ x => x, trivial⟩⟩
theorem E_D1s {x : Str} {j : Nat} {p2 : Pos} (hv : PE X e (tE X.K X.mg W f)) : PE X (.Dict [some (.Constant (.str x) j p2)] [e] pos) (tE X.K X.mg W (dct1 (.inr x) f)) :=
  PE.of (pe_disp (pps_cons pe_str hv pps_nil) rfl rfl (by intro z; cases z) (by show 1 ≤ 15; decide)) fun _ _ _ q => tE_dct1 q
theorem E_D1i {i : Int} {j : Nat} {p2 : Pos} (hv : PE X e (tE X.K X.mg W f)) : PE X (.Dict [some (.Constant (.int i) j p2)] [e] pos) (tE X.K X.mg W (dct1 (.inl i) f)) :=
  PE.of (pe_disp (pps_cons pe_int hv pps_nil) rfl rfl (by intro z; cases z) (by show 1 ≤ 15; decide)) fun _ _ _ q => tE_dct1 q
/-! ### dicts shown: what they hold is of one piece -/
def keyP : Key → PyData
  | .inl i => .int i
  | .inr x => .str x
def pyF : V → PyData
  | .bl b => .bool b
  | .int i => .int i
  | .str x => .str x
  | _ => .none
theorem reads_flat {h : Heap} {v : V} {u : Value} (hf : flatV v = true) (r : RelV v u) : Reads h u (pyF v) [] := by
  cases v with
  | non => cases r; exact .none
  | bl b => cases r; exact .bool b
  | int i => obtain ⟨t, rfl⟩ := r; exact .int i t
  | str x => obtain ⟨t, rfl⟩ := r; exact .str x t
  | _ => cases hf
theorem pairsRead_of {h : Heap} : ∀ {kvs : List (Key × V)} {vs : List (Key × Value)}, KV kvs vs → (kvs.all fun kv => flatV kv.2) = true → PyProof.V.PairsRead h keyP vs (kvs.map fun kv => (keyP kv.1, pyF kv.2)) []
  | [], _, r, _ => by cases r; exact .nil
  | p :: kvs, _, r, hf => by
    rw [List.all_cons, Bool.and_eq_true] at hf
    cases r with
    | @cons a b as bs h1 h2 =>
      obtain ⟨k, u⟩ := b
      obtain ⟨k', v⟩ := p
      obtain ⟨e, ru⟩ := h1
      cases e
      exact .cons (as := []) (reads_flat hf.1 ru) (pairsRead_of h2 hf.2)
def dctP (ks : List Key) (vs : List V) : PyData := .dict ((ks.zip vs).map fun kv => (keyP kv.1, pyF kv.2))
def rReprD : List V → Hp → VK → Prop := fun xs H Q => ∃ a kvs, xs = [.ref a] ∧ Rd H a (.dK kvs) ∧ (kvs.all fun kv => flatV kv.2) = true ∧ PyData.showable (.dict (kvs.map fun kv => (keyP kv.1, pyF kv.2))) = true ∧
  PyData.depth (.dict (kvs.map fun kv => (keyP kv.1, pyF kv.2))) ≤ 60 ∧ (PyData.shown (.dict (kvs.map fun kv => (keyP kv.1, pyF kv.2)))).length ≤ sizeLine ∧ Q (.str (PyData.shown (.dict (kvs.map fun kv => (keyP kv.1, pyF kv.2))))) H
theorem call_reprD (hg : X.A.guards = some []) (hu : X.A.units + 64 < cLine) : CallR X (.builtin "repr") rReprD := by
  intro pins s σ H xs us Q I r h
  obtain ⟨a, kvs, rfl, hr, hf, hs, hp, hz, q⟩ := h
  obtain ⟨u, rfl, rx⟩ := vals1 r
  cases rx
  obtain ⟨_, hd, vs, rel, dd⟩ := dk_rd I.hok hr
  have rd : Reads s.heap (.ref a) (.dict (kvs.map fun kv => (keyP kv.1, pyF kv.2))) (a :: []) := PyProof.V.reads_dictOf (fun k key hk => by
    rcases keyIs_shape (show keyIs k key = true from hk) with ⟨i, t, rfl, rfl⟩ | ⟨x, t, rfl, rfl⟩
    · exact .int i t
    · exact .str x t) dd (pairsRead_of rel hf)
  refine repr_of_reads' rd hs (fun _ hm => ?_) hg (by omega) (fun _ _ e => e) (fun h' u tk k => ⟨.str _, H, I.kept k, ⟨_, rfl⟩, q⟩) hz
  rcases List.mem_cons.mp hm with e | e
  · rw [← e] at hd
    exact absurd hd (by simp)
  · cases e
/-- repr of everything -/
def opReprA : List D → Option D
  | [.node o (.dct ks) xs] => match fltL xs with
    | some vs => if ks.length = vs.length ∧ PyData.showable (dctP ks vs) = true ∧ PyData.depth (dctP ks vs) ≤ 60 ∧ (PyData.shown (dctP ks vs)).length ≤ cap then some (.str (PyData.shown (dctP ks vs))) else none
    | none => none
  | ds => opRepr ds
def rReprA (K : PySem.W.Frag) : List V → Hp → VK → Prop := fun xs H Q => rRepr K xs H Q ∨ rReprD xs H Q
theorem call_reprB (hg : X.A.guards = some []) (hu : X.A.units + 64 < cLine) : CallR X (.builtin "repr") (rReprA X.K) := by
  intro pins s σ H xs us Q I r h
  rcases h with h | h
  · exact call_reprA hg hu pins s σ H xs us Q I r h
  · exact call_reprD hg hu pins s σ H xs us Q I r h
theorem zip_all : ∀ (ks : List Key) (vs : List V), vs.all flatV = true → ((ks.zip vs).all fun kv => flatV kv.2) = true
  | [], _, _ => rfl
  | _ :: _, [], _ => rfl
  | k :: ks, v :: vs, h => by
    rw [List.all_cons, Bool.and_eq_true] at h
    rw [List.zip_cons_cons, List.all_cons, Bool.and_eq_true]
    exact ⟨h.1, zip_all ks vs h.2⟩
theorem snd_reprA : Snd X (rReprA X.K) opReprA := by
  intro Z H S ds vs d Q w rb e k
  unfold opReprA at e
  split at e
  · rename_i o ks xs
    split at e
    · rename_i vs' hv
      split at e
      · rename_i c
        obtain ⟨c1, c2, c3, c4⟩ := c
        obtain ⟨v, rfl, rv⟩ := rb1 rb
        cases e
        have hh : ∃ a, v = .ref a ∧ H a = some (.dK (ks.zip vs')) ∧ vs'.all flatV = true := by
          cases o with
          | false =>
            obtain ⟨a, ys, rfl, c, rl⟩ := rv
            obtain ⟨e1, f1⟩ := fltL_ok hv rl
            subst e1
            exact ⟨a, rfl, w.same _ _ c.2, f1⟩
          | true =>
            obtain ⟨a, ys, S', rfl, c, sa, na, sub, rl⟩ := rv
            obtain ⟨e1, f1⟩ := fltL_ok hv rl
            subst e1
            exact ⟨a, rfl, c.2, f1⟩
        obtain ⟨a, rfl, ha, hf⟩ := hh
        refine .inr ⟨a, ks.zip vs', rfl, .inl ha, zip_all _ _ hf, c2, c3, cap_le c4, k _ _ _ Fp0 w.nil (Same.refl H) (fun _ _ x => x) rfl⟩
      · cases e
    · cases e
  · exact .inl (snd_repr Z H S ds vs d Q w rb e k)
end
end Pm
/-! PmS: the functions that every law has: the pen and what is drawn with it. -/
namespace Pm
open PySem PySem.Spec PyProof.Rows L2
noncomputable def penS : FSem := mkF 1 1 [] (rtn (disp true .lst (aCons (app opList (aCons (cut (loc 0) none (some (con (.int 63)))) aNil)) (aCons (con (.int 0)) (aCons (con (.int 0)) aNil)))))
noncomputable def drawB : M Fl := (seq (ite (tst (bin (on2I iGt) (idx (aCons (loc 0) (aCons (con (.int 2)) aNil))) (con (.int 0)))) (seq (asg (bin (on2I iMod) (idx (aCons (loc 0) (aCons (con (.int 2)) aNil))) (loc 1)) (gN 2))
    (seq (asg (bin (on2I iDiv) (idx (aCons (loc 0) (aCons (con (.int 2)) aNil))) (loc 1)) (gI 0 (con (.int 2))))
    (rtn (mov 2)))) sNx)
    (seq (asg (idx (aCons (loc 0) (aCons (con (.int 1)) aNil))) (gN 3))
    (seq (asg (bin (on2I iAdd) (loc 3) (con (.int 1))) (gI 0 (con (.int 1))))
    (seq (asg (bin (on2I iAdd) (bin (on2I iMul) (con (.int 52363)) (loc 3)) (con (.int 71))) (gN 4))
    (seq (ite (tst (bin opNe (idx (aCons (loc 0) (aCons (con (.int 0)) aNil))) (disp true .lst aNil))) (asg (idx (aCons (idx (aCons (loc 0) (aCons (con (.int 0)) aNil))) (aCons (bin (on2I iMod) (loc 3) (app opLen (aCons (idx (aCons (loc 0) (aCons (con (.int 0)) aNil))) aNil))) aNil))) (gN 4)) sNx)
    (seq (ite (andT (tst (bin (on2I iLt) (loc 3) (app opLen (aCons (idx (aCons (loc 0) (aCons (con (.int 0)) aNil))) aNil)))) (tst (bin (on2I iGe) (app opAbs (aCons (loc 4) aNil)) (bin (on2I iPow) (con (.int 10)) (con (.int 18)))))) (seq (asg (bin (on2I iAdd) (bin (on2I iMul) (con (.int 2)) (app opAbs (aCons (loc 4) aNil))) (app opInt1 (aCons (bin (on2I iLt) (loc 4) (con (.int 0))) aNil))) (gN 5))
    (seq (asg (bin (on2I iDiv) (loc 5) (loc 1)) (gI 0 (con (.int 2))))
    (rtn (bin (on2I iMod) (loc 5) (loc 1))))) sNx)
    (seq (asg (bin (on2I iMod) (bin (on2I iPow) (bin (on2I iAdd) (bin (on2I iAdd) (bin (on2I iMod) (loc 4) (con (.int 2147483563))) (bin (on2I iMul) (con (.int 60041)) (loc 3))) (con (.int 29))) (con (.int 5))) (con (.int 2147483629))) (gN 6))
    (seq (asg (bin (on2I iMod) (bin (on2I iPow) (bin (on2I iAdd) (bin (on2I iMul) (loc 6) (bin (on2I iAdd) (bin (on2I iMul) (con (.int 2)) (loc 3)) (con (.int 11)))) (con (.int 80039))) (con (.int 3))) (con (.int 2147483587))) (gN 6))
    (rtn (bin (on2I iMod) (bin (on2I iDiv) (loc 6) (con (.int 16))) (loc 1)))))))))))
noncomputable def drawS : FSem := mkF 2 7 [] drawB

/-! ### how expressions come out -/
/-- f comes out at ρ with the value e and leaves ρ' -/
theorem seq_ok {a b : M Fl} {ρ ρ' : Env} (h : a ρ = .ok .nx ρ') : seq a b ρ = b ρ' := by unfold seq bnd; rw [h]
theorem seq_rt {a b : M Fl} {ρ ρ' : Env} {d : D} (h : a ρ = .ok (.rt d) ρ') : seq a b ρ = .ok (.rt d) ρ' := by unfold seq bnd; rw [h]; rfl
theorem ite_T {c : M Bool} {a b : M Fl} {ρ ρ' : Env} (h : c ρ = .ok true ρ') : ite c a b ρ = a ρ' := by unfold ite bnd; rw [h]; rfl
theorem ite_F {c : M Bool} {a b : M Fl} {ρ ρ' : Env} (h : c ρ = .ok false ρ') : ite c a b ρ = b ρ' := by unfold ite bnd; rw [h]; rfl
theorem shp_ints (n : Nat) : ∀ ns : List Int, (ns.map D.int).all (shp n) = true
  | [] => rfl
  | x :: ns => by
    rw [List.map_cons, List.all_cons, shp_ints n ns]
    cases n <;> rfl
theorem plain_ints : ∀ ns : List Int, plainL (ns.map D.int) = true
  | [] => rfl
  | x :: ns => by rw [List.map_cons, plainL, plain_ints ns]; rfl
theorem frz_ints : ∀ ns : List Int, frzL (ns.map D.int) = ns.map D.int
  | [] => rfl
  | x :: ns => by rw [List.map_cons, frzL, frz_ints ns]; rfl
theorem neNil (b c : Bool) (ns : List Int) : opNe [.node b .lst (ns.map D.int), .node c .lst []] = some (.bl (decide (ns ≠ []))) := by
  have h1 : shp 60 (.node b .lst (ns.map D.int)) = true := by
    show (ns.map D.int).all (shp 59) = true
    exact shp_ints 59 ns
  have h2 : shp 60 (.node c .lst []) = true := rfl
  show (if (shp 60 (.node b .lst (ns.map D.int)) && shp 60 (.node c .lst [])) = true then some (D.bl !deq (.node b .lst (ns.map D.int)) (.node c .lst [])) else none) = _
  rw [h1, h2]
  cases ns <;> rfl
/-- the pen: the cells, the place, what is left -/
def Pen (ns : List Int) (a : Int) (d : D) : Prop := ∃ (b : Bool) (at' left : Int), d = .node true .lst [.node b .lst (ns.map D.int), .int at', .int left] ∧ 0 ≤ at' ∧ at' ≤ a ∧ 0 ≤ left
theorem Pen.mono {ns : List Int} {a a' : Int} {d : D} (h : Pen ns a d) (l : a ≤ a') : Pen ns a' d := by
  obtain ⟨b, p, q, e, h1, h2, h3⟩ := h
  exact ⟨b, p, q, e, h1, by omega, h3⟩
theorem draw_left {c : D} {p left m : Int} (h0 : 0 < left) (hm : 0 < m) (hd : divOk m = true) : drawS [.node true .lst [c, .int p, .int left], .int m] = .ret (.int (left % m)) [.node true .lst [c, .int p, .int (left / m)], .int m] := by
  simp [drawS, drawB, mkF, reFrz, seq, ite, rtn, mov, asg, drp, sNx, bnd, bin, un, app, aCons, aNil, idx, loc, con, ret, peek1, peeks, itemOf, on2I, iAdd, iSub, iGt, iGe, iLt, iLe, iDiv, iMod, use1, useL, gI, gN, tst, andT, orT, notT, andE, orE, notE, ifE, ixN, D.frz, D.plain, plainL, argsBack, opLen, opAbs, opInt1, opNeg, disp, cap, callF, takes, puts, selA, sel, aApp, par, gT, gsC, gs0, appF, opDivmod, hm, hd, h0]
theorem mulOkL {i j : Int} (h : i.natAbs < 2 ^ 64) : mulOk i j = true := decide_eq_true (.inl h)
theorem mulOkR {i j : Int} (h : j.natAbs < 2 ^ 64) : mulOk i j = true := decide_eq_true (.inr (.inl h))
theorem mulL {i j : Int} (h : i.natAbs < 2 ^ 64) : iMul i j = some (.int (i * j)) := by unfold iMul; rw [mulOkL h]; rfl
theorem mulR {i j : Int} (h : j.natAbs < 2 ^ 64) : iMul i j = some (.int (i * j)) := by unfold iMul; rw [mulOkR h]; rfl
theorem powN {i : Int} {j : Nat} (h : i.natAbs < 2 ^ 64) (hj : j ≤ 1000000) : iPow i (j : Int) = some (.int (i ^ j)) := by
  unfold iPow
  rw [if_pos]
  · rw [Int.toNat_natCast]
  · exact decide_eq_true ⟨by omega, by omega, h⟩
def mixA (cell p : Int) : Int := (cell % 2147483563 + 60041 * p + 29) ^ 5 % 2147483629
def mixV (cell p : Int) : Int := (mixA cell p * (2 * p + 11) + 80039) ^ 3 % 2147483587
theorem mixA_lt (cell p : Int) : 0 ≤ mixA cell p ∧ mixA cell p < 2147483629 := ⟨Int.emod_nonneg _ (by decide), Int.emod_lt_of_pos _ (by decide)⟩
theorem pow5 {cell p : Int} (h : 0 ≤ p) (hp : p ≤ 1000000) : iPow (cell % 2147483563 + 60041 * p + 29) 5 = some (.int ((cell % 2147483563 + 60041 * p + 29) ^ 5)) := by
  have h1 := Int.emod_nonneg cell (show (2147483563 : Int) ≠ 0 by decide)
  have h2 := Int.emod_lt_of_pos cell (show (0 : Int) < 2147483563 by decide)
  exact powN (j := 5) (by omega) (by decide)
theorem pow3 {cell p : Int} (h : 0 ≤ p) (hp : p ≤ 1000000) : iPow (mixA cell p * (2 * p + 11) + 80039) 3 = some (.int ((mixA cell p * (2 * p + 11) + 80039) ^ 3)) := by
  obtain ⟨h1, h2⟩ := mixA_lt cell p
  have h3 : mixA cell p * (2 * p + 11) ≤ 2147483629 * 2000011 := Int.mul_le_mul (by omega) (by omega) (by omega) (by decide)
  have h4 : 0 ≤ mixA cell p * (2 * p + 11) := Int.mul_nonneg h1 (by omega)
  exact powN (j := 3) (by omega) (by decide)
theorem pow10_18 : iPow 10 18 = some (.int 1000000000000000000) := rfl
theorem pow10_7 : iPow 10 7 = some (.int 10000000) := rfl
theorem draw_nil {b : Bool} {p left m : Int} (h0 : ¬ 0 < left) (hm : 0 < m) (hd : divOk m = true) (hp : 0 ≤ p) (hp2 : p ≤ 1000000) :
    drawS [.node true .lst [.node b .lst [], .int p, .int left], .int m] = .ret (.int (mixV (52363 * p + 71) p / 16 % m)) [.node true .lst [.node false .lst [], .int (p + 1), .int left], .int m] := by
  have e1 := pow5 (cell := 52363 * p + 71) hp hp2
  have e2 := pow3 (cell := 52363 * p + 71) hp hp2
  have e3 : iMul 52363 p = some (.int (52363 * p)) := mulL (by decide)
  have e4 : iMul 60041 p = some (.int (60041 * p)) := mulL (by decide)
  have e5 : iMul 2 p = some (.int (2 * p)) := mulL (by decide)
  have e6 : iMul (mixA (52363 * p + 71) p) (2 * p + 11) = some (.int (mixA (52363 * p + 71) p * (2 * p + 11))) := mulR (by omega)
  have e7 : opNe [.node false .lst [], .node true .lst []] = some (.bl false) := rfl
  have e8 : divOk 16 = true := by decide
  have h1 : ¬ p < 0 := by omega
  simp only [mixA] at e2 e6
  cases b <;> simp [drawS, drawB, mkF, reFrz, seq, ite, rtn, mov, asg, drp, sNx, bnd, bin, un, app, aCons, aNil, idx, loc, con, ret, peek1, peeks, itemOf, on2I, iAdd, iSub, iGt, iGe, iLt, iLe, iDiv, iMod, use1, useL, gI, gN, tst, andT, orT, notT, andE, orE, notE, ifE, ixN, D.frz, D.plain, plainL, argsBack, opLen, opAbs, opInt1, opNeg, disp, cap, callF, takes, puts, selA, sel, aApp, par, gT, gsC, gs0, appF, opDivmod, hm, hd, h0, e1, e2, e3, e4, e5, e6, e7, e8, h1, frzL, mixV, mixA, pow10_18]
theorem draw_small {ns : List Int} {c : Int} {b : Bool} {p left m : Int} (h0 : ¬ 0 < left) (hm : 0 < m) (hd : divOk m = true) (hp : 0 ≤ p) (hp2 : p ≤ 1000000) (hn : ns ≠ []) (hl : ns.length ≤ 63) (hc : atI (ns.map D.int) (p % (ns.length : Int)) = some (.int c))
    (hs : ¬ (p < (ns.length : Int) ∧ 1000000000000000000 ≤ (if c < 0 then -c else c))) :
    drawS [.node true .lst [.node b .lst (ns.map D.int), .int p, .int left], .int m] = .ret (.int (mixV c p / 16 % m)) [.node true .lst [.node false .lst (ns.map D.int), .int (p + 1), .int left], .int m] := by
  have e1 := pow5 (cell := c) hp hp2
  have e2 := pow3 (cell := c) hp hp2
  have e3 : iMul 52363 p = some (.int (52363 * p)) := mulL (by decide)
  have e4 : iMul 60041 p = some (.int (60041 * p)) := mulL (by decide)
  have e5 : iMul 2 p = some (.int (2 * p)) := mulL (by decide)
  have e6 : iMul (mixA c p) (2 * p + 11) = some (.int (mixA c p * (2 * p + 11))) := mulR (by omega)
  have e7 : opNe [.node false .lst (ns.map D.int), .node true .lst []] = some (.bl true) := by rw [neNil, decide_eq_true hn]
  have e8 : divOk 16 = true := by decide
  have h1 : 0 < ns.length := List.length_pos_iff.mpr hn
  have h2 : ns.length ≤ 1000000 := by omega
  have pl := plain_ints ns
  have fz := frz_ints ns
  simp only [mixA] at e2 e6
  by_cases q : p < (ns.length : Int)
  · have q2 : ¬ 1000000000000000000 ≤ (if c < 0 then -c else c) := fun z => hs ⟨q, z⟩
    cases b <;> simp [drawS, drawB, mkF, reFrz, seq, ite, rtn, mov, asg, drp, sNx, bnd, bin, un, app, aCons, aNil, idx, loc, con, ret, peek1, peeks, itemOf, on2I, iAdd, iSub, iGt, iGe, iLt, iLe, iDiv, iMod, use1, useL, gI, gN, tst, andT, orT, notT, andE, orE, notE, ifE, ixN, D.frz, D.plain, plainL, argsBack, opLen, opAbs, opInt1, opNeg, disp, cap, callF, takes, puts, selA, sel, aApp, par, gT, gsC, gs0, appF, opDivmod, hm, hd, h0, e1, e2, e3, e4, e5, e6, e7, e8, h1, h2, pl, fz, hc, q, q2, mixV, mixA, pow10_18]
  · cases b <;> simp [drawS, drawB, mkF, reFrz, seq, ite, rtn, mov, asg, drp, sNx, bnd, bin, un, app, aCons, aNil, idx, loc, con, ret, peek1, peeks, itemOf, on2I, iAdd, iSub, iGt, iGe, iLt, iLe, iDiv, iMod, use1, useL, gI, gN, tst, andT, orT, notT, andE, orE, notE, ifE, ixN, D.frz, D.plain, plainL, argsBack, opLen, opAbs, opInt1, opNeg, disp, cap, callF, takes, puts, selA, sel, aApp, par, gT, gsC, gs0, appF, opDivmod, hm, hd, h0, e1, e2, e3, e4, e5, e6, e7, e8, h1, h2, pl, fz, hc, q, mixV, mixA, pow10_18]
theorem draw_great {ns : List Int} {c : Int} {b : Bool} {p left m : Int} (h0 : ¬ 0 < left) (hm : 0 < m) (hd : divOk m = true) (hp : 0 ≤ p) (hp2 : p ≤ 1000000) (hn : ns ≠ []) (hl : ns.length ≤ 63) (hc : atI (ns.map D.int) (p % (ns.length : Int)) = some (.int c))
    (q : p < (ns.length : Int)) (q2 : 1000000000000000000 ≤ (if c < 0 then -c else c)) :
    ∃ g : Int, 0 ≤ g ∧ drawS [.node true .lst [.node b .lst (ns.map D.int), .int p, .int left], .int m] = .ret (.int (g % m)) [.node true .lst [.node false .lst (ns.map D.int), .int (p + 1), .int (g / m)], .int m] := by
  have e3 : iMul 52363 p = some (.int (52363 * p)) := mulL (by decide)
  have e7 : opNe [.node false .lst (ns.map D.int), .node true .lst []] = some (.bl true) := by rw [neNil, decide_eq_true hn]
  have h1 : 0 < ns.length := List.length_pos_iff.mpr hn
  have h2 : ns.length ≤ 1000000 := by omega
  have pl := plain_ints ns
  have fz := frz_ints ns
  refine ⟨2 * (if c < 0 then -c else c) + (if c < 0 then 1 else 0), by split <;> omega, ?_⟩
  have e4 : iMul 2 (if c < 0 then -c else c) = some (.int (2 * (if c < 0 then -c else c))) := mulL (by decide)
  by_cases hc0 : c < 0
  · rw [if_pos hc0] at q2 e4
    cases b <;> simp [drawS, drawB, mkF, reFrz, seq, ite, rtn, mov, asg, drp, sNx, bnd, bin, un, app, aCons, aNil, idx, loc, con, ret, peek1, peeks, itemOf, on2I, iAdd, iSub, iGt, iGe, iLt, iLe, iDiv, iMod, use1, useL, gI, gN, tst, andT, orT, notT, andE, orE, notE, ifE, ixN, D.frz, D.plain, plainL, argsBack, opLen, opAbs, opInt1, opNeg, disp, cap, callF, takes, puts, selA, sel, aApp, par, gT, gsC, gs0, appF, opDivmod, hm, hd, h0, e3, e4, e7, h1, h2, pl, fz, hc, q, q2, hc0, pow10_18]
  · rw [if_neg hc0] at q2 e4
    cases b <;> simp [drawS, drawB, mkF, reFrz, seq, ite, rtn, mov, asg, drp, sNx, bnd, bin, un, app, aCons, aNil, idx, loc, con, ret, peek1, peeks, itemOf, on2I, iAdd, iSub, iGt, iGe, iLt, iLe, iDiv, iMod, use1, useL, gI, gN, tst, andT, orT, notT, andE, orE, notE, ifE, ixN, D.frz, D.plain, plainL, argsBack, opLen, opAbs, opInt1, opNeg, disp, cap, callF, takes, puts, selA, sel, aApp, par, gT, gsC, gs0, appF, opDivmod, hm, hd, h0, e3, e4, e7, h1, h2, pl, fz, hc, q, q2, hc0, pow10_18]
theorem at_ints {ns : List Int} {p : Int} (hp : 0 ≤ p) (hn : ns ≠ []) : ∃ c, atI (ns.map D.int) (p % (ns.length : Int)) = some (.int c) := by
  have h1 : 0 < ns.length := List.length_pos_iff.mpr hn
  have h2 := Int.emod_nonneg p (show (ns.length : Int) ≠ 0 by omega)
  have h3 := Int.emod_lt_of_pos p (show (0 : Int) < ns.length by omega)
  have hi : (p % (ns.length : Int)).toNat < ns.length := by omega
  refine ⟨ns[(p % (ns.length : Int)).toNat], ?_⟩
  unfold atI ixN
  rw [List.length_map, if_pos h2, if_pos h3]
  simp [List.getElem?_map, List.getElem?_eq_getElem hi]
/-- what a draw is -/
theorem draw_ok {ns : List Int} {d : D} {a m : Int} (hl : ns.length ≤ 63) (h : Pen ns a d) (ha : a ≤ 1000000) (hm : 0 < m) (hd : divOk m = true) : ∃ (r : Int) (d' : D), drawS [d, .int m] = .ret (.int r) [d', .int m] ∧ 0 ≤ r ∧ r < m ∧ Pen ns (a + 1) d' := by
  obtain ⟨b, p, left, rfl, hp, hpa, hl0⟩ := h
  have rng : ∀ x : Int, 0 ≤ x % m ∧ x % m < m := fun x => ⟨Int.emod_nonneg x (by omega), Int.emod_lt_of_pos x hm⟩
  by_cases h0 : 0 < left
  · exact ⟨_, _, draw_left h0 hm hd, (rng _).1, (rng _).2, b, _, _, rfl, by omega, by omega, Int.ediv_nonneg hl0 (by omega)⟩
  · by_cases hn : ns = []
    · subst hn
      exact ⟨_, _, draw_nil h0 hm hd hp (by omega), (rng _).1, (rng _).2, false, _, _, rfl, by omega, by omega, hl0⟩
    · obtain ⟨c, hc⟩ := at_ints hp hn
      by_cases hs : p < (ns.length : Int) ∧ 1000000000000000000 ≤ (if c < 0 then -c else c)
      · obtain ⟨g, hg, e⟩ := draw_great (b := b) h0 hm hd hp (by omega) hn hl hc hs.1 hs.2
        exact ⟨_, _, e, (rng _).1, (rng _).2, false, _, _, rfl, by omega, by omega, Int.ediv_nonneg hg (by omega)⟩
      · exact ⟨_, _, draw_small h0 hm hd hp (by omega) hn hl hc hs, (rng _).1, (rng _).2, false, _, _, rfl, by omega, by omega, hl0⟩
end Pm
/-! PmT: loops, the pen, numbers below a bound. -/
namespace Pm
open PySem PySem.Spec PyProof.Rows L2
/-! ### loops -/
theorem whl_T {c : M Bool} {b : M Fl} {ρ ρ1 ρ2 : Env} (h : c ρ = .ok true ρ1) (h2 : b ρ1 = .ok .nx ρ2) : whl c b ρ = whl c b ρ2 := by rw [whl_eq, h]; simp only [h2]
theorem whl_C {c : M Bool} {b : M Fl} {ρ ρ1 ρ2 : Env} (h : c ρ = .ok true ρ1) (h2 : b ρ1 = .ok .ct ρ2) : whl c b ρ = whl c b ρ2 := by rw [whl_eq, h]; simp only [h2]
theorem whl_F {c : M Bool} {b : M Fl} {ρ ρ1 : Env} (h : c ρ = .ok false ρ1) : whl c b ρ = .ok .nx ρ1 := by rw [whl_eq, h]
theorem forIt_ok {g : Tg} {b : M Fl} : ∀ {ds : List D} (I : Nat → Env → Prop), (∀ (j : Nat) (d : D) (ρ : Env), ds[j]? = some d → I j ρ → ∃ ρ1 ρ2, g d ρ = .ok () ρ1 ∧ (b ρ1 = .ok .nx ρ2 ∨ b ρ1 = .ok .ct ρ2) ∧ I (j + 1) ρ2) → ∀ ρ, I 0 ρ → ∃ ρ', forIt g b ds ρ = .ok .nx ρ' ∧ I ds.length ρ'
  | [], I, _, ρ, h => ⟨ρ, rfl, h⟩
  | d :: ds, I, f, ρ, h => by
    obtain ⟨ρ1, ρ2, e1, e2, h2⟩ := f 0 d ρ rfl h
    obtain ⟨ρ', e3, h3⟩ := forIt_ok (ds := ds) (fun j => I (j + 1)) (fun j d' ρ' hd hI => f (j + 1) d' ρ' (by simpa using hd) hI) ρ2 h2
    refine ⟨ρ', ?_, h3⟩
    unfold forIt
    rw [e1]
    rcases e2 with e2 | e2
    · simp only [bnd, e2]
      exact e3
    · simp only [bnd, e2]
      exact e3
theorem range_get {lo : Int} {n j : Nat} {d : D} (h : (rangeD lo n)[j]? = some d) : j < n ∧ d = .int (lo + (j : Int)) := by
  unfold rangeD at h
  rw [List.getElem?_map] at h
  by_cases hj : j < n
  · rw [List.getElem?_eq_getElem (by simpa using hj)] at h
    simp at h
    exact ⟨hj, h.symm⟩
  · rw [List.getElem?_eq_none (by simpa using Nat.le_of_not_lt hj)] at h
    cases h
theorem range_len {lo : Int} {n : Nat} : (rangeD lo n).length = n := by simp [rangeD]
/-! ### the pen -/
theorem pen_ok {ns : List Int} (hl : ns.length ≤ 63) : ∃ d, penS [.scr (ns.map D.int)] = .ret d [.scr (ns.map D.int)] ∧ Pen ns 0 d := by
  have e1 : gCut none (some 63) (.node false .scr (ns.map D.int)) = some (.lst true (ns.map D.int)) := by
    have h := HT.sIx_nat (ns.map D.int).length (ns.map D.int).length 63
    have h' : HT.sIx (ns.map D.int).length (ns.map D.int).length (some 63) = (ns.map D.int).length := by
      rw [show ((63 : Nat) : Int) = (63 : Int) from rfl] at h
      rw [h, List.length_map]
      omega
    show (if plainL (ns.map D.int) = true then some (D.lst true (cutD (ns.map D.int) none (some 63))) else none) = _
    rw [if_pos (plain_ints ns)]
    unfold cutD
    rw [h', HT.sIx_none, List.drop_zero, Nat.sub_zero, List.take_length]
  have pl := plain_ints ns
  refine ⟨_, ?_, true, 0, 0, rfl, by omega, by omega, by omega⟩
  simp [penS, mkF, reFrz, seq, ite, rtn, mov, asg, drp, sNx, bnd, bin, un, app, aCons, aNil, idx, loc, con, ret, peek1, peeks, itemOf, on2I, iAdd, iSub, iGt, iGe, iLt, iLe, iDiv, iMod, use1, useL, gI, gN, tst, andT, orT, notT, andE, orE, notE, ifE, ixN, D.frz, D.plain, plainL, argsBack, opLen, opAbs, opInt1, opNeg, disp, cap, callF, takes, puts, selA, sel, aApp, par, gT, gsC, gs0, appF, opDivmod, cut, e1, pl, opList]
noncomputable def belowB : M Fl := (seq (ite (tst (bin (on2I iLe) (loc 1) (bin (on2I iPow) (con (.int 10)) (con (.int 7))))) (rtn (callF drawS (aCons (loc 0) (aCons (loc 1) aNil)))) sNx)
    (seq (asg (con (.int 0)) (gN 2))
    (seq (asg (con (.int 1)) (gN 3))
    (seq (whl (tst (bin (on2I iLt) (loc 3) (loc 1))) (seq (asg (bin (on2I iAdd) (bin (on2I iMul) (loc 2) (bin (on2I iPow) (con (.int 10)) (con (.int 7)))) (callF drawS (aCons (loc 0) (aCons (bin (on2I iPow) (con (.int 10)) (con (.int 7))) aNil)))) (gN 2))
    (asg (bin (on2I iMul) (loc 3) (bin (on2I iPow) (con (.int 10)) (con (.int 7)))) (gN 3))))
    (rtn (bin (on2I iMod) (loc 2) (loc 1)))))))
noncomputable def belowS : FSem := mkF 2 4 [] belowB
theorem Pen.owned {ns : List Int} {a : Int} {d : D} (h : Pen ns a d) : ∃ xs, d = .node true .lst xs := by
  obtain ⟨b, p, q, e, _⟩ := h
  exact ⟨_, e⟩
theorem below_loop {ns : List Int} {m : Int} (hl : ns.length ≤ 63) : ∀ (k : Nat) (size found a : Int) (d : D), 0 < size → 0 ≤ found → m ≤ size * 10000000 ^ k → Pen ns a d → a + k ≤ 1000000 →
    ∃ (size' found' : Int) (d' : D), whl (tst (bin (on2I iLt) (loc 3) (loc 1))) (seq (asg (bin (on2I iAdd) (bin (on2I iMul) (loc 2) (bin (on2I iPow) (con (.int 10)) (con (.int 7)))) (callF drawS (aCons (loc 0) (aCons (bin (on2I iPow) (con (.int 10)) (con (.int 7))) aNil)))) (gN 2))
      (asg (bin (on2I iMul) (loc 3) (bin (on2I iPow) (con (.int 10)) (con (.int 7)))) (gN 3))) [some d, some (.int m), some (.int found), some (.int size)] = .ok .nx [some d', some (.int m), some (.int found'), some (.int size')] ∧ 0 ≤ found' ∧ Pen ns (a + k) d'
  | 0, size, found, a, d, hs, hf, hm, hp, ha => by
    refine ⟨size, found, d, ?_, hf, hp.mono (by omega)⟩
    have h : ¬ size < m := by omega
    exact whl_F (by simp [mkF, reFrz, seq, ite, rtn, mov, asg, drp, sNx, bnd, bin, un, app, aCons, aNil, idx, loc, con, ret, peek1, peeks, itemOf, on2I, iAdd, iSub, iGt, iGe, iLt, iLe, iDiv, iMod, use1, useL, gI, gN, tst, andT, orT, notT, andE, orE, notE, ifE, ixN, D.frz, D.plain, plainL, argsBack, opLen, opAbs, opInt1, opNeg, disp, cap, callF, takes, puts, selA, sel, aApp, par, gT, gsC, gs0, appF, opDivmod, h])
  | k + 1, size, found, a, d, hs, hf, hm, hp, ha => by
    by_cases h : size < m
    · obtain ⟨r, d', e, r0, r1, hp'⟩ := draw_ok hl hp (by omega) (show (0 : Int) < 10000000 by decide) (by decide)
      have e1 : iMul found 10000000 = some (.int (found * 10000000)) := mulR (by decide)
      have e2 : iMul size 10000000 = some (.int (size * 10000000)) := mulR (by decide)
      obtain ⟨xs, ed⟩ := hp.owned
      obtain ⟨xs', ed'⟩ := hp'.owned
      subst ed
      subst ed'
      obtain ⟨s', f', d2, e3, g1, g2⟩ := below_loop hl k (size * 10000000) (found * 10000000 + r) (a + 1) (.node true .lst xs') (by omega) (by omega) (by rw [Int.pow_succ] at hm; rw [Int.mul_assoc, Int.mul_comm 10000000 _]; exact hm) hp' (by omega)
      refine ⟨s', f', d2, ?_, g1, g2.mono (by omega)⟩
      rw [whl_T (ρ1 := [some (.node true .lst xs), some (.int m), some (.int found), some (.int size)]) (ρ2 := [some (.node true .lst xs'), some (.int m), some (.int (found * 10000000 + r)), some (.int (size * 10000000))]) (by simp [mkF, reFrz, seq, ite, rtn, mov, asg, drp, sNx, bnd, bin, un, app, aCons, aNil, idx, loc, con, ret, peek1, peeks, itemOf, on2I, iAdd, iSub, iGt, iGe, iLt, iLe, iDiv, iMod, use1, useL, gI, gN, tst, andT, orT, notT, andE, orE, notE, ifE, ixN, D.frz, D.plain, plainL, argsBack, opLen, opAbs, opInt1, opNeg, disp, cap, callF, takes, puts, selA, sel, aApp, par, gT, gsC, gs0, appF, opDivmod, h]) (by simp [mkF, reFrz, seq, ite, rtn, mov, asg, drp, sNx, bnd, bin, un, app, aCons, aNil, idx, loc, con, ret, peek1, peeks, itemOf, on2I, iAdd, iSub, iGt, iGe, iLt, iLe, iDiv, iMod, use1, useL, gI, gN, tst, andT, orT, notT, andE, orE, notE, ifE, ixN, D.frz, D.plain, plainL, argsBack, opLen, opAbs, opInt1, opNeg, disp, cap, callF, takes, puts, selA, sel, aApp, par, gT, gsC, gs0, appF, opDivmod, e, e1, e2, pow10_7])]
      exact e3
    · exact ⟨size, found, d, whl_F (by simp [mkF, reFrz, seq, ite, rtn, mov, asg, drp, sNx, bnd, bin, un, app, aCons, aNil, idx, loc, con, ret, peek1, peeks, itemOf, on2I, iAdd, iSub, iGt, iGe, iLt, iLe, iDiv, iMod, use1, useL, gI, gN, tst, andT, orT, notT, andE, orE, notE, ifE, ixN, D.frz, D.plain, plainL, argsBack, opLen, opAbs, opInt1, opNeg, disp, cap, callF, takes, puts, selA, sel, aApp, par, gT, gsC, gs0, appF, opDivmod, h]), hf, hp.mono (by omega)⟩
theorem below_ok {ns : List Int} {m a : Int} {d : D} (k : Nat) (hl : ns.length ≤ 63) (hp : Pen ns a d) (hm : 0 < m) (hd : divOk m = true) (hk : m ≤ 10000000 ^ k) (ha : a + k + 1 ≤ 1000000) : ∃ (r : Int) (d' : D), belowS [d, .int m] = .ret (.int r) [d', .int m] ∧ 0 ≤ r ∧ r < m ∧ Pen ns (a + k + 1) d' := by
  obtain ⟨xs, rfl⟩ := hp.owned
  by_cases h : m ≤ 10000000
  · obtain ⟨r, d', e, r0, r1, hp'⟩ := draw_ok hl hp (by omega) hm hd
    obtain ⟨xs', rfl⟩ := hp'.owned
    exact ⟨r, _, by simp [belowS, belowB, mkF, reFrz, seq, ite, rtn, mov, asg, drp, sNx, bnd, bin, un, app, aCons, aNil, idx, loc, con, ret, peek1, peeks, itemOf, on2I, iAdd, iSub, iGt, iGe, iLt, iLe, iDiv, iMod, use1, useL, gI, gN, tst, andT, orT, notT, andE, orE, notE, ifE, ixN, D.frz, D.plain, plainL, argsBack, opLen, opAbs, opInt1, opNeg, disp, cap, callF, takes, puts, selA, sel, aApp, par, gT, gsC, gs0, appF, opDivmod, h, e, pow10_7], r0, r1, hp'.mono (by omega)⟩
  · obtain ⟨s', f', d', e, f0, hp'⟩ := below_loop (m := m) hl k 1 0 a _ (by omega) (by omega) (by rw [Int.one_mul]; exact hk) hp (by omega)
    obtain ⟨xs', rfl⟩ := hp'.owned
    refine ⟨f' % m, _, ?_, Int.emod_nonneg _ (by omega), Int.emod_lt_of_pos _ hm, hp'.mono (by omega)⟩
    unfold belowS mkF
    rw [if_pos (by simp)]
    unfold belowB
    have s0 : ∀ b : M Fl, seq (ite (tst (bin (on2I iLe) (loc 1) (bin (on2I iPow) (con (.int 10)) (con (.int 7))))) (rtn (callF drawS (aCons (loc 0) (aCons (loc 1) aNil)))) sNx) b [some (.node true .lst xs), some (.int m), none, none] = b [some (.node true .lst xs), some (.int m), none, none] := fun b => seq_ok (by simp [mkF, reFrz, seq, ite, rtn, mov, asg, drp, sNx, bnd, bin, un, app, aCons, aNil, idx, loc, con, ret, peek1, peeks, itemOf, on2I, iAdd, iSub, iGt, iGe, iLt, iLe, iDiv, iMod, use1, useL, gI, gN, tst, andT, orT, notT, andE, orE, notE, ifE, ixN, D.frz, D.plain, plainL, argsBack, opLen, opAbs, opInt1, opNeg, disp, cap, callF, takes, puts, selA, sel, aApp, par, gT, gsC, gs0, appF, opDivmod, h, pow10_7])
    have s1 : ∀ b : M Fl, seq (asg (con (.int 0)) (gN 2)) b [some (.node true .lst xs), some (.int m), none, none] = b [some (.node true .lst xs), some (.int m), some (.int 0), none] := fun b => seq_ok (by simp [mkF, reFrz, seq, ite, rtn, mov, asg, drp, sNx, bnd, bin, un, app, aCons, aNil, idx, loc, con, ret, peek1, peeks, itemOf, on2I, iAdd, iSub, iGt, iGe, iLt, iLe, iDiv, iMod, use1, useL, gI, gN, tst, andT, orT, notT, andE, orE, notE, ifE, ixN, D.frz, D.plain, plainL, argsBack, opLen, opAbs, opInt1, opNeg, disp, cap, callF, takes, puts, selA, sel, aApp, par, gT, gsC, gs0, appF, opDivmod])
    have s2 : ∀ b : M Fl, seq (asg (con (.int 1)) (gN 3)) b [some (.node true .lst xs), some (.int m), some (.int 0), none] = b [some (.node true .lst xs), some (.int m), some (.int 0), some (.int 1)] := fun b => seq_ok (by simp [mkF, reFrz, seq, ite, rtn, mov, asg, drp, sNx, bnd, bin, un, app, aCons, aNil, idx, loc, con, ret, peek1, peeks, itemOf, on2I, iAdd, iSub, iGt, iGe, iLt, iLe, iDiv, iMod, use1, useL, gI, gN, tst, andT, orT, notT, andE, orE, notE, ifE, ixN, D.frz, D.plain, plainL, argsBack, opLen, opAbs, opInt1, opNeg, disp, cap, callF, takes, puts, selA, sel, aApp, par, gT, gsC, gs0, appF, opDivmod])
    show (match (seq _ _) [some (.node true .lst xs), some (.int m), none, none] with
      | .stuck => _
      | .ok (.rt d) ρ => _
      | .ok .nx ρ => _
      | .ok _ _ => _
      | .exc x ρ => _) = _
    rw [s0, s1, s2, seq_ok e]
    simp [mkF, reFrz, seq, ite, rtn, mov, asg, drp, sNx, bnd, bin, un, app, aCons, aNil, idx, loc, con, ret, peek1, peeks, itemOf, on2I, iAdd, iSub, iGt, iGe, iLt, iLe, iDiv, iMod, use1, useL, gI, gN, tst, andT, orT, notT, andE, orE, notE, ifE, ixN, D.frz, D.plain, plainL, argsBack, opLen, opAbs, opInt1, opNeg, disp, cap, callF, takes, puts, selA, sel, aApp, par, gT, gsC, gs0, appF, opDivmod, hm]
end Pm
/-! PmU: numbers of so many bits, comprehensions as maps. -/
namespace Pm
open PySem PySem.Spec PyProof.Rows L2
/-- of at most e bits -/
def Sm (e : Nat) (x : Int) : Prop := x.natAbs < 2 ^ e
theorem Sm.mono {e f : Nat} {x : Int} (h : Sm e x) (l : e ≤ f) : Sm f x := Nat.lt_of_lt_of_le h (Nat.pow_le_pow_right (by decide) l)
theorem Sm.mul {e f : Nat} {x y : Int} (h : Sm e x) (k : Sm f y) : Sm (e + f) (x * y) := by
  unfold Sm at *
  rw [Int.natAbs_mul, Nat.pow_add]
  exact Nat.mul_lt_mul'' h k
theorem Sm.add {e : Nat} {x y : Int} (h : Sm e x) (k : Sm e y) : Sm (e + 1) (x + y) := by
  unfold Sm at *
  have := Int.natAbs_add_le x y
  rw [Nat.pow_succ]
  omega
theorem Sm.neg {e : Nat} {x : Int} (h : Sm e x) : Sm e (-x) := by unfold Sm at *; rw [Int.natAbs_neg]; exact h
theorem Sm.sub {e : Nat} {x y : Int} (h : Sm e x) (k : Sm e y) : Sm (e + 1) (x - y) := by rw [Int.sub_eq_add_neg]; exact h.add k.neg
theorem Sm.between {e : Nat} {x y : Int} (h : Sm e y) (h0 : 0 ≤ x) (h1 : x ≤ y) : Sm e x := by unfold Sm at *; omega
theorem Sm.div {e : Nat} {x m : Int} (h : Sm e x) : Sm e (x / m) := by
  unfold Sm at *
  exact Nat.lt_of_le_of_lt (Int.natAbs_ediv_le_natAbs x m) h
theorem Sm.mod {e : Nat} {x m : Int} (h : Sm e m) (hm : 0 < m) : Sm e (x % m) := h.between (Int.emod_nonneg _ (by omega)) (Int.le_of_lt (Int.emod_lt_of_pos _ hm))
theorem Sm.mulOk {e f : Nat} {x y : Int} (h : Sm e x) (k : Sm f y) (he : 0 < e) (hf : 0 < f) (l : e + f ≤ 1000000) : iMul x y = some (.int (x * y)) := by
  have q : Pm.mulOk x y = true := decide_eq_true (.inr (.inr (wide_mul h k he hf l)))
  unfold iMul
  rw [q]
  rfl
theorem Sm.divOk {e : Nat} {x : Int} (h : Sm e x) (l : e ≤ 9000) : divOk x = true := by
  refine decide_eq_true ?_
  by_cases hx : x.natAbs = 0
  · rw [hx]; decide
  · exact (Nat.log2_lt hx).mpr (h.mono l)
theorem Sm.shw {e : Nat} {x : Int} (h : Sm e x) (l : e ≤ 1900) (n : Nat) : shw n (.int x) = true := by
  have : x.natAbs.log2 < 1900 := by
    by_cases hx : x.natAbs = 0
    · rw [hx]; decide
    · exact (Nat.log2_lt hx).mpr (h.mono l)
  cases n <;> exact decide_eq_true this
theorem repr_int {e : Nat} {x : Int} (h : Sm e x) (l : e ≤ 1900) : opRepr [.int x] = some (.str (reprD (.int x))) := by
  show (if shw 60 (.int x) = true then some (D.str (reprD (.int x))) else none) = _
  rw [if_pos (h.shw l 60)]
theorem ne_int (x y : Int) : opNe [.int x, .int y] = some (.bl (!(x == y))) := rfl
theorem eq_int' (x y : Int) : opEq [.int x, .int y] = some (.bl (x == y)) := rfl
/-- a comprehension that keeps every item -/
theorem compIt_map {own : List Nat} {g : Tg} {c : M Bool} {e : M EV} {ρ : Env} (v : D → D) : ∀ (ds acc : List D), (∀ d ∈ ds, ∃ ρ1 ρ2 ρ3 ρ4 ev, g d ρ = .ok () ρ1 ∧ c ρ1 = .ok true ρ2 ∧ e ρ2 = .ok ev ρ3 ∧ use1 ev ρ3 = .ok (v d) ρ4 ∧ wipeE ρ4 own = ρ) → acc.length + ds.length ≤ cap →
    compIt own g c e ds ρ acc = .ok (acc ++ ds.map v) ρ
  | [], acc, _, _ => by unfold compIt; rw [List.map_nil, List.append_nil]
  | d :: ds, acc, h, hl => by
    obtain ⟨ρ1, ρ2, ρ3, ρ4, ev, e1, e2, e3, e4, e5⟩ := h d List.mem_cons_self
    have hl' : acc.length < cap := by rw [List.length_cons] at hl; omega
    unfold compIt
    simp only [e1, e2, e3, e4, if_pos hl', e5]
    rw [compIt_map v ds (acc ++ [v d]) (fun d' hd => h d' (List.mem_cons_of_mem _ hd)) (by rw [List.length_append, List.length_singleton]; rw [List.length_cons] at hl; omega), List.map_cons, List.append_assoc]
    rfl
theorem sum_ints (b : Bool) (l : List Int) : opSum [.node b .lst (l.map D.int)] = some (.int l.sum) := by
  unfold opSum
  simp only [intsD_map]
theorem comp_of {own : List Nat} {s : M (List D)} {g : Tg} {c : M Bool} {e : M EV} {ρ ρ1 ρ2 : Env} {ds acc : List D} (hs : s ρ = .ok ds ρ1) (hc : compIt own g c e ds (wipeE ρ1 own) [] = .ok acc ρ2) : comp own s g c e ρ = .ok (.val (.lst true acc)) (backE ρ1 ρ2 own) := by
  unfold comp bnd
  simp only [hs, hc]
theorem forS_of {s : M (List D)} {g : Tg} {b : M Fl} {ρ ρ1 : Env} {ds : List D} (hs : s ρ = .ok ds ρ1) : forS s g b ρ = forIt g b ds ρ1 := by
  unfold forS bnd
  simp only [hs]
theorem src_r1 {f : M (List EV)} {ρ ρ1 : Env} {es : List EV} {n : Nat} (h : f ρ = .ok es ρ1) (hp : peeks ρ1 es = some [.int n]) (hn : n ≤ 1000000) : srcR1 f ρ = .ok (rangeD 0 n) ρ1 := by
  have h62 : sm62 (n : Int) = true := sm62_of ⟨by omega, by omega⟩
  unfold srcR1 bnd
  simp only [h, hp, h62, if_true, Int.toNat_natCast]
theorem rtn_app1 {g : List D → Option D} {f : M EV} {ρ ρ1 : Env} {d d' : D} (h : f ρ = .ok (.val d) ρ1) (hg : g [d] = some d') : rtn (app g (aCons f aNil)) ρ = .ok (.rt d') ρ1 := by simp [mkF, reFrz, seq, Pm.ite, rtn, mov, asg, drp, sNx, bnd, Pm.bin, Pm.un, app, aCons, aNil, idx, loc, con, Pm.ret, peek1, peeks, itemOf, on2I, iAdd, iSub, iGt, iGe, iLt, iLe, iDiv, iMod, use1, useL, gI, gN, tst, andT, orT, notT, andE, orE, notE, ifE, ixN, D.frz, D.plain, plainL, argsBack, opLen, opAbs, opInt1, opNeg, disp, cap, callF, takes, puts, selA, sel, aApp, par, gT, gsC, gs0, appF, opDivmod, h, hg]
theorem mkF_rt {n m : Nat} {reb : List Nat} {b : M Fl} {ds as : List D} {d : D} {ρ : Env} (h : b ((reFrz reb 0 ds).map some ++ List.replicate (m - n) none) = .ok (.rt d) ρ) (ha : argsBack reb ρ 0 (reFrz reb 0 ds) = some as) (hl : ds.length = n ∧ n ≤ m := by exact ⟨rfl, by decide⟩) : mkF n m reb b ds = .ret d as := by
  unfold mkF
  rw [if_pos hl, h]
  simp only [ha]
end Pm
/-! PmW: what is drawn, for any numbers of the mixing (printed by mkdraw.py). -/
namespace Pm
open PySem PySem.Spec PyProof.Rows L2
structure DK where
  c1 : Int
  c2 : Int
  p1 : Int
  q1 : Int
  r1 : Int
  p2 : Int
  s : Int
  t : Int
  p3 : Int
def DK.ok (k : DK) : Prop := (0 < k.c1 ∧ k.c1 < 4294967296) ∧ (0 < k.c2 ∧ k.c2 < 4294967296) ∧ (0 < k.p1 ∧ k.p1 < 4294967296) ∧ (0 < k.q1 ∧ k.q1 < 1000000) ∧ (0 < k.r1 ∧ k.r1 < 4294967296) ∧ (0 < k.p2 ∧ k.p2 < 4294967296) ∧ (0 < k.s ∧ k.s < 1000000) ∧ (0 < k.t ∧ k.t < 1000000) ∧ 0 < k.p3
/-- what a draw is to a law: a number below the bound, the pen one place further -/
def Draws (S : FSem) : Prop := ∀ (ns : List Int) (d : D) (a m : Int), ns.length ≤ 63 → Pen ns a d → a ≤ 1000000 → 0 < m → divOk m = true → ∃ (r : Int) (d' : D), S [d, .int m] = .ret (.int r) [d', .int m] ∧ 0 ≤ r ∧ r < m ∧ Pen ns (a + 1) d'
def mxA (k : DK) (cell p : Int) : Int := (cell % k.p1 + k.q1 * p + k.r1) ^ 5 % k.p2
theorem mxA_lt {k : DK} (h : k.ok) (cell p : Int) : 0 ≤ mxA k cell p ∧ mxA k cell p < 4294967296 := by
  obtain ⟨_, _, _, _, _, h6, _⟩ := h
  exact ⟨Int.emod_nonneg _ (by omega), Int.lt_trans (Int.emod_lt_of_pos _ h6.1) h6.2⟩
theorem k_pow5 {k : DK} (h : k.ok) {cell p : Int} (hp0 : 0 ≤ p) (hp : p ≤ 1000000) : iPow (cell % k.p1 + k.q1 * p + k.r1) 5 = some (.int ((cell % k.p1 + k.q1 * p + k.r1) ^ 5)) := by
  obtain ⟨_, _, h3, h4, h5, _⟩ := h
  have h1 := Int.emod_nonneg cell (show k.p1 ≠ 0 by omega)
  have h2 := Int.emod_lt_of_pos cell h3.1
  have h6 : k.q1 * p ≤ 1000000 * 1000000 := Int.mul_le_mul (by omega) hp hp0 (by decide)
  have h7 : 0 ≤ k.q1 * p := Int.mul_nonneg (by omega) hp0
  exact powN (j := 5) (by omega) (by decide)

noncomputable def drawAB (k : DK) : M Fl := (seq (ite (tst (bin (on2I iGt) (idx (aCons (loc 0) (aCons (con (.int 2)) aNil))) (con (.int 0)))) (seq (asg (bin (on2I iMod) (idx (aCons (loc 0) (aCons (con (.int 2)) aNil))) (loc 1)) (gN 2))
    (seq (asg (bin (on2I iDiv) (idx (aCons (loc 0) (aCons (con (.int 2)) aNil))) (loc 1)) (gI 0 (con (.int 2))))
    (rtn (mov 2)))) sNx)
    (seq (asg (idx (aCons (loc 0) (aCons (con (.int 1)) aNil))) (gN 3))
    (seq (asg (bin (on2I iAdd) (loc 3) (con (.int 1))) (gI 0 (con (.int 1))))
    (seq (asg (bin (on2I iAdd) (bin (on2I iMul) (con (.int k.c1)) (loc 3)) (con (.int k.c2))) (gN 4))
    (seq (ite (tst (bin opNe (idx (aCons (loc 0) (aCons (con (.int 0)) aNil))) (disp true .lst aNil))) (asg (idx (aCons (idx (aCons (loc 0) (aCons (con (.int 0)) aNil))) (aCons (bin (on2I iMod) (loc 3) (app opLen (aCons (idx (aCons (loc 0) (aCons (con (.int 0)) aNil))) aNil))) aNil))) (gN 4)) sNx)
    (seq (ite (andT (tst (bin (on2I iLt) (loc 3) (app opLen (aCons (idx (aCons (loc 0) (aCons (con (.int 0)) aNil))) aNil)))) (tst (bin (on2I iGe) (app opAbs (aCons (loc 4) aNil)) (bin (on2I iPow) (con (.int 10)) (con (.int 18)))))) (seq (asg (bin (on2I iAdd) (bin (on2I iMul) (con (.int 2)) (app opAbs (aCons (loc 4) aNil))) (app opInt1 (aCons (bin (on2I iLt) (loc 4) (con (.int 0))) aNil))) (gN 5))
    (seq (asg (bin (on2I iDiv) (loc 5) (loc 1)) (gI 0 (con (.int 2))))
    (rtn (bin (on2I iMod) (loc 5) (loc 1))))) sNx)
    (seq (asg (bin (on2I iMod) (bin (on2I iPow) (bin (on2I iAdd) (bin (on2I iAdd) (bin (on2I iMod) (loc 4) (con (.int k.p1))) (bin (on2I iMul) (con (.int k.q1)) (loc 3))) (con (.int k.r1))) (con (.int 5))) (con (.int k.p2))) (gN 6))
    (seq (asg (bin (on2I iMod) (bin (on2I iPow) (bin (on2I iAdd) (bin (on2I iAdd) (bin (on2I iMul) (loc 6) (bin (on2I iAdd) (bin (on2I iMul) (con (.int 2)) (loc 3)) (con (.int k.s)))) (bin (on2I iMul) (bin (on2I iMul) (con (.int k.t)) (loc 3)) (loc 3))) (con (.int 7))) (con (.int 3))) (con (.int k.p3))) (gN 6))
    (rtn (bin (on2I iMod) (bin (on2I iDiv) (loc 6) (con (.int 16))) (loc 1)))))))))))
noncomputable def drawA (k : DK) : FSem := mkF 2 7 [] (drawAB k)
def mvA (k : DK) (cell p : Int) : Int := (mxA k cell p * (2 * p + k.s) + k.t * p * p + 7) ^ 3 % k.p3
theorem pw3A {k : DK} (h : k.ok) {cell p : Int} (hp0 : 0 ≤ p) (hp : p ≤ 1000000) : iPow (mxA k cell p * (2 * p + k.s) + k.t * p * p + 7) 3 = some (.int ((mxA k cell p * (2 * p + k.s) + k.t * p * p + 7) ^ 3)) := by
  obtain ⟨h1, h2⟩ := mxA_lt h cell p
  obtain ⟨_, _, _, _, _, _, h7, h8, _⟩ := h
  have h3 : mxA k cell p * (2 * p + k.s) ≤ 4294967296 * 3000000 := Int.mul_le_mul (by omega) (by omega) (by omega) (by decide)
  have h4 : 0 ≤ mxA k cell p * (2 * p + k.s) := Int.mul_nonneg h1 (by omega)
  have h5 : k.t * p ≤ 1000000 * 1000000 := Int.mul_le_mul (by omega) hp hp0 (by decide)
  have h6 : 0 ≤ k.t * p := Int.mul_nonneg (by omega) hp0
  have h9 : k.t * p * p ≤ 1000000 * 1000000 * 1000000 := Int.mul_le_mul h5 hp hp0 (by decide)
  have h10 : 0 ≤ k.t * p * p := Int.mul_nonneg h6 hp0
  exact powN (j := 3) (by omega) (by decide)
theorem drawA_left {k : DK} {c : D} {p left m : Int} (h0 : 0 < left) (hm : 0 < m) (hd : divOk m = true) : drawA k [.node true .lst [c, .int p, .int left], .int m] = .ret (.int (left % m)) [.node true .lst [c, .int p, .int (left / m)], .int m] := by
  simp [drawA, drawAB, mkF, reFrz, seq, Pm.ite, rtn, mov, asg, drp, sNx, bnd, Pm.bin, Pm.un, app, aCons, aNil, idx, loc, con, Pm.ret, peek1, peeks, itemOf, on2I, iAdd, iSub, iGt, iGe, iLt, iLe, iDiv, iMod, use1, useL, gI, gN, tst, andT, orT, notT, andE, orE, notE, ifE, ixN, D.frz, D.plain, plainL, argsBack, opLen, opAbs, opInt1, opNeg, disp, cap, callF, takes, puts, selA, sel, aApp, par, gT, gsC, gs0, appF, opDivmod, hm, hd, h0]
theorem drawA_small {k : DK} (hk : k.ok) {ns : List Int} {c : Int} {b : Bool} {p left m : Int} (h0 : ¬ 0 < left) (hm : 0 < m) (hd : divOk m = true) (hp : 0 ≤ p) (hp2 : p ≤ 1000000) (hl : ns.length ≤ 63) (hc : (ns = [] ∧ c = k.c1 * p + k.c2) ∨ (ns ≠ [] ∧ atI (ns.map D.int) (p % (ns.length : Int)) = some (.int c)))
    (hs : ¬ (p < (ns.length : Int) ∧ 1000000000000000000 ≤ (if c < 0 then -c else c))) :
    drawA k [.node true .lst [.node b .lst (ns.map D.int), .int p, .int left], .int m] = .ret (.int (mvA k c p / 16 % m)) [.node true .lst [.node false .lst (ns.map D.int), .int (p + 1), .int left], .int m] := by
  have e1 := k_pow5 hk (cell := c) hp hp2
  have e2 := pw3A hk (cell := c) hp hp2
  obtain ⟨x1, x2⟩ := mxA_lt hk c p
  obtain ⟨h1, h2, h3, h4, h5, h6, h7, h8, h9⟩ := hk
  have e3 : iMul k.c1 p = some (.int (k.c1 * p)) := mulL (by omega)
  have e4 : iMul k.q1 p = some (.int (k.q1 * p)) := mulL (by omega)
  have e5 : iMul 2 p = some (.int (2 * p)) := mulL (by decide)
  have e9 : iMul k.t p = some (.int (k.t * p)) := mulL (by omega)
  have e10 : iMul (k.t * p) p = some (.int (k.t * p * p)) := mulR (by omega)
  have e6 : iMul (mxA k c p) (2 * p + k.s) = some (.int (mxA k c p * (2 * p + k.s))) := mulR (by omega)
  have e8 : divOk 16 = true := by decide
  have y1 := h3.1
  have y2 := h6.1
  have pl := plain_ints ns
  have fz := frz_ints ns
  simp only [mxA] at e2 e6
  rcases hc with ⟨rfl, rfl⟩ | ⟨hn, hc⟩
  · have z1 : ¬ p < 0 := by omega
    have e7 : opNe [.node false .lst [], .node true .lst []] = some (.bl false) := rfl
    cases b <;> simp [drawA, drawAB, mkF, reFrz, seq, Pm.ite, rtn, mov, asg, drp, sNx, bnd, Pm.bin, Pm.un, app, aCons, aNil, idx, loc, con, Pm.ret, peek1, peeks, itemOf, on2I, iAdd, iSub, iGt, iGe, iLt, iLe, iDiv, iMod, use1, useL, gI, gN, tst, andT, orT, notT, andE, orE, notE, ifE, ixN, D.frz, D.plain, plainL, argsBack, opLen, opAbs, opInt1, opNeg, disp, cap, callF, takes, puts, selA, sel, aApp, par, gT, gsC, gs0, appF, opDivmod, hm, hd, h0, e1, e2, e3, e4, e5, e6, e7, e8, e9, e10, y1, y2, h9, z1, frzL, mvA, mxA, pow10_18]
  · have e7 : opNe [.node false .lst (ns.map D.int), .node true .lst []] = some (.bl true) := by rw [neNil, decide_eq_true hn]
    have z1 : 0 < ns.length := List.length_pos_iff.mpr hn
    have z2 : ns.length ≤ 1000000 := by omega
    by_cases q : p < (ns.length : Int)
    · have q2 : ¬ 1000000000000000000 ≤ (if c < 0 then -c else c) := fun z => hs ⟨q, z⟩
      cases b <;> simp [drawA, drawAB, mkF, reFrz, seq, Pm.ite, rtn, mov, asg, drp, sNx, bnd, Pm.bin, Pm.un, app, aCons, aNil, idx, loc, con, Pm.ret, peek1, peeks, itemOf, on2I, iAdd, iSub, iGt, iGe, iLt, iLe, iDiv, iMod, use1, useL, gI, gN, tst, andT, orT, notT, andE, orE, notE, ifE, ixN, D.frz, D.plain, plainL, argsBack, opLen, opAbs, opInt1, opNeg, disp, cap, callF, takes, puts, selA, sel, aApp, par, gT, gsC, gs0, appF, opDivmod, hm, hd, h0, e1, e2, e3, e4, e5, e6, e7, e8, e9, e10, y1, y2, h9, z1, z2, pl, fz, hc, q, q2, mvA, mxA, pow10_18]
    · cases b <;> simp [drawA, drawAB, mkF, reFrz, seq, Pm.ite, rtn, mov, asg, drp, sNx, bnd, Pm.bin, Pm.un, app, aCons, aNil, idx, loc, con, Pm.ret, peek1, peeks, itemOf, on2I, iAdd, iSub, iGt, iGe, iLt, iLe, iDiv, iMod, use1, useL, gI, gN, tst, andT, orT, notT, andE, orE, notE, ifE, ixN, D.frz, D.plain, plainL, argsBack, opLen, opAbs, opInt1, opNeg, disp, cap, callF, takes, puts, selA, sel, aApp, par, gT, gsC, gs0, appF, opDivmod, hm, hd, h0, e1, e2, e3, e4, e5, e6, e7, e8, e9, e10, y1, y2, h9, z1, z2, pl, fz, hc, q, mvA, mxA, pow10_18]

theorem drawA_great {k : DK} (hk : k.ok) {ns : List Int} {c : Int} {b : Bool} {p left m : Int} (h0 : ¬ 0 < left) (hm : 0 < m) (hd : divOk m = true) (hn : ns ≠ []) (hl : ns.length ≤ 63) (hp0 : 0 ≤ p) (hp2 : p ≤ 1000000) (hc : atI (ns.map D.int) (p % (ns.length : Int)) = some (.int c))
    (q : p < (ns.length : Int)) (q2 : 1000000000000000000 ≤ (if c < 0 then -c else c)) :
    ∃ g : Int, 0 ≤ g ∧ drawA k [.node true .lst [.node b .lst (ns.map D.int), .int p, .int left], .int m] = .ret (.int (g % m)) [.node true .lst [.node false .lst (ns.map D.int), .int (p + 1), .int (g / m)], .int m] := by
  obtain ⟨h1, h2, h3, h4, h5, h6, h7, h8, h9⟩ := hk
  have e3 : iMul k.c1 p = some (.int (k.c1 * p)) := mulL (by omega)
  have e7 : opNe [.node false .lst (ns.map D.int), .node true .lst []] = some (.bl true) := by rw [neNil, decide_eq_true hn]
  have z1 : 0 < ns.length := List.length_pos_iff.mpr hn
  have z2 : ns.length ≤ 1000000 := by omega
  have pl := plain_ints ns
  have fz := frz_ints ns
  refine ⟨2 * (if c < 0 then -c else c) + (if c < 0 then 1 else 0), by split at q2 <;> split <;> omega, ?_⟩
  have e4 : iMul 2 (if c < 0 then -c else c) = some (.int (2 * (if c < 0 then -c else c))) := mulL (by decide)
  by_cases hc0 : c < 0
  · rw [if_pos hc0] at q2 e4
    cases b <;> simp [drawA, drawAB, mkF, reFrz, seq, Pm.ite, rtn, mov, asg, drp, sNx, bnd, Pm.bin, Pm.un, app, aCons, aNil, idx, loc, con, Pm.ret, peek1, peeks, itemOf, on2I, iAdd, iSub, iGt, iGe, iLt, iLe, iDiv, iMod, use1, useL, gI, gN, tst, andT, orT, notT, andE, orE, notE, ifE, ixN, D.frz, D.plain, plainL, argsBack, opLen, opAbs, opInt1, opNeg, disp, cap, callF, takes, puts, selA, sel, aApp, par, gT, gsC, gs0, appF, opDivmod, hm, hd, h0, e3, e4, e7, z1, z2, pl, fz, hc, q, q2, hc0, pow10_18]
  · rw [if_neg hc0] at q2 e4
    cases b <;> simp [drawA, drawAB, mkF, reFrz, seq, Pm.ite, rtn, mov, asg, drp, sNx, bnd, Pm.bin, Pm.un, app, aCons, aNil, idx, loc, con, Pm.ret, peek1, peeks, itemOf, on2I, iAdd, iSub, iGt, iGe, iLt, iLe, iDiv, iMod, use1, useL, gI, gN, tst, andT, orT, notT, andE, orE, notE, ifE, ixN, D.frz, D.plain, plainL, argsBack, opLen, opAbs, opInt1, opNeg, disp, cap, callF, takes, puts, selA, sel, aApp, par, gT, gsC, gs0, appF, opDivmod, hm, hd, h0, e3, e4, e7, z1, z2, pl, fz, hc, q, q2, hc0, pow10_18]
theorem drawsA (k : DK) (hk : k.ok) : Draws (drawA k) := by
  intro ns d a m hl h ha hm hd
  obtain ⟨b, p, left, rfl, hp, hpa, hl0⟩ := h
  have rng : ∀ x : Int, 0 ≤ x % m ∧ x % m < m := fun x => ⟨Int.emod_nonneg x (by omega), Int.emod_lt_of_pos x hm⟩
  by_cases h0 : 0 < left
  · exact ⟨_, _, drawA_left h0 hm hd, (rng _).1, (rng _).2, b, _, _, rfl, by omega, by omega, Int.ediv_nonneg hl0 (by omega)⟩
  · by_cases hn : ns = []
    · subst hn
      refine ⟨_, _, drawA_small hk (c := k.c1 * p + k.c2) h0 hm hd hp (by omega) hl (.inl ⟨rfl, rfl⟩) (fun z => ?_), (rng _).1, (rng _).2, false, _, _, rfl, by omega, by omega, hl0⟩
      have z1 := z.1
      rw [List.length_nil] at z1
      omega
    · obtain ⟨c, hc⟩ := at_ints hp hn
      by_cases hs : p < (ns.length : Int) ∧ 1000000000000000000 ≤ (if c < 0 then -c else c)
      · obtain ⟨g, hg, e⟩ := drawA_great hk (b := b) h0 hm hd hn hl hp (by omega) hc hs.1 hs.2
        exact ⟨_, _, e, (rng _).1, (rng _).2, false, _, _, rfl, by omega, by omega, Int.ediv_nonneg hg (by omega)⟩
      · exact ⟨_, _, drawA_small hk h0 hm hd hp (by omega) hl (.inr ⟨hn, hc⟩) hs, (rng _).1, (rng _).2, false, _, _, rfl, by omega, by omega, hl0⟩

noncomputable def drawCB (k : DK) : M Fl := (seq (ite (tst (bin (on2I iGt) (idx (aCons (loc 0) (aCons (con (.int 2)) aNil))) (con (.int 0)))) (seq (asg (bin (on2I iMod) (idx (aCons (loc 0) (aCons (con (.int 2)) aNil))) (loc 1)) (gN 2))
    (seq (asg (bin (on2I iDiv) (idx (aCons (loc 0) (aCons (con (.int 2)) aNil))) (loc 1)) (gI 0 (con (.int 2))))
    (rtn (mov 2)))) sNx)
    (seq (asg (idx (aCons (loc 0) (aCons (con (.int 1)) aNil))) (gN 3))
    (seq (asg (bin (on2I iAdd) (loc 3) (con (.int 1))) (gI 0 (con (.int 1))))
    (seq (asg (bin (on2I iAdd) (bin (on2I iMul) (con (.int k.c1)) (loc 3)) (con (.int k.c2))) (gN 4))
    (seq (ite (tst (bin opNe (idx (aCons (loc 0) (aCons (con (.int 0)) aNil))) (disp true .lst aNil))) (asg (idx (aCons (idx (aCons (loc 0) (aCons (con (.int 0)) aNil))) (aCons (bin (on2I iMod) (loc 3) (app opLen (aCons (idx (aCons (loc 0) (aCons (con (.int 0)) aNil))) aNil))) aNil))) (gN 4)) sNx)
    (seq (ite (andT (tst (bin (on2I iLt) (loc 3) (app opLen (aCons (idx (aCons (loc 0) (aCons (con (.int 0)) aNil))) aNil)))) (tst (bin (on2I iGe) (app opAbs (aCons (loc 4) aNil)) (bin (on2I iPow) (con (.int 10)) (con (.int 18)))))) (seq (asg (bin (on2I iAdd) (bin (on2I iMul) (con (.int 2)) (app opAbs (aCons (loc 4) aNil))) (app opInt1 (aCons (bin (on2I iLt) (loc 4) (con (.int 0))) aNil))) (gN 5))
    (seq (asg (bin (on2I iDiv) (loc 5) (loc 1)) (gI 0 (con (.int 2))))
    (rtn (bin (on2I iMod) (loc 5) (loc 1))))) sNx)
    (seq (asg (bin (on2I iMod) (bin (on2I iPow) (bin (on2I iAdd) (bin (on2I iAdd) (bin (on2I iMod) (loc 4) (con (.int k.p1))) (bin (on2I iMul) (con (.int k.q1)) (loc 3))) (con (.int k.r1))) (con (.int 5))) (con (.int k.p2))) (gN 6))
    (seq (asg (bin (on2I iMod) (bin (on2I iPow) (bin (on2I iAdd) (bin (on2I iMul) (loc 6) (bin (on2I iAdd) (bin (on2I iMul) (con (.int 2)) (loc 3)) (con (.int k.s)))) (con (.int k.t))) (con (.int 3))) (con (.int k.p3))) (gN 6))
    (rtn (bin (on2I iMod) (bin (on2I iDiv) (loc 6) (con (.int 16))) (loc 1)))))))))))
noncomputable def drawC (k : DK) : FSem := mkF 2 7 [] (drawCB k)
def mvC (k : DK) (cell p : Int) : Int := (mxA k cell p * (2 * p + k.s) + k.t) ^ 3 % k.p3
theorem pw3C {k : DK} (h : k.ok) {cell p : Int} (hp0 : 0 ≤ p) (hp : p ≤ 1000000) : iPow (mxA k cell p * (2 * p + k.s) + k.t) 3 = some (.int ((mxA k cell p * (2 * p + k.s) + k.t) ^ 3)) := by
  obtain ⟨h1, h2⟩ := mxA_lt h cell p
  obtain ⟨_, _, _, _, _, _, h7, h8, _⟩ := h
  have h3 : mxA k cell p * (2 * p + k.s) ≤ 4294967296 * 3000000 := Int.mul_le_mul (by omega) (by omega) (by omega) (by decide)
  have h4 : 0 ≤ mxA k cell p * (2 * p + k.s) := Int.mul_nonneg h1 (by omega)
  have h5 : k.t * p ≤ 1000000 * 1000000 := Int.mul_le_mul (by omega) hp hp0 (by decide)
  have h6 : 0 ≤ k.t * p := Int.mul_nonneg (by omega) hp0
  have h9 : k.t * p * p ≤ 1000000 * 1000000 * 1000000 := Int.mul_le_mul h5 hp hp0 (by decide)
  have h10 : 0 ≤ k.t * p * p := Int.mul_nonneg h6 hp0
  exact powN (j := 3) (by omega) (by decide)
theorem drawC_left {k : DK} {c : D} {p left m : Int} (h0 : 0 < left) (hm : 0 < m) (hd : divOk m = true) : drawC k [.node true .lst [c, .int p, .int left], .int m] = .ret (.int (left % m)) [.node true .lst [c, .int p, .int (left / m)], .int m] := by
  simp [drawC, drawCB, mkF, reFrz, seq, Pm.ite, rtn, mov, asg, drp, sNx, bnd, Pm.bin, Pm.un, app, aCons, aNil, idx, loc, con, Pm.ret, peek1, peeks, itemOf, on2I, iAdd, iSub, iGt, iGe, iLt, iLe, iDiv, iMod, use1, useL, gI, gN, tst, andT, orT, notT, andE, orE, notE, ifE, ixN, D.frz, D.plain, plainL, argsBack, opLen, opAbs, opInt1, opNeg, disp, cap, callF, takes, puts, selA, sel, aApp, par, gT, gsC, gs0, appF, opDivmod, hm, hd, h0]
theorem drawC_small {k : DK} (hk : k.ok) {ns : List Int} {c : Int} {b : Bool} {p left m : Int} (h0 : ¬ 0 < left) (hm : 0 < m) (hd : divOk m = true) (hp : 0 ≤ p) (hp2 : p ≤ 1000000) (hl : ns.length ≤ 63) (hc : (ns = [] ∧ c = k.c1 * p + k.c2) ∨ (ns ≠ [] ∧ atI (ns.map D.int) (p % (ns.length : Int)) = some (.int c)))
    (hs : ¬ (p < (ns.length : Int) ∧ 1000000000000000000 ≤ (if c < 0 then -c else c))) :
    drawC k [.node true .lst [.node b .lst (ns.map D.int), .int p, .int left], .int m] = .ret (.int (mvC k c p / 16 % m)) [.node true .lst [.node false .lst (ns.map D.int), .int (p + 1), .int left], .int m] := by
  have e1 := k_pow5 hk (cell := c) hp hp2
  have e2 := pw3C hk (cell := c) hp hp2
  obtain ⟨x1, x2⟩ := mxA_lt hk c p
  obtain ⟨h1, h2, h3, h4, h5, h6, h7, h8, h9⟩ := hk
  have e3 : iMul k.c1 p = some (.int (k.c1 * p)) := mulL (by omega)
  have e4 : iMul k.q1 p = some (.int (k.q1 * p)) := mulL (by omega)
  have e5 : iMul 2 p = some (.int (2 * p)) := mulL (by decide)
  have e9 : iMul k.t p = some (.int (k.t * p)) := mulL (by omega)
  have e10 : iMul (k.t * p) p = some (.int (k.t * p * p)) := mulR (by omega)
  have e6 : iMul (mxA k c p) (2 * p + k.s) = some (.int (mxA k c p * (2 * p + k.s))) := mulR (by omega)
  have e8 : divOk 16 = true := by decide
  have y1 := h3.1
  have y2 := h6.1
  have pl := plain_ints ns
  have fz := frz_ints ns
  simp only [mxA] at e2 e6
  rcases hc with ⟨rfl, rfl⟩ | ⟨hn, hc⟩
  · have z1 : ¬ p < 0 := by omega
    have e7 : opNe [.node false .lst [], .node true .lst []] = some (.bl false) := rfl
    cases b <;> simp [drawC, drawCB, mkF, reFrz, seq, Pm.ite, rtn, mov, asg, drp, sNx, bnd, Pm.bin, Pm.un, app, aCons, aNil, idx, loc, con, Pm.ret, peek1, peeks, itemOf, on2I, iAdd, iSub, iGt, iGe, iLt, iLe, iDiv, iMod, use1, useL, gI, gN, tst, andT, orT, notT, andE, orE, notE, ifE, ixN, D.frz, D.plain, plainL, argsBack, opLen, opAbs, opInt1, opNeg, disp, cap, callF, takes, puts, selA, sel, aApp, par, gT, gsC, gs0, appF, opDivmod, hm, hd, h0, e1, e2, e3, e4, e5, e6, e7, e8, e9, e10, y1, y2, h9, z1, frzL, mvC, mxA, pow10_18]
  · have e7 : opNe [.node false .lst (ns.map D.int), .node true .lst []] = some (.bl true) := by rw [neNil, decide_eq_true hn]
    have z1 : 0 < ns.length := List.length_pos_iff.mpr hn
    have z2 : ns.length ≤ 1000000 := by omega
    by_cases q : p < (ns.length : Int)
    · have q2 : ¬ 1000000000000000000 ≤ (if c < 0 then -c else c) := fun z => hs ⟨q, z⟩
      cases b <;> simp [drawC, drawCB, mkF, reFrz, seq, Pm.ite, rtn, mov, asg, drp, sNx, bnd, Pm.bin, Pm.un, app, aCons, aNil, idx, loc, con, Pm.ret, peek1, peeks, itemOf, on2I, iAdd, iSub, iGt, iGe, iLt, iLe, iDiv, iMod, use1, useL, gI, gN, tst, andT, orT, notT, andE, orE, notE, ifE, ixN, D.frz, D.plain, plainL, argsBack, opLen, opAbs, opInt1, opNeg, disp, cap, callF, takes, puts, selA, sel, aApp, par, gT, gsC, gs0, appF, opDivmod, hm, hd, h0, e1, e2, e3, e4, e5, e6, e7, e8, e9, e10, y1, y2, h9, z1, z2, pl, fz, hc, q, q2, mvC, mxA, pow10_18]
    · cases b <;> simp [drawC, drawCB, mkF, reFrz, seq, Pm.ite, rtn, mov, asg, drp, sNx, bnd, Pm.bin, Pm.un, app, aCons, aNil, idx, loc, con, Pm.ret, peek1, peeks, itemOf, on2I, iAdd, iSub, iGt, iGe, iLt, iLe, iDiv, iMod, use1, useL, gI, gN, tst, andT, orT, notT, andE, orE, notE, ifE, ixN, D.frz, D.plain, plainL, argsBack, opLen, opAbs, opInt1, opNeg, disp, cap, callF, takes, puts, selA, sel, aApp, par, gT, gsC, gs0, appF, opDivmod, hm, hd, h0, e1, e2, e3, e4, e5, e6, e7, e8, e9, e10, y1, y2, h9, z1, z2, pl, fz, hc, q, mvC, mxA, pow10_18]

theorem drawC_great {k : DK} (hk : k.ok) {ns : List Int} {c : Int} {b : Bool} {p left m : Int} (h0 : ¬ 0 < left) (hm : 0 < m) (hd : divOk m = true) (hn : ns ≠ []) (hl : ns.length ≤ 63) (hp0 : 0 ≤ p) (hp2 : p ≤ 1000000) (hc : atI (ns.map D.int) (p % (ns.length : Int)) = some (.int c))
    (q : p < (ns.length : Int)) (q2 : 1000000000000000000 ≤ (if c < 0 then -c else c)) :
    ∃ g : Int, 0 ≤ g ∧ drawC k [.node true .lst [.node b .lst (ns.map D.int), .int p, .int left], .int m] = .ret (.int (g % m)) [.node true .lst [.node false .lst (ns.map D.int), .int (p + 1), .int (g / m)], .int m] := by
  obtain ⟨h1, h2, h3, h4, h5, h6, h7, h8, h9⟩ := hk
  have e3 : iMul k.c1 p = some (.int (k.c1 * p)) := mulL (by omega)
  have e7 : opNe [.node false .lst (ns.map D.int), .node true .lst []] = some (.bl true) := by rw [neNil, decide_eq_true hn]
  have z1 : 0 < ns.length := List.length_pos_iff.mpr hn
  have z2 : ns.length ≤ 1000000 := by omega
  have pl := plain_ints ns
  have fz := frz_ints ns
  refine ⟨2 * (if c < 0 then -c else c) + (if c < 0 then 1 else 0), by split at q2 <;> split <;> omega, ?_⟩
  have e4 : iMul 2 (if c < 0 then -c else c) = some (.int (2 * (if c < 0 then -c else c))) := mulL (by decide)
  by_cases hc0 : c < 0
  · rw [if_pos hc0] at q2 e4
    cases b <;> simp [drawC, drawCB, mkF, reFrz, seq, Pm.ite, rtn, mov, asg, drp, sNx, bnd, Pm.bin, Pm.un, app, aCons, aNil, idx, loc, con, Pm.ret, peek1, peeks, itemOf, on2I, iAdd, iSub, iGt, iGe, iLt, iLe, iDiv, iMod, use1, useL, gI, gN, tst, andT, orT, notT, andE, orE, notE, ifE, ixN, D.frz, D.plain, plainL, argsBack, opLen, opAbs, opInt1, opNeg, disp, cap, callF, takes, puts, selA, sel, aApp, par, gT, gsC, gs0, appF, opDivmod, hm, hd, h0, e3, e4, e7, z1, z2, pl, fz, hc, q, q2, hc0, pow10_18]
  · rw [if_neg hc0] at q2 e4
    cases b <;> simp [drawC, drawCB, mkF, reFrz, seq, Pm.ite, rtn, mov, asg, drp, sNx, bnd, Pm.bin, Pm.un, app, aCons, aNil, idx, loc, con, Pm.ret, peek1, peeks, itemOf, on2I, iAdd, iSub, iGt, iGe, iLt, iLe, iDiv, iMod, use1, useL, gI, gN, tst, andT, orT, notT, andE, orE, notE, ifE, ixN, D.frz, D.plain, plainL, argsBack, opLen, opAbs, opInt1, opNeg, disp, cap, callF, takes, puts, selA, sel, aApp, par, gT, gsC, gs0, appF, opDivmod, hm, hd, h0, e3, e4, e7, z1, z2, pl, fz, hc, q, q2, hc0, pow10_18]
theorem drawsC (k : DK) (hk : k.ok) : Draws (drawC k) := by
  intro ns d a m hl h ha hm hd
  obtain ⟨b, p, left, rfl, hp, hpa, hl0⟩ := h
  have rng : ∀ x : Int, 0 ≤ x % m ∧ x % m < m := fun x => ⟨Int.emod_nonneg x (by omega), Int.emod_lt_of_pos x hm⟩
  by_cases h0 : 0 < left
  · exact ⟨_, _, drawC_left h0 hm hd, (rng _).1, (rng _).2, b, _, _, rfl, by omega, by omega, Int.ediv_nonneg hl0 (by omega)⟩
  · by_cases hn : ns = []
    · subst hn
      refine ⟨_, _, drawC_small hk (c := k.c1 * p + k.c2) h0 hm hd hp (by omega) hl (.inl ⟨rfl, rfl⟩) (fun z => ?_), (rng _).1, (rng _).2, false, _, _, rfl, by omega, by omega, hl0⟩
      have z1 := z.1
      rw [List.length_nil] at z1
      omega
    · obtain ⟨c, hc⟩ := at_ints hp hn
      by_cases hs : p < (ns.length : Int) ∧ 1000000000000000000 ≤ (if c < 0 then -c else c)
      · obtain ⟨g, hg, e⟩ := drawC_great hk (b := b) h0 hm hd hn hl hp (by omega) hc hs.1 hs.2
        exact ⟨_, _, e, (rng _).1, (rng _).2, false, _, _, rfl, by omega, by omega, Int.ediv_nonneg hg (by omega)⟩
      · exact ⟨_, _, drawC_small hk h0 hm hd hp (by omega) hl (.inr ⟨hn, hc⟩) hs, (rng _).1, (rng _).2, false, _, _, rfl, by omega, by omega, hl0⟩

noncomputable def drawDB (k : DK) : M Fl := (seq (ite (tst (bin (on2I iGt) (idx (aCons (loc 0) (aCons (con (.int 2)) aNil))) (con (.int 0)))) (seq (asg (bin (on2I iMod) (idx (aCons (loc 0) (aCons (con (.int 2)) aNil))) (loc 1)) (gN 2))
    (seq (asg (bin (on2I iDiv) (idx (aCons (loc 0) (aCons (con (.int 2)) aNil))) (loc 1)) (gI 0 (con (.int 2))))
    (rtn (mov 2)))) sNx)
    (seq (asg (idx (aCons (loc 0) (aCons (con (.int 1)) aNil))) (gN 3))
    (seq (asg (bin (on2I iAdd) (loc 3) (con (.int 1))) (gI 0 (con (.int 1))))
    (seq (asg (bin (on2I iAdd) (bin (on2I iMul) (con (.int k.c1)) (loc 3)) (con (.int k.c2))) (gN 4))
    (seq (ite (tst (bin opNe (idx (aCons (loc 0) (aCons (con (.int 0)) aNil))) (disp true .lst aNil))) (asg (idx (aCons (idx (aCons (loc 0) (aCons (con (.int 0)) aNil))) (aCons (bin (on2I iMod) (loc 3) (app opLen (aCons (idx (aCons (loc 0) (aCons (con (.int 0)) aNil))) aNil))) aNil))) (gN 4)) sNx)
    (seq (ite (andT (tst (bin (on2I iLt) (loc 3) (app opLen (aCons (idx (aCons (loc 0) (aCons (con (.int 0)) aNil))) aNil)))) (tst (bin (on2I iGe) (app opAbs (aCons (loc 4) aNil)) (bin (on2I iPow) (con (.int 10)) (con (.int 18)))))) (seq (asg (bin (on2I iAdd) (bin (on2I iMul) (con (.int 2)) (bin (on2I iSub) (app opAbs (aCons (loc 4) aNil)) (bin (on2I iPow) (con (.int 10)) (con (.int 18))))) (app opInt1 (aCons (bin (on2I iLt) (loc 4) (con (.int 0))) aNil))) (gN 5))
    (seq (asg (bin (on2I iDiv) (loc 5) (loc 1)) (gI 0 (con (.int 2))))
    (rtn (bin (on2I iMod) (loc 5) (loc 1))))) sNx)
    (seq (asg (bin (on2I iMod) (bin (on2I iPow) (bin (on2I iAdd) (bin (on2I iAdd) (bin (on2I iMod) (loc 4) (con (.int k.p1))) (bin (on2I iMul) (con (.int k.q1)) (loc 3))) (con (.int k.r1))) (con (.int 5))) (con (.int k.p2))) (gN 6))
    (seq (asg (bin (on2I iMod) (bin (on2I iPow) (bin (on2I iAdd) (bin (on2I iAdd) (bin (on2I iMul) (loc 6) (bin (on2I iAdd) (bin (on2I iMul) (con (.int 2)) (loc 3)) (con (.int k.s)))) (bin (on2I iMul) (bin (on2I iMul) (con (.int k.t)) (loc 3)) (loc 3))) (con (.int 7))) (con (.int 3))) (con (.int k.p3))) (gN 6))
    (rtn (bin (on2I iMod) (bin (on2I iDiv) (loc 6) (con (.int 16))) (loc 1)))))))))))
noncomputable def drawD (k : DK) : FSem := mkF 2 7 [] (drawDB k)
def mvD (k : DK) (cell p : Int) : Int := (mxA k cell p * (2 * p + k.s) + k.t * p * p + 7) ^ 3 % k.p3
theorem pw3D {k : DK} (h : k.ok) {cell p : Int} (hp0 : 0 ≤ p) (hp : p ≤ 1000000) : iPow (mxA k cell p * (2 * p + k.s) + k.t * p * p + 7) 3 = some (.int ((mxA k cell p * (2 * p + k.s) + k.t * p * p + 7) ^ 3)) := by
  obtain ⟨h1, h2⟩ := mxA_lt h cell p
  obtain ⟨_, _, _, _, _, _, h7, h8, _⟩ := h
  have h3 : mxA k cell p * (2 * p + k.s) ≤ 4294967296 * 3000000 := Int.mul_le_mul (by omega) (by omega) (by omega) (by decide)
  have h4 : 0 ≤ mxA k cell p * (2 * p + k.s) := Int.mul_nonneg h1 (by omega)
  have h5 : k.t * p ≤ 1000000 * 1000000 := Int.mul_le_mul (by omega) hp hp0 (by decide)
  have h6 : 0 ≤ k.t * p := Int.mul_nonneg (by omega) hp0
  have h9 : k.t * p * p ≤ 1000000 * 1000000 * 1000000 := Int.mul_le_mul h5 hp hp0 (by decide)
  have h10 : 0 ≤ k.t * p * p := Int.mul_nonneg h6 hp0
  exact powN (j := 3) (by omega) (by decide)
theorem drawD_left {k : DK} {c : D} {p left m : Int} (h0 : 0 < left) (hm : 0 < m) (hd : divOk m = true) : drawD k [.node true .lst [c, .int p, .int left], .int m] = .ret (.int (left % m)) [.node true .lst [c, .int p, .int (left / m)], .int m] := by
  simp [drawD, drawDB, mkF, reFrz, seq, Pm.ite, rtn, mov, asg, drp, sNx, bnd, Pm.bin, Pm.un, app, aCons, aNil, idx, loc, con, Pm.ret, peek1, peeks, itemOf, on2I, iAdd, iSub, iGt, iGe, iLt, iLe, iDiv, iMod, use1, useL, gI, gN, tst, andT, orT, notT, andE, orE, notE, ifE, ixN, D.frz, D.plain, plainL, argsBack, opLen, opAbs, opInt1, opNeg, disp, cap, callF, takes, puts, selA, sel, aApp, par, gT, gsC, gs0, appF, opDivmod, hm, hd, h0]
theorem drawD_small {k : DK} (hk : k.ok) {ns : List Int} {c : Int} {b : Bool} {p left m : Int} (h0 : ¬ 0 < left) (hm : 0 < m) (hd : divOk m = true) (hp : 0 ≤ p) (hp2 : p ≤ 1000000) (hl : ns.length ≤ 63) (hc : (ns = [] ∧ c = k.c1 * p + k.c2) ∨ (ns ≠ [] ∧ atI (ns.map D.int) (p % (ns.length : Int)) = some (.int c)))
    (hs : ¬ (p < (ns.length : Int) ∧ 1000000000000000000 ≤ (if c < 0 then -c else c))) :
    drawD k [.node true .lst [.node b .lst (ns.map D.int), .int p, .int left], .int m] = .ret (.int (mvD k c p / 16 % m)) [.node true .lst [.node false .lst (ns.map D.int), .int (p + 1), .int left], .int m] := by
  have e1 := k_pow5 hk (cell := c) hp hp2
  have e2 := pw3D hk (cell := c) hp hp2
  obtain ⟨x1, x2⟩ := mxA_lt hk c p
  obtain ⟨h1, h2, h3, h4, h5, h6, h7, h8, h9⟩ := hk
  have e3 : iMul k.c1 p = some (.int (k.c1 * p)) := mulL (by omega)
  have e4 : iMul k.q1 p = some (.int (k.q1 * p)) := mulL (by omega)
  have e5 : iMul 2 p = some (.int (2 * p)) := mulL (by decide)
  have e9 : iMul k.t p = some (.int (k.t * p)) := mulL (by omega)
  have e10 : iMul (k.t * p) p = some (.int (k.t * p * p)) := mulR (by omega)
  have e6 : iMul (mxA k c p) (2 * p + k.s) = some (.int (mxA k c p * (2 * p + k.s))) := mulR (by omega)
  have e8 : divOk 16 = true := by decide
  have y1 := h3.1
  have y2 := h6.1
  have pl := plain_ints ns
  have fz := frz_ints ns
  simp only [mxA] at e2 e6
  rcases hc with ⟨rfl, rfl⟩ | ⟨hn, hc⟩
  · have z1 : ¬ p < 0 := by omega
    have e7 : opNe [.node false .lst [], .node true .lst []] = some (.bl false) := rfl
    cases b <;> simp [drawD, drawDB, mkF, reFrz, seq, Pm.ite, rtn, mov, asg, drp, sNx, bnd, Pm.bin, Pm.un, app, aCons, aNil, idx, loc, con, Pm.ret, peek1, peeks, itemOf, on2I, iAdd, iSub, iGt, iGe, iLt, iLe, iDiv, iMod, use1, useL, gI, gN, tst, andT, orT, notT, andE, orE, notE, ifE, ixN, D.frz, D.plain, plainL, argsBack, opLen, opAbs, opInt1, opNeg, disp, cap, callF, takes, puts, selA, sel, aApp, par, gT, gsC, gs0, appF, opDivmod, hm, hd, h0, e1, e2, e3, e4, e5, e6, e7, e8, e9, e10, y1, y2, h9, z1, frzL, mvD, mxA, pow10_18]
  · have e7 : opNe [.node false .lst (ns.map D.int), .node true .lst []] = some (.bl true) := by rw [neNil, decide_eq_true hn]
    have z1 : 0 < ns.length := List.length_pos_iff.mpr hn
    have z2 : ns.length ≤ 1000000 := by omega
    by_cases q : p < (ns.length : Int)
    · have q2 : ¬ 1000000000000000000 ≤ (if c < 0 then -c else c) := fun z => hs ⟨q, z⟩
      cases b <;> simp [drawD, drawDB, mkF, reFrz, seq, Pm.ite, rtn, mov, asg, drp, sNx, bnd, Pm.bin, Pm.un, app, aCons, aNil, idx, loc, con, Pm.ret, peek1, peeks, itemOf, on2I, iAdd, iSub, iGt, iGe, iLt, iLe, iDiv, iMod, use1, useL, gI, gN, tst, andT, orT, notT, andE, orE, notE, ifE, ixN, D.frz, D.plain, plainL, argsBack, opLen, opAbs, opInt1, opNeg, disp, cap, callF, takes, puts, selA, sel, aApp, par, gT, gsC, gs0, appF, opDivmod, hm, hd, h0, e1, e2, e3, e4, e5, e6, e7, e8, e9, e10, y1, y2, h9, z1, z2, pl, fz, hc, q, q2, mvD, mxA, pow10_18]
    · cases b <;> simp [drawD, drawDB, mkF, reFrz, seq, Pm.ite, rtn, mov, asg, drp, sNx, bnd, Pm.bin, Pm.un, app, aCons, aNil, idx, loc, con, Pm.ret, peek1, peeks, itemOf, on2I, iAdd, iSub, iGt, iGe, iLt, iLe, iDiv, iMod, use1, useL, gI, gN, tst, andT, orT, notT, andE, orE, notE, ifE, ixN, D.frz, D.plain, plainL, argsBack, opLen, opAbs, opInt1, opNeg, disp, cap, callF, takes, puts, selA, sel, aApp, par, gT, gsC, gs0, appF, opDivmod, hm, hd, h0, e1, e2, e3, e4, e5, e6, e7, e8, e9, e10, y1, y2, h9, z1, z2, pl, fz, hc, q, mvD, mxA, pow10_18]

theorem drawD_great {k : DK} (hk : k.ok) {ns : List Int} {c : Int} {b : Bool} {p left m : Int} (h0 : ¬ 0 < left) (hm : 0 < m) (hd : divOk m = true) (hn : ns ≠ []) (hl : ns.length ≤ 63) (hp0 : 0 ≤ p) (hp2 : p ≤ 1000000) (hc : atI (ns.map D.int) (p % (ns.length : Int)) = some (.int c))
    (q : p < (ns.length : Int)) (q2 : 1000000000000000000 ≤ (if c < 0 then -c else c)) :
    ∃ g : Int, 0 ≤ g ∧ drawD k [.node true .lst [.node b .lst (ns.map D.int), .int p, .int left], .int m] = .ret (.int (g % m)) [.node true .lst [.node false .lst (ns.map D.int), .int (p + 1), .int (g / m)], .int m] := by
  obtain ⟨h1, h2, h3, h4, h5, h6, h7, h8, h9⟩ := hk
  have e3 : iMul k.c1 p = some (.int (k.c1 * p)) := mulL (by omega)
  have e7 : opNe [.node false .lst (ns.map D.int), .node true .lst []] = some (.bl true) := by rw [neNil, decide_eq_true hn]
  have z1 : 0 < ns.length := List.length_pos_iff.mpr hn
  have z2 : ns.length ≤ 1000000 := by omega
  have pl := plain_ints ns
  have fz := frz_ints ns
  refine ⟨2 * ((if c < 0 then -c else c) - 1000000000000000000) + (if c < 0 then 1 else 0), by split at q2 <;> split <;> omega, ?_⟩
  have e4 : iMul 2 ((if c < 0 then -c else c) - 1000000000000000000) = some (.int (2 * ((if c < 0 then -c else c) - 1000000000000000000))) := mulL (by decide)
  by_cases hc0 : c < 0
  · rw [if_pos hc0] at q2 e4
    cases b <;> simp [drawD, drawDB, mkF, reFrz, seq, Pm.ite, rtn, mov, asg, drp, sNx, bnd, Pm.bin, Pm.un, app, aCons, aNil, idx, loc, con, Pm.ret, peek1, peeks, itemOf, on2I, iAdd, iSub, iGt, iGe, iLt, iLe, iDiv, iMod, use1, useL, gI, gN, tst, andT, orT, notT, andE, orE, notE, ifE, ixN, D.frz, D.plain, plainL, argsBack, opLen, opAbs, opInt1, opNeg, disp, cap, callF, takes, puts, selA, sel, aApp, par, gT, gsC, gs0, appF, opDivmod, hm, hd, h0, e3, e4, e7, z1, z2, pl, fz, hc, q, q2, hc0, pow10_18]
  · rw [if_neg hc0] at q2 e4
    cases b <;> simp [drawD, drawDB, mkF, reFrz, seq, Pm.ite, rtn, mov, asg, drp, sNx, bnd, Pm.bin, Pm.un, app, aCons, aNil, idx, loc, con, Pm.ret, peek1, peeks, itemOf, on2I, iAdd, iSub, iGt, iGe, iLt, iLe, iDiv, iMod, use1, useL, gI, gN, tst, andT, orT, notT, andE, orE, notE, ifE, ixN, D.frz, D.plain, plainL, argsBack, opLen, opAbs, opInt1, opNeg, disp, cap, callF, takes, puts, selA, sel, aApp, par, gT, gsC, gs0, appF, opDivmod, hm, hd, h0, e3, e4, e7, z1, z2, pl, fz, hc, q, q2, hc0, pow10_18]
theorem drawsD (k : DK) (hk : k.ok) : Draws (drawD k) := by
  intro ns d a m hl h ha hm hd
  obtain ⟨b, p, left, rfl, hp, hpa, hl0⟩ := h
  have rng : ∀ x : Int, 0 ≤ x % m ∧ x % m < m := fun x => ⟨Int.emod_nonneg x (by omega), Int.emod_lt_of_pos x hm⟩
  by_cases h0 : 0 < left
  · exact ⟨_, _, drawD_left h0 hm hd, (rng _).1, (rng _).2, b, _, _, rfl, by omega, by omega, Int.ediv_nonneg hl0 (by omega)⟩
  · by_cases hn : ns = []
    · subst hn
      refine ⟨_, _, drawD_small hk (c := k.c1 * p + k.c2) h0 hm hd hp (by omega) hl (.inl ⟨rfl, rfl⟩) (fun z => ?_), (rng _).1, (rng _).2, false, _, _, rfl, by omega, by omega, hl0⟩
      have z1 := z.1
      rw [List.length_nil] at z1
      omega
    · obtain ⟨c, hc⟩ := at_ints hp hn
      by_cases hs : p < (ns.length : Int) ∧ 1000000000000000000 ≤ (if c < 0 then -c else c)
      · obtain ⟨g, hg, e⟩ := drawD_great hk (b := b) h0 hm hd hn hl hp (by omega) hc hs.1 hs.2
        exact ⟨_, _, e, (rng _).1, (rng _).2, false, _, _, rfl, by omega, by omega, Int.ediv_nonneg hg (by omega)⟩
      · exact ⟨_, _, drawD_small hk h0 hm hd hp (by omega) hl (.inr ⟨hn, hc⟩) hs, (rng _).1, (rng _).2, false, _, _, rfl, by omega, by omega, hl0⟩

end Pm
/-! PmX: numbers below a bound, over any draw. -/
namespace Pm
open PySem PySem.Spec PyProof.Rows L2
noncomputable def belowGB (S : FSem) : M Fl := (seq (ite (tst (bin (on2I iLe) (loc 1) (bin (on2I iPow) (con (.int 10)) (con (.int 7))))) (rtn (callF S (aCons (loc 0) (aCons (loc 1) aNil)))) sNx)
    (seq (asg (con (.int 0)) (gN 2))
    (seq (asg (con (.int 1)) (gN 3))
    (seq (whl (tst (bin (on2I iLt) (loc 3) (loc 1))) (seq (asg (bin (on2I iAdd) (bin (on2I iMul) (loc 2) (bin (on2I iPow) (con (.int 10)) (con (.int 7)))) (callF S (aCons (loc 0) (aCons (bin (on2I iPow) (con (.int 10)) (con (.int 7))) aNil)))) (gN 2))
    (asg (bin (on2I iMul) (loc 3) (bin (on2I iPow) (con (.int 10)) (con (.int 7)))) (gN 3))))
    (rtn (bin (on2I iMod) (loc 2) (loc 1)))))))
noncomputable def belowG (S : FSem) : FSem := mkF 2 4 [] (belowGB S)
theorem below_loopG {S : FSem} (hS : Draws S) {ns : List Int} {m : Int} (hl : ns.length ≤ 63) : ∀ (k : Nat) (size found a : Int) (d : D), 0 < size → 0 ≤ found → m ≤ size * 10000000 ^ k → Pen ns a d → a + k ≤ 1000000 →
    ∃ (size' found' : Int) (d' : D), whl (tst (bin (on2I iLt) (loc 3) (loc 1))) (seq (asg (bin (on2I iAdd) (bin (on2I iMul) (loc 2) (bin (on2I iPow) (con (.int 10)) (con (.int 7)))) (callF S (aCons (loc 0) (aCons (bin (on2I iPow) (con (.int 10)) (con (.int 7))) aNil)))) (gN 2))
      (asg (bin (on2I iMul) (loc 3) (bin (on2I iPow) (con (.int 10)) (con (.int 7)))) (gN 3))) [some d, some (.int m), some (.int found), some (.int size)] = .ok .nx [some d', some (.int m), some (.int found'), some (.int size')] ∧ 0 ≤ found' ∧ Pen ns (a + k) d'
  | 0, size, found, a, d, hs, hf, hm, hp, ha => by
    refine ⟨size, found, d, ?_, hf, hp.mono (by omega)⟩
    have h : ¬ size < m := by omega
    exact whl_F (by simp [mkF, reFrz, seq, Pm.ite, rtn, mov, asg, drp, sNx, bnd, Pm.bin, Pm.un, app, aCons, aNil, idx, loc, con, Pm.ret, peek1, peeks, itemOf, on2I, iAdd, iSub, iGt, iGe, iLt, iLe, iDiv, iMod, use1, useL, gI, gN, tst, andT, orT, notT, andE, orE, notE, ifE, ixN, D.frz, D.plain, plainL, argsBack, opLen, opAbs, opInt1, opNeg, disp, cap, callF, takes, puts, selA, sel, aApp, par, gT, gsC, gs0, appF, opDivmod, h])
  | k + 1, size, found, a, d, hs, hf, hm, hp, ha => by
    by_cases h : size < m
    · obtain ⟨r, d', e, r0, r1, hp'⟩ := hS _ _ _ _ hl hp (by omega) (show (0 : Int) < 10000000 by decide) (by decide)
      have e1 : iMul found 10000000 = some (.int (found * 10000000)) := mulR (by decide)
      have e2 : iMul size 10000000 = some (.int (size * 10000000)) := mulR (by decide)
      obtain ⟨xs, ed⟩ := hp.owned
      obtain ⟨xs', ed'⟩ := hp'.owned
      subst ed
      subst ed'
      obtain ⟨s', f', d2, e3, g1, g2⟩ := below_loopG hS hl k (size * 10000000) (found * 10000000 + r) (a + 1) (.node true .lst xs') (by omega) (by omega) (by rw [Int.pow_succ] at hm; rw [Int.mul_assoc, Int.mul_comm 10000000 _]; exact hm) hp' (by omega)
      refine ⟨s', f', d2, ?_, g1, g2.mono (by omega)⟩
      rw [whl_T (ρ1 := [some (.node true .lst xs), some (.int m), some (.int found), some (.int size)]) (ρ2 := [some (.node true .lst xs'), some (.int m), some (.int (found * 10000000 + r)), some (.int (size * 10000000))]) (by simp [mkF, reFrz, seq, Pm.ite, rtn, mov, asg, drp, sNx, bnd, Pm.bin, Pm.un, app, aCons, aNil, idx, loc, con, Pm.ret, peek1, peeks, itemOf, on2I, iAdd, iSub, iGt, iGe, iLt, iLe, iDiv, iMod, use1, useL, gI, gN, tst, andT, orT, notT, andE, orE, notE, ifE, ixN, D.frz, D.plain, plainL, argsBack, opLen, opAbs, opInt1, opNeg, disp, cap, callF, takes, puts, selA, sel, aApp, par, gT, gsC, gs0, appF, opDivmod, h]) (by simp [mkF, reFrz, seq, Pm.ite, rtn, mov, asg, drp, sNx, bnd, Pm.bin, Pm.un, app, aCons, aNil, idx, loc, con, Pm.ret, peek1, peeks, itemOf, on2I, iAdd, iSub, iGt, iGe, iLt, iLe, iDiv, iMod, use1, useL, gI, gN, tst, andT, orT, notT, andE, orE, notE, ifE, ixN, D.frz, D.plain, plainL, argsBack, opLen, opAbs, opInt1, opNeg, disp, cap, callF, takes, puts, selA, sel, aApp, par, gT, gsC, gs0, appF, opDivmod, e, e1, e2, pow10_7])]
      exact e3
    · exact ⟨size, found, d, whl_F (by simp [mkF, reFrz, seq, Pm.ite, rtn, mov, asg, drp, sNx, bnd, Pm.bin, Pm.un, app, aCons, aNil, idx, loc, con, Pm.ret, peek1, peeks, itemOf, on2I, iAdd, iSub, iGt, iGe, iLt, iLe, iDiv, iMod, use1, useL, gI, gN, tst, andT, orT, notT, andE, orE, notE, ifE, ixN, D.frz, D.plain, plainL, argsBack, opLen, opAbs, opInt1, opNeg, disp, cap, callF, takes, puts, selA, sel, aApp, par, gT, gsC, gs0, appF, opDivmod, h]), hf, hp.mono (by omega)⟩
theorem below_of {S : FSem} (hS : Draws S) {ns : List Int} {m a : Int} {d : D} (k : Nat) (hl : ns.length ≤ 63) (hp : Pen ns a d) (hm : 0 < m) (hd : divOk m = true) (hk : m ≤ 10000000 ^ k) (ha : a + k + 1 ≤ 1000000) : ∃ (r : Int) (d' : D), belowG S [d, .int m] = .ret (.int r) [d', .int m] ∧ 0 ≤ r ∧ r < m ∧ Pen ns (a + k + 1) d' := by
  obtain ⟨xs, rfl⟩ := hp.owned
  by_cases h : m ≤ 10000000
  · obtain ⟨r, d', e, r0, r1, hp'⟩ := hS _ _ _ _ hl hp (by omega) hm hd
    obtain ⟨xs', rfl⟩ := hp'.owned
    exact ⟨r, _, by simp [belowG, belowGB, mkF, reFrz, seq, Pm.ite, rtn, mov, asg, drp, sNx, bnd, Pm.bin, Pm.un, app, aCons, aNil, idx, loc, con, Pm.ret, peek1, peeks, itemOf, on2I, iAdd, iSub, iGt, iGe, iLt, iLe, iDiv, iMod, use1, useL, gI, gN, tst, andT, orT, notT, andE, orE, notE, ifE, ixN, D.frz, D.plain, plainL, argsBack, opLen, opAbs, opInt1, opNeg, disp, cap, callF, takes, puts, selA, sel, aApp, par, gT, gsC, gs0, appF, opDivmod, h, e, pow10_7], r0, r1, hp'.mono (by omega)⟩
  · obtain ⟨s', f', d', e, f0, hp'⟩ := below_loopG hS (m := m) hl k 1 0 a _ (by omega) (by omega) (by rw [Int.one_mul]; exact hk) hp (by omega)
    obtain ⟨xs', rfl⟩ := hp'.owned
    refine ⟨f' % m, _, ?_, Int.emod_nonneg _ (by omega), Int.emod_lt_of_pos _ hm, hp'.mono (by omega)⟩
    unfold belowG mkF
    rw [if_pos (by simp)]
    unfold belowGB
    have s0 : ∀ b : M Fl, seq (ite (tst (bin (on2I iLe) (loc 1) (bin (on2I iPow) (con (.int 10)) (con (.int 7))))) (rtn (callF S (aCons (loc 0) (aCons (loc 1) aNil)))) sNx) b [some (.node true .lst xs), some (.int m), none, none] = b [some (.node true .lst xs), some (.int m), none, none] := fun b => seq_ok (by simp [mkF, reFrz, seq, Pm.ite, rtn, mov, asg, drp, sNx, bnd, Pm.bin, Pm.un, app, aCons, aNil, idx, loc, con, Pm.ret, peek1, peeks, itemOf, on2I, iAdd, iSub, iGt, iGe, iLt, iLe, iDiv, iMod, use1, useL, gI, gN, tst, andT, orT, notT, andE, orE, notE, ifE, ixN, D.frz, D.plain, plainL, argsBack, opLen, opAbs, opInt1, opNeg, disp, cap, callF, takes, puts, selA, sel, aApp, par, gT, gsC, gs0, appF, opDivmod, h, pow10_7])
    have s1 : ∀ b : M Fl, seq (asg (con (.int 0)) (gN 2)) b [some (.node true .lst xs), some (.int m), none, none] = b [some (.node true .lst xs), some (.int m), some (.int 0), none] := fun b => seq_ok (by simp [mkF, reFrz, seq, Pm.ite, rtn, mov, asg, drp, sNx, bnd, Pm.bin, Pm.un, app, aCons, aNil, idx, loc, con, Pm.ret, peek1, peeks, itemOf, on2I, iAdd, iSub, iGt, iGe, iLt, iLe, iDiv, iMod, use1, useL, gI, gN, tst, andT, orT, notT, andE, orE, notE, ifE, ixN, D.frz, D.plain, plainL, argsBack, opLen, opAbs, opInt1, opNeg, disp, cap, callF, takes, puts, selA, sel, aApp, par, gT, gsC, gs0, appF, opDivmod])
    have s2 : ∀ b : M Fl, seq (asg (con (.int 1)) (gN 3)) b [some (.node true .lst xs), some (.int m), some (.int 0), none] = b [some (.node true .lst xs), some (.int m), some (.int 0), some (.int 1)] := fun b => seq_ok (by simp [mkF, reFrz, seq, Pm.ite, rtn, mov, asg, drp, sNx, bnd, Pm.bin, Pm.un, app, aCons, aNil, idx, loc, con, Pm.ret, peek1, peeks, itemOf, on2I, iAdd, iSub, iGt, iGe, iLt, iLe, iDiv, iMod, use1, useL, gI, gN, tst, andT, orT, notT, andE, orE, notE, ifE, ixN, D.frz, D.plain, plainL, argsBack, opLen, opAbs, opInt1, opNeg, disp, cap, callF, takes, puts, selA, sel, aApp, par, gT, gsC, gs0, appF, opDivmod])
    show (match (seq _ _) [some (.node true .lst xs), some (.int m), none, none] with
      | .stuck => _
      | .ok (.rt d) ρ => _
      | .ok .nx ρ => _
      | .ok _ _ => _
      | .exc x ρ => _) = _
    rw [s0, s1, s2, seq_ok e]
    simp [mkF, reFrz, seq, Pm.ite, rtn, mov, asg, drp, sNx, bnd, Pm.bin, Pm.un, app, aCons, aNil, idx, loc, con, Pm.ret, peek1, peeks, itemOf, on2I, iAdd, iSub, iGt, iGe, iLt, iLe, iDiv, iMod, use1, useL, gI, gN, tst, andT, orT, notT, andE, orE, notE, ifE, ixN, D.frz, D.plain, plainL, argsBack, opLen, opAbs, opInt1, opNeg, disp, cap, callF, takes, puts, selA, sel, aApp, par, gT, gsC, gs0, appF, opDivmod, hm]
end Pm
/-! PmZo: + that freezes, chains of texts, upper, replace, enumerate over a text. -/
namespace Pm
open PySem PySem.Spec PyProof.Rows L2
section
variable {K : PySem.W.Frag} {mg : Str → Option Value} {W : WX} {Z Z' H H' : Hp} {S S' : Fp} {σ : Sl} {X : Cx} {A : Nat → Bool} {a b c e o : Expr} {es : List Expr} {pos p : Pos} {fa fb fc f : M EV} {fs : M (List EV)}
theorem rv_r (a : Addr) : RelV (.ref a) (.ref a) := rfl
theorem rv_i (i : Int) (t : Tok) : RelV (.int i) (.int i t) := ⟨_, rfl⟩
theorem rv_s (x : Str) (t : Tok) : RelV (.str x) (.str x t) := ⟨_, rfl⟩
abbrev binF (g : List D → Option D) (fa fb : M EV) : M EV := appF g (aCons fa (aCons fb aNil))
theorem E_opF {op : Operator} {g : List D → Option D} (ho : Opd X (binaryOp op) g) (ha : PE X a (tE X.K X.mg W fa)) (hb : PE X b (tE X.K X.mg W fb)) : PE X (.BinOp a op b pos) (tE X.K X.mg W (binF g fa fb)) := by
  obtain ⟨r, h1, h2⟩ := ho
  exact PE.of (pe_op h1 ha hb) fun σ H Q q => two_of (tE_appF h2 q)
/-! ### a < b < c over texts -/
def rS0 (g : Str → Str → V) : R2 := fun x y H Q => ∃ i j, x = .str i ∧ y = .str j ∧ Q (g i j) H
def chS (p q : Str → Str → Bool) (fa fb fc : M EV) : M EV := bnd fa fun ea => bnd fb fun eb => fun ρ => match peek1 ρ ea, peek1 ρ eb with
  | some (.str i), some (.str j) => if p i j = true then (bnd fc fun ec => fun ρ' => match peek1 ρ' ec with
      | some (.str l) => .ok (.val (.bl (q j l))) ρ'
      | _ => .stuck) ρ else .ok (.val (.bl false)) ρ
  | _, _ => .stuck
theorem strC_of {ev : EV} {v : V} {i : Str} {ρ : Env} (h : peek1 ρ ev = some (.str i)) (r : EVR K Z H σ ev v S) (er : EnvR K Z' H' ρ σ S') : v = .str i := by
  cases ev with
  | val d =>
    have e : d = .str i := Option.some.inj h
    subst e
    exact r
  | ref j => exact peek1_rep (Z := Z') (H := H') (Sa := Fp0) (e := .ref j) er r h
theorem tE_chS {p q : Str → Str → Bool} {Q : VK} (h : tE K mg W (chS p q fa fb fc) σ H Q) : tChain (rS0 fun i j => .bl (p i j)) (rS0 fun i j => .bl (q i j)) (tE K mg W fa) (tE K mg W fb) (tE K mg W fc) σ H Q := by
  obtain ⟨Z, ρ, S, w, er, o⟩ := h
  refine ⟨Z, ρ, S, w, er, ?_⟩
  simp only [chS, bnd] at o
  cases e1 : fa ρ with
  | stuck => rw [e1] at o; exact o
  | exc x ρ1 => rw [e1] at o; exact o
  | ok ea ρ1 =>
    rw [e1] at o
    intro x Z1 H1 S1 Sa st1 dj1 er1 r1
    have t1 := st1.less (S2 := S1) fun a x => .inl x
    refine ⟨Z1, ρ1, S1, t1.wd, er1, ?_⟩
    have o1 := OutE.after (K := K) (mg := mg) (W := W) (σ := σ) (Q := Q) t1 o
    cases e2 : fb ρ1 with
    | stuck => simp only [e2] at o1; exact o1
    | exc x ρ2 => simp only [e2] at o1; exact o1
    | ok eb ρ2 =>
      simp only [e2] at o1
      intro y Z2 H2 S2 Sb st2 dj2 er2 r2
      have t2 := st2.less (S2 := S2) fun a x => .inl x
      have o2 := OutE.after (K := K) (mg := mg) (W := W) (σ := σ) (Q := Q) t2 o1
      split at o2
      · rename_i i j h1 h2
        have ex := strC_of h1 r1 er2
        have ey := strC_of h2 r2 er2
        refine ⟨i, j, ex, ey, p i j, rfl, ?_⟩
        cases hp : p i j with
        | false =>
          rw [hp] at o2
          exact o2 (.bl false) Z2 H2 S2 Fp0 t2.wd.nil (fun _ _ x => x) er2 rfl
        | true =>
          rw [hp] at o2
          simp only [if_true] at o2 ⊢
          refine ⟨Z2, ρ2, S2, t2.wd, er2, ?_⟩
          cases e3 : fc ρ2 with
          | stuck => simp only [e3] at o2; exact o2
          | exc x ρ3 => simp only [e3] at o2; exact o2
          | ok ec ρ3 =>
            simp only [e3] at o2
            intro z Z3 H3 S3 Sc st3 dj3 er3 r3
            have t3 := st3.less (S2 := S3) fun a x => .inl x
            have o3 := OutE.after (K := K) (mg := mg) (W := W) (σ := σ) (Q := Q) t3 o2
            split at o3
            · rename_i l h3
              exact ⟨j, l, ey, strC_of h3 r3 er3, o3 (.bl (q j l)) Z3 H3 S3 Fp0 t3.wd.nil (fun _ _ x => x) er3 rfl⟩
            · exact o3.elim
      · exact o2.elim
theorem E_chS {op op' : CmpOp} {p q : Str → Str → Bool} (h1 : OpR X (compareOp op) (rS0 fun i j => .bl (p i j))) (h2 : OpR X (compareOp op') (rS0 fun i j => .bl (q i j))) (ha : PE X a (tE X.K X.mg W fa)) (hb : PE X b (tE X.K X.mg W fb)) (hc : PE X c (tE X.K X.mg W fc))
    (hm : lastMarks [op, op'] [b, c] = false := by with_unfolding_all rfl) : PE X (.Compare a [op, op'] [b, c] pos) (tE X.K X.mg W (chS p q fa fb fc)) := PE.of (pe_chain h1 h2 ha hb hc hm) fun _ _ _ q => tE_chS q
theorem tT_tstOfS {f : M EV} {t : TE} {Q : Bool → Hp → Prop} (i : ∀ σ H Q, tE K mg W f σ H Q → t σ H Q) (h : tT K mg W (tst f) σ H Q) : tTest t σ H Q := i _ _ _ (tT_tst h)
theorem T_chS {op op' : CmpOp} {p q : Str → Str → Bool} (h1 : OpR X (compareOp op) (rS0 fun i j => .bl (p i j))) (h2 : OpR X (compareOp op') (rS0 fun i j => .bl (q i j))) (ha : PE X a (tE X.K X.mg W fa)) (hb : PE X b (tE X.K X.mg W fb)) (hc : PE X c (tE X.K X.mg W fc))
    (hm : lastMarks [op, op'] [b, c] = false := by with_unfolding_all rfl) : PT X (.Compare a [op, op'] [b, c] pos) (tT X.K X.mg W (tst (chS p q fa fb fc))) := PT.of (pt_chain h1 h2 ha hb hc hm) fun _ _ _ q => tT_tstOfS (fun _ _ _ => tE_chS) q

def dLt (i j : Str) : Bool := decide (i.cps.toList < j.cps.toList)
def dLe (i j : Str) : Bool := !decide (j.cps.toList < i.cps.toList)
def dGt (i j : Str) : Bool := decide (j.cps.toList < i.cps.toList)
def dGe (i j : Str) : Bool := !decide (i.cps.toList < j.cps.toList)
theorem od_lt : OpR X (compareOp .Lt) (rS0 fun i j => .bl (dLt i j)) := op_lt_str
theorem od_le : OpR X (compareOp .LtE) (rS0 fun i j => .bl (dLe i j)) := op_le_str
theorem od_gt : OpR X (compareOp .Gt) (rS0 fun i j => .bl (dGt i j)) := op_gt_str
theorem od_ge : OpR X (compareOp .GtE) (rS0 fun i j => .bl (dGe i j)) := op_ge_str
/-! ### s.upper() -/
def opUpper : List D → Option D
  | [.str x] => if x.length ≤ 5592405 then some (.str (Txt.upper x)) else none
  | _ => none
theorem snd_upper : Snd X (fun vs H Q => ∃ x, vs = [x] ∧ (fun (x : V) (xs : List V) (H : Hp) (Q : VK) => ∃ a, x = .str a ∧ xs = [] ∧ a.length ≤ 5592405 ∧ Q (.str (Txt.upper a)) H) x [] H Q) opUpper := by
  refine snd_pure fun Z H S ds vs d Q w rb e k => ?_
  unfold opUpper at e
  split at e
  · split at e
    · rename_i x hx
      obtain ⟨v, rfl, rv⟩ := rb1 rb
      obtain rfl : v = .str x := rv
      cases e
      exact ⟨_, rfl, x, rfl, rfl, hx, k _ rfl⟩
    · cases e
  · cases e
theorem E_upper {apos : Pos} (ho : PE X o (tE X.K X.mg W fa)) (hbase : attributeBase o "upper" X.env (eval o X.env) = eval o X.env := by rfl) (hline : (apos.endLine == pos.line) = true := by rfl) :
    PE X (.Call (.Attribute o "upper" apos) [] [] pos) (tE X.K X.mg W (smet0 opUpper fa)) := PE.of (pe_upper ho hbase hline) fun _ _ _ q => tE_smet0 snd_upper q
/-! ### s.replace(..) of written texts, behind a docstring -/
theorem PETof {t t' : TE} (h : PET X e t) (i : ∀ σ H Q, t' σ H Q → t σ H Q) : PET X e t' := fun p s σ H Q h0 I q => h p s σ H Q h0 I (i σ H Q q)
theorem PSTof {st : Stmt} {t t' : TS} (h : PST X st t) (i : ∀ D σ H, t' D σ H → t D σ H) : PST X st t' := fun p s σ H D h0 I q => h p s σ H D h0 I (i D σ H q)
theorem PSsTof {st : List Stmt} {t t' : TS} (h : PSsT X st t) (i : ∀ D σ H, t' D σ H → t D σ H) : PSsT X st t' := fun p s σ H D h0 I q => h p s σ H D h0 I (i D σ H q)
def opRepl (y z : Str) : List D → Option D
  | [.str x] => if x.length + (x.length + 1) * z.length ≤ cap then some (.str (Txt.replace x y z)) else none
  | _ => none
theorem snd_repl {y z : Str} : Snd X (fun vs H Q => ∃ v, vs = [v] ∧ (fun (v : V) (H : Hp) (Q : VK) => ∃ x, v = .str x ∧ x.length + (x.length + 1) * z.length ≤ 16777216 ∧ Q (.str (Txt.replace x y z)) H) v H Q) (opRepl y z) := by
  refine snd_pure fun Z H S ds vs d Q w rb e k => ?_
  unfold opRepl at e
  split at e
  · split at e
    · rename_i x hx
      obtain ⟨v, rfl, rv⟩ := rb1 rb
      obtain rfl : v = .str x := rv
      cases e
      exact ⟨_, rfl, x, rfl, Nat.le_trans hx (by decide), k _ rfl⟩
    · cases e
  · cases e
theorem ET_repl {y z : Str} {j k : Nat} {c0 c1 apos : Pos} (ho : PET X o (tE X.K X.mg W f)) (hyz : (y == z) = false := by decide)
    (hst : starEach [.Constant (.str y) j c0, .Constant (.str z) k c1] X.env = [(false, eval (.Constant (.str y) j c0) X.env), (false, eval (.Constant (.str z) k c1) X.env)] := by rfl)
    (hbase : attributeBase o "replace" X.env (eval o X.env) = eval o X.env := by rfl) (hline : (apos.endLine == pos.line) = true := by rfl) :
    PET X (.Call (.Attribute o "replace" apos) [.Constant (.str y) j c0, .Constant (.str z) k c1] [] pos) (tE X.K X.mg W (un (opRepl y z) f)) :=
  PETof (CwR.pet_replT ho hyz hst hbase hline) fun σ H Q q => one_of (r := fun (v : V) (H : Hp) (Q : VK) => ∃ x, v = .str x ∧ x.length + (x.length + 1) * z.length ≤ 16777216 ∧ Q (.str (Txt.replace x y z)) H) (tE_app snd_repl q)
theorem ET_of (h : PE X e (tE X.K X.mg W f)) : PET X e (tE X.K X.mg W f) := CwR.PET.of h
theorem ST_of {st : Stmt} {m : M Fl} (h : PS X st (tS X.K X.mg W A m)) : PST X st (tS X.K X.mg W A m) := PST.of h
theorem BT_of {st : List Stmt} {m : M Fl} (h : PSs X st (tS X.K X.mg W A m)) : PSsT X st (tS X.K X.mg W A m) := PSsT.of h
theorem BT_c {st : Stmt} {sts : List Stmt} {m1 m2 : M Fl} (h : PST X st (tS X.K X.mg W A m1)) (h2 : PSsT X sts (tS X.K X.mg W A m2)) : PSsT X (st :: sts) (tS X.K X.mg W A (seq m1 m2)) := PSsTof (psst_cons h h2) fun _ _ _ q => tS_seq q
theorem BT_1 {st : Stmt} {m : M Fl} (h : PST X st (tS X.K X.mg W A m)) : PSsT X [st] (tS X.K X.mg W A m) := fun p s σ H D h0 I q => CwR.psst_one h p s σ H D h0 I (show tSeq (tS X.K X.mg W A m) tNext D σ H from q)
/-- the docstring of a def: behind it a token is out -/
theorem B_doc {x : Str} {j : Nat} {p2 : Pos} {sts : List Stmt} {m : M Fl} (h : PSsT X sts (tS X.K X.mg W A m)) : PSs X (.Expr (.Constant (.str x) j p2) pos :: sts) (tS X.K X.mg W A (seq (drp (con (.str x))) m)) :=
  PSs.of (CwR.pss_docT h) fun _ _ _ q => q
/-- behind name = '..' and name = '..'.join(e) a token is out -/
theorem B_str {i : Nat} {x cst : Str} {j : Nat} {cpos pos' : Pos} {sts : List Stmt} {m : M Fl} (h2 : PSsT X sts (tS X.K X.mg W A m)) (hN : X.N.Nodup) (hA : A i = true := by rfl) (hi : X.N[i]? = some x := by rfl) (hx : Loc X.env.scope x := by first | exact .inl rfl | exact .inr rfl)
    (hs : swapsWith (.Constant (.str cst) j cpos) (some (.Name x pos')) pos.line X.env = pure false := by rfl) (hf : X.fn x = true ∨ X.env.scope.names.lookup x = some .local := by first | exact .inl rfl | exact .inr rfl) :
    PSs X (.Assign [.Name x pos'] (.Constant (.str cst) j cpos) pos :: sts) (tS X.K X.mg W A (seq (asg (con (.str cst)) (gN i)) m)) :=
  PSs.of (pss_str hN hi hx h2 hs hf) fun D σ H q => by
    have q1 := tS_asg (tS_seq q)
    exact tG_N hA (tE_con (d := .str cst) (v := .str cst) (fun _ _ => rfl) q1)
theorem join_tok {z : Str} {j : Nat} {c0 apos : Pos} (he : PE X e (tE X.K X.mg W f)) (hs : starEach [e] X.env = [(false, eval e X.env)]) (hbase : attributeBase (.Constant (.str z) j c0) "join" X.env (eval (.Constant (.str z) j c0) X.env) = eval (.Constant (.str z) j c0) X.env) (hline : (apos.endLine == pos.line) = true)
    (pins : List (Addr × Obj)) (s : Shared) (H : Hp) (Q : VK) (I : Inv X pins σ H s) (h : tE X.K X.mg W (smet1 opJoin (con (.str z)) f) σ H Q) :
    wpAny (model X.prog X.w) X.A (eval (.Call (.Attribute (.Constant (.str z) j c0) "join" apos) [e] [] pos) X.env) (fun u s' => 1 ≤ s'.toks ∧ EP X pins σ Q u s') X.xe s := by
  have h1 := tE_smet1 (r := rJoin X.K) snd_join h
  have h2 := tE_con (d := .str z) (v := .str z) (fun _ _ => rfl) h1
  obtain ⟨_, q1⟩ := (show (∃ a, V.str z = .str a) ∧ tE X.K X.mg W f σ H (fun y H2 => rJoin X.K (.str z) [y] H2 Q) from h2)
  refine PySem.Call_method1 hbase hs hline (Calls.Constant_str ?_)
  have I1 : Inv X pins σ H { s with toks := s.toks + 1 } := I.tok _
  refine ⟨"str", _, F.plainAttrs_str, F.slot_str_join, F.type_str_join, typeIs_str _ _ _, (fun _ e => nomatch e), ?_⟩
  refine wpAny_mono (PySem.wpAny_toks (Calls.callWith_builtin (Q := EP X pins σ Q) rfl (Calls.evalArgs_plain (Calls.spliced_cons (thn (he.run pins _ σ H _ I1 q1) fun u s2 ⟨y, H2, I2, r2, q2⟩ => Calls.spliced_nil (mt_join pins s2 σ H2 (.str z) [y] (.str z s.toks) [u] Q I2 ⟨_, rfl⟩ (.cons r2 .nil) q2)))))) (fun u s' q => ⟨?_, q.2⟩) fun _ _ z => z.2
  have := q.1
  show 1 ≤ s'.toks
  have h3 : s.toks + 1 ≤ s'.toks := this
  omega
theorem B_join {i : Nat} {x z : Str} {j : Nat} {c0 apos jpos pos' : Pos} {sts : List Stmt} {m : M Fl} (he : PE X e (tE X.K X.mg W f)) (h2 : PSsT X sts (tS X.K X.mg W A m)) (hN : X.N.Nodup) (hA : A i = true := by rfl) (hi : X.N[i]? = some x := by rfl) (hx : Loc X.env.scope x := by first | exact .inl rfl | exact .inr rfl)
    (hs : swapsWith (.Call (.Attribute (.Constant (.str z) j c0) "join" apos) [e] [] jpos) (some (.Name x pos')) pos.line X.env = pure false := by rfl) (hf : X.fn x = true ∨ X.env.scope.names.lookup x = some .local := by first | exact .inl rfl | exact .inr rfl)
    (hst : starEach [e] X.env = [(false, eval e X.env)] := by rfl) (hbase : attributeBase (.Constant (.str z) j c0) "join" X.env (eval (.Constant (.str z) j c0) X.env) = eval (.Constant (.str z) j c0) X.env := by rfl) (hline : (apos.endLine == jpos.line) = true := by rfl) :
    PSs X (.Assign [.Name x pos'] (.Call (.Attribute (.Constant (.str z) j c0) "join" apos) [e] [] jpos) pos :: sts) (tS X.K X.mg W A (seq (asg (smet1 opJoin (con (.str z)) f) (gN i)) m)) := by
  refine ⟨fun pins s σ H D I h => ?_⟩
  have q1 := tS_asg (tS_seq h)
  refine wpAny_execs_cons (wpAny_Assign_Name (wpAny_mono (join_tok he hst hbase hline pins s H _ I q1) (fun v s1 q => ?_) fun _ _ z => z) hs)
  obtain ⟨hk, y, H1, I1, r1, q2⟩ := q
  refine wpAny_mono (PySem.wpAny_toks (store_ok (v := y) (u := v) (Q := fun _ s2 => Inv X pins (σ.set i (some y)) H1 s2) I1 hN hi hx r1 (fun _ I2 => I2) hf)) (fun _ s2 q => ?_) fun _ _ z => z.2
  exact h2 pins s2 _ H1 D (Nat.le_trans hk q.1) q.2 (tG_N hA q2)
theorem ST_set {i : Nat} {x : Str} {pos' : Pos} (he : PET X e (tE X.K X.mg W f)) (hN : X.N.Nodup) (hA : A i = true := by rfl) (hi : X.N[i]? = some x := by rfl) (hx : Loc X.env.scope x := by first | exact .inl rfl | exact .inr rfl) (hs : swapsWith e (some (.Name x pos')) pos.line X.env = pure false := by rfl)
    (hf : X.fn x = true ∨ X.env.scope.names.lookup x = some .local := by first | exact .inl rfl | exact .inr rfl) : PST X (.Assign [.Name x pos'] e pos) (tS X.K X.mg W A (asg f (gN i))) := by
  intro pins s σ H D h0 I h
  refine wpAny_Assign_Name (thn (he pins s σ H _ h0 I (tS_asg h)) fun v s1 ⟨y, H1, I1, r1, q1⟩ => ?_) hs
  exact store_ok I1 hN hi hx r1 (fun s2 I2 => ⟨_, H1, I2, tG_N hA q1⟩) hf
theorem ST_ret (h : PET X e (tE X.K X.mg W f)) : PST X (.Return (some e) pos) (tS X.K X.mg W A (rtn f)) := PSTof (CwR.pst_ret h) fun _ _ _ q => tS_rtn q
theorem ST_while {body : List Stmt} {tc : M Bool} {m : M Fl} (hp : PassesOwn (model X.prog X.w) X.A X.env X.xe) (hc : PT X c (tT X.K X.mg W tc)) (hb : PSsT X body (tS X.K X.mg W A m)) : PST X (.While c body [] pos) (tS X.K X.mg W A (whl tc m)) := by
  intro pins s σ H D h0 I h
  obtain ⟨Wv, ⟨m0, w0⟩, turn⟩ := tS_while h
  refine wpAny_While (codeAny_whileLoop (fun n s' => 1 ≤ s'.toks ∧ ∃ σ' H', Inv X pins σ' H' s' ∧ Wv n σ' H') ?_ m0 ⟨h0, σ, H, I, w0⟩)
  rintro n s1 ⟨h1, σ1, H1, I1, w1⟩
  refine wpAny_passesOwn hp (wpAny_mono (PySem.wpAny_toks (hc.run pins s1 σ1 H1 _ I1 (turn n σ1 H1 w1))) (fun b s2 q => ?_) fun _ _ z => z.2)
  obtain ⟨hk, H2, I2, q2⟩ := q
  cases b with
  | true =>
    obtain ⟨N, hN, q2⟩ := q2
    rw [if_pos rfl]
    refine wpAny_passesOwn hp (wpAny_mono (PySem.wpAny_toks (hb pins s2 σ1 H2 _ (Nat.le_trans h1 hk) I2 q2)) (fun f s3 q3 => ?_) fun _ _ z => z.2)
    obtain ⟨hk3, q3⟩ := q3
    cases f with
    | next =>
      obtain ⟨σ3, H3, I3, n3⟩ := q3
      obtain ⟨m', hm, w3⟩ := hN σ3 H3 n3
      exact ⟨m', hm, Nat.le_trans h1 (Nat.le_trans hk hk3), σ3, H3, I3, w3⟩
    | cont =>
      obtain ⟨σ3, H3, I3, n3⟩ := q3
      obtain ⟨m', hm, w3⟩ := hN σ3 H3 n3
      exact ⟨m', hm, Nat.le_trans h1 (Nat.le_trans hk hk3), σ3, H3, I3, w3⟩
    | brk => exact q3
    | ret v => exact q3
  | false =>
    rw [if_neg Bool.false_ne_true]
    exact wpAny_execs_nil ⟨σ1, H2, I2, q2⟩
end
/-! ### enumerate(text) -/
def ItES (x : Str) : It := ⟨fun i _ => i < x.cps.size, fun i H v H' => ∃ T c, v = .ref T ∧ H T = none ∧ H' = upd H T (.tup [.int (i : Nat), .str ⟨#[c]⟩]) ∧ x.cps[i]? = some c, fun i _ => x.cps.size ≤ i⟩
theorem turn_enumS {P : Program} {w : World} {K : PySem.W.Frag} {elts : List Expr} {kk : Nat} {tpos : Pos} (e it : Addr) (x : Str) (t : Tok) (ty : String) (hty : ty = "str_ascii_iterator" ∨ ty = "str_iterator") :
    Turn P w K (.Tuple elts kk tpos) (ItES x) [e, it] e (fun i h => i ≤ x.cps.size ∧ (∃ old, IsEnum h e it ((i : Nat) : Int) old) ∧ h.IsStrIter it ty x t i ∧ e ≠ it) where
  mem := by simp
  obj := fun i h st b hb => by
    obtain ⟨_, ⟨old, he⟩, ⟨o, ho, hc, hd⟩, _⟩ := st
    have e' : b = e ∨ b = it := by simpa using hb
    rcases e' with z | z
    · rw [z]; exact ⟨_, he, fun v q => nomatch q⟩
    · rw [z]; exact ⟨o, ho, fun v q => by rw [hd] at q; cases q⟩
  keep := fun i h h' st k => let ⟨hi, ⟨old, he⟩, ⟨o, ho, r⟩, hne⟩ := st; ⟨hi, ⟨old, k e (by simp) _ he⟩, ⟨o, k it (by simp) o ho, r⟩, hne⟩
  item := by
    intro X hP hw hK hc i pins s σ H E I hf st hg
    subst hP hw hK
    obtain ⟨hi, ⟨old, he⟩, hit, hne⟩ := st
    have hg : i < x.cps.size := hg
    have hel : e < s.heap.objs.size := Heap.lt_size he
    have hil : it < s.heap.objs.size := by obtain ⟨_, q, _⟩ := hit; exact Heap.lt_size q
    have D : PySem.Draws X.prog X.w X.A.in1 it [it] x.cps.size (fun i v => ∃ c u, x.cps[i]? = some c ∧ v = .str ⟨#[c]⟩ u) (fun i h => h.IsStrIter it ty x t i) := by
      rcases hty with e | e
      · rw [e]; exact PySem.Draws.strAscii (A := X.A.in1) (by show X.A.handled = none; exact I.ok.hd hc) it x t
      · rw [e]; exact PySem.Draws.strWide (A := X.A.in1) (by show X.A.handled = none; exact I.ok.hd hc) it x t
    refine wpAny_pyNext_enum_itemD D he hit hg hne (by simpa using hne) fun u h' tk hP ho hit' hT hsz hk => ?_
    obtain ⟨c, tc, hcx, rfl⟩ := hP
    refine ⟨_, rfl, wpAny_letOwnedTupleGo_enum (s := { s with heap := h', toks := tk + 1 }) ho fun h'' he' sb => ?_⟩
    have hT2 : h''.get? s.heap.objs.size = some { cls := .type "tuple", data := .seq #[.int i tk, .str ⟨#[c]⟩ tc] } := (sb.2 _ (Nat.ne_of_gt hel)).trans hT
    have new : ObjOk X.prog X.w (upd H s.heap.objs.size (.tup [.int (i : Nat), .str ⟨#[c]⟩])) h'' s.heap.objs.size (.tup [.int (i : Nat), .str ⟨#[c]⟩]) :=
      ⟨by show 2 ≤ sizeLine; decide, [.int i tk, .str ⟨#[c]⟩ tc], .cons ⟨_, rfl⟩ (.cons ⟨_, rfl⟩ .nil), ⟨_, hT2, rfl, _, rfl⟩⟩
    have I1 : Inv X pins σ (upd H s.heap.objs.size (.tup [.int (i : Nat), .str ⟨#[c]⟩])) { s with heap := h'', toks := tk + 1 } :=
      I.turnedNew (ch := [e, it]) (fun b ob hb q => (sb.2 b (fun z => hb (by simp [z]))).trans (hk b ob (fun z => hb (by simp [z])) (fun z => hb (by simp [z])) q)) hf (Nat.le_refl _) new
    refine ⟨.ref s.heap.objs.size, _, I1, rfl, ⟨_, c, rfl, I.hok.fresh (Nat.le_refl _), rfl, hcx⟩, ⟨hg, ⟨.str ⟨#[c]⟩ tc, ?_⟩, ?_, hne⟩, fun b hb => ?_⟩
    · have e1 : ((i + 1 : Nat) : Int) = (i : Int) + 1 := by omega
      rw [e1]; exact he'
    · obtain ⟨o, q, r⟩ := hit'
      exact ⟨o, (sb.2 it (Ne.symm hne)).trans q, r⟩
    · have hb' : b < s.heap.objs.size := by
        have e' : b = e ∨ b = it := by simpa using hb
        rcases e' with z | z
        · rw [z]; exact hel
        · rw [z]; exact hil
      rw [upd_ne (Nat.ne_of_lt hb')]
      exact (hf b hb).1
  done := by
    intro X hP hw hK hc i pins s σ H E I hf st hg
    subst hP hw hK
    obtain ⟨hi, ⟨old, he⟩, hit, hne⟩ := st
    obtain ⟨f0, f1, f2, f3, f4, f5⟩ := hf it (by simp)
    have ei : i = x.cps.size := Nat.le_antisymm hi hg
    have D : PySem.Draws X.prog X.w X.A.in1 it [it] x.cps.size (fun i v => ∃ c u, x.cps[i]? = some c ∧ v = .str ⟨#[c]⟩ u) (fun i h => h.IsStrIter it ty x t i) := by
      rcases hty with e | e
      · rw [e]; exact PySem.Draws.strAscii (A := X.A.in1) (by show X.A.handled = none; exact I.ok.hd hc) it x t
      · rw [e]; exact PySem.Draws.strWide (A := X.A.in1) (by show X.A.handled = none; exact I.ok.hd hc) it x t
    exact wpAny_pyNext_enum_endD D he (by rw [← ei]; exact hit) fun h' eb => ⟨rfl, I.turned (t' := s.toks) (fun b o hb q => eb b o hb q) f0 f1 f3 f4 f5⟩
  self := fun A i s Q E st h => let ⟨_, ⟨_, he⟩, _⟩ := st; wpAny_pyIter_enum he h
def iEnumS (te : TE) : TI := fun σ H R => te σ H fun v H1 => ∃ x, v = .str x ∧ R (ItES x) H1
theorem pi_enumS {X : Cx} {e : Expr} {te : TE} {p pos tpos : Pos} {elts : List Expr} {kk : Nat} (hg : Gl X "enumerate") (hm : X.mg "enumerate" = none) (he0 : PE X e te) (hs : starEach [e] X.env = [(false, eval e X.env)] := by rfl) :
    PI X (.Tuple elts kk tpos) (.Call (.Name "enumerate" p) [e] [] pos) (iEnumS te) := by
  refine ⟨fun pins s σ H R I h => ?_⟩
  have ha : PA X [e] (tCons te tNil) := pa_cons he0 pa_nil hs
  have h2 : (tCons te tNil) σ H (fun vs H1 => ∃ x, vs = [.str x] ∧ R (ItES x) H1) := by
    have key : ∀ v H1, (∃ x, v = .str x ∧ R (ItES x) H1) → tNil σ H1 (fun xs H2 => ∃ x, v :: xs = [V.str x] ∧ R (ItES x) H2) := fun v H1 ⟨x, ex, r⟩ => ⟨x, by rw [ex], r⟩
    have e1 : (fun v H1 => ∃ x, v = V.str x ∧ R (ItES x) H1) = fun v H1 => tNil σ H1 (fun xs H2 => ∃ x, v :: xs = [V.str x] ∧ R (ItES x) H2) := by
      funext v H1
      refine propext ⟨key v H1, fun ⟨x, ex, r⟩ => ⟨x, (List.cons.inj ex).1, r⟩⟩
    show te σ H (fun v H1 => tNil σ H1 (fun xs H2 => ∃ x, v :: xs = [V.str x] ∧ R (ItES x) H2))
    rw [← e1]
    exact h
  refine Call_ (ld_blt I hg hm boot_enumerate (PyProof.Rows.callWith_type1 (thn (ha.run pos pins s σ H _ I h2) fun us s1 ⟨vs, H1, I1, r1, q1⟩ => ?_) hs rfl))
  obtain ⟨x, ex, q⟩ := q1
  subst ex
  cases r1 with
  | cons r rr =>
    cases rr
    obtain ⟨t, rfl⟩ := r
    refine call_enumerate_str fun h' he hit hsz hk => wpAny_pyIter_enum he ?_
    have I2 : Inv X pins σ H1 { s1 with heap := h' } := I1.kept (t' := s1.toks) hk
    have hty : strIterType x = "str_ascii_iterator" ∨ strIterType x = "str_iterator" := by
      unfold strIterType
      split
      · exact .inl rfl
      · exact .inr rfl
    refine ⟨s1.heap.objs.size + 1, [s1.heap.objs.size + 1, s1.heap.objs.size], _, _, H1, rfl, I2, turn_enumS (s1.heap.objs.size + 1) s1.heap.objs.size x t _ hty, ⟨Nat.zero_le _, ⟨.none, he⟩, hit, Nat.succ_ne_self _⟩, fun b hb => ?_, q⟩
    have e' : b = s1.heap.objs.size + 1 ∨ b = s1.heap.objs.size := by simpa using hb
    have hle : s1.heap.objs.size ≤ b := by
      rcases e' with z | z
      · rw [z]; exact Nat.le_add_right _ _
      · rw [z]; exact Nat.le_refl _
    exact I1.fpOk hle (I1.hok.fresh hle)
section
variable {K : PySem.W.Frag} {mg : Str → Option Value} {W : WX} {Z Z' H H' : Hp} {S S' : Fp} {σ : Sl} {X : Cx} {a b c e o : Expr} {pos : Pos} {fa fb fc : M EV}
def enumS (x : Str) : List D := x.cps.toList.zipIdx.map fun p => .tup [.int (p.2 : Int), .str ⟨#[p.1]⟩]
theorem walk_enumS (x : Str) : WalkR K (ItES x) Z (enumS x) := by
  intro Z' H' z1 z2
  refine ⟨fun i hi => by unfold enumS at hi; rw [List.length_map, List.length_zipIdx, Array.length_toList] at hi; exact hi, fun i d hd => ?_⟩
  unfold enumS at hd
  rw [List.getElem?_map, List.getElem?_zipIdx] at hd
  cases e : x.cps.toList[i]? with
  | none => rw [e] at hd; cases hd
  | some c =>
    rw [e] at hd
    have hl : i < x.cps.size := by
      have := (List.getElem?_eq_some_iff.mp e).1
      simpa using this
    refine ⟨hl, fun y H'' S' w h => ?_⟩
    obtain ⟨T, c', rfl, nT, rfl, hc'⟩ := h
    have ec : c' = c := by
      have e' : x.cps[i]? = some c := by simpa using e
      rw [e'] at hc'
      exact (Option.some.inj hc').symm
    subst ec
    cases hd
    have st2 := Step.allocZ (o := .tup [.int ((i : Nat) : Int), .str ⟨#[c']⟩]) w nT
    refine ⟨_, st2, fun a o e => by rw [upd_ne (ne_of_none e nT)]; exact e, T, [.int ((i : Nat) : Int), .str ⟨#[c']⟩], rfl, SqT.of upd_same, Fp0, Fp0, fun _ x => x, fun _ x => x, fun _ x _ => x, by simp [Rep], Fp0, Fp0, fun _ x => x, fun _ x => x, fun _ x _ => x, rfl, trivial⟩
def srcEnumS (f : M EV) : M (List D) := bnd f fun e => fun ρ => match peek1 ρ e with
  | some (.str x) => .ok (enumS x) ρ
  | _ => .stuck
theorem tI_enumS {R : It → Hp → Prop} (h : tI K mg W (srcEnumS fa) σ H R) : iEnumS (tE K mg W fa) σ H R := by
  obtain ⟨Z, ρ, S, w, er, o⟩ := h
  refine ⟨Z, ρ, S, w, er, ?_⟩
  simp only [srcEnumS, bnd] at o
  cases e1 : fa ρ with
  | stuck => rw [e1] at o; exact o
  | exc x ρ1 => rw [e1] at o; exact o
  | ok ev ρ1 =>
    simp only [e1] at o
    intro v Z1 H1 S1 Sa st dj er1 r1
    split at o
    · rename_i x hx
      obtain rfl := str_of hx r1 er1
      exact ⟨x, rfl, o (ItES x) Z1 H1 S1 (st.less fun a x => .inl x) er1 (walk_enumS x)⟩
    · exact o.elim
theorem I_enumS {p tpos : Pos} {elts : List Expr} {kk : Nat} (hm : X.mg "enumerate" = none) (h : PE X e (tE X.K X.mg W fa)) (hg : Gl X "enumerate" := by rfl) (hs : starEach [e] X.env = [(false, eval e X.env)] := by rfl) :
    PI X (.Tuple elts kk tpos) (.Call (.Name "enumerate" p) [e] [] pos) (tI X.K X.mg W (srcEnumS fa)) := PI.of (pi_enumS hg hm h hs) fun _ _ _ q => tI_enumS q
end
end Pm
/-! PmZp: plain laws: comprehensions by what stays true, items of a display, small things and how they are shown. -/
namespace Pm
open PySem PySem.Spec PyProof.Rows L2
theorem compIt_inv {own : List Nat} {g : Tg} {c : M Bool} {e : M EV} : ∀ {ds : List D} (I : Nat → Env → List D → Prop) (acc : List D) (ρ : Env), I 0 ρ acc → acc.length + ds.length ≤ cap →
    (∀ (j : Nat) (d : D) (ρ : Env) (ac : List D), ds[j]? = some d → I j ρ ac → ∃ ρ1 ρ2 ρ3 ρ4 ev d', g d ρ = .ok () ρ1 ∧ c ρ1 = .ok true ρ2 ∧ e ρ2 = .ok ev ρ3 ∧ use1 ev ρ3 = .ok d' ρ4 ∧ I (j + 1) (wipeE ρ4 own) (ac ++ [d'])) →
    ∃ acc' ρ', compIt own g c e ds ρ acc = .ok acc' ρ' ∧ I ds.length ρ' acc' ∧ acc'.length = acc.length + ds.length
  | [], I, acc, ρ, h, _, _ => ⟨acc, ρ, rfl, h, rfl⟩
  | d :: ds, I, acc, ρ, h, hl, f => by
    obtain ⟨ρ1, ρ2, ρ3, ρ4, ev, d', e1, e2, e3, e4, h2⟩ := f 0 d ρ acc rfl h
    rw [List.length_cons] at hl
    have hl' : acc.length < cap := by omega
    obtain ⟨acc', ρ', e5, h5, h6⟩ := compIt_inv (ds := ds) (fun j => I (j + 1)) (acc ++ [d']) (wipeE ρ4 own) h2 (by rw [List.length_append, List.length_singleton]; omega) fun j d ρ ac hd hI => f (j + 1) d ρ ac (by simpa using hd) hI
    refine ⟨acc', ρ', ?_, h5, ?_⟩
    · unfold compIt
      simp only [e1, e2, e3, e4, if_pos hl']
      exact e5
    · rw [h6, List.length_append, List.length_singleton, List.length_cons]
      omega
/-- a comprehension that keeps some of the items -/
theorem compIt_fm {own : List Nat} {g : Tg} {c : M Bool} {e : M EV} {ρ : Env} (v : D → Option D) : ∀ (ds acc : List D), (∀ d ∈ ds, ∃ ρ1 ρ2, g d ρ = .ok () ρ1 ∧
      ((∃ w ρ3 ρ4 ev, v d = some w ∧ c ρ1 = .ok true ρ2 ∧ e ρ2 = .ok ev ρ3 ∧ use1 ev ρ3 = .ok w ρ4 ∧ wipeE ρ4 own = ρ) ∨ (v d = none ∧ c ρ1 = .ok false ρ2 ∧ wipeE ρ2 own = ρ))) → acc.length + ds.length ≤ cap →
    compIt own g c e ds ρ acc = .ok (acc ++ ds.filterMap v) ρ
  | [], acc, _, _ => by unfold compIt; rw [List.filterMap_nil, List.append_nil]
  | d :: ds, acc, h, hl => by
    obtain ⟨ρ1, ρ2, e1, e2⟩ := h d List.mem_cons_self
    rw [List.length_cons] at hl
    have hl' : acc.length < cap := by omega
    unfold compIt
    rcases e2 with ⟨w, ρ3, ρ4, ev, hv, e2, e3, e4, e5⟩ | ⟨hv, e2, e5⟩
    · simp only [e1, e2, e3, e4, if_pos hl', e5]
      rw [compIt_fm v ds (acc ++ [w]) (fun d' hd => h d' (List.mem_cons_of_mem _ hd)) (by rw [List.length_append, List.length_singleton]; omega), List.filterMap_cons, hv, List.append_assoc]
      rfl
    · simp only [e1, e2, e5]
      rw [compIt_fm v ds acc (fun d' hd => h d' (List.mem_cons_of_mem _ hd)) (by omega), List.filterMap_cons, hv]
theorem atI_all {P : D → Prop} {xs : List D} {k : Int} (h0 : 0 ≤ k) (h1 : k < (xs.length : Int)) (h : ∀ x ∈ xs, P x) : ∃ d, atI xs k = some d ∧ P d := by
  obtain ⟨n, rfl⟩ := Int.eq_ofNat_of_zero_le h0
  have hn : n < xs.length := by omega
  refine ⟨xs[n], ?_, h _ (List.getElem_mem hn)⟩
  unfold atI ixN
  simp [hn]
/-- a small thing: at most n deep, numbers of at most two hundred bits -/
def low : Nat → D → Bool
  | _, .non => true
  | _, .bl _ => true
  | _, .int i => decide (i.natAbs.log2 < 200)
  | _, .str x => PyData.strOk x
  | n + 1, .node _ .lst xs => xs.all (low n)
  | n + 1, .node _ .tup xs => xs.all (low n)
  | _, _ => false
theorem low_shp : ∀ (n : Nat) (d : D), low n d = true → shp n d = true
  | _, .non, _ => by unfold shp; rfl
  | _, .bl _, _ => by unfold shp; rfl
  | _, .int _, _ => by unfold shp; rfl
  | n, .str x, h => by cases n <;> simpa [low, shp] using h
  | n, .op _, h => by cases n <;> simp [low] at h
  | 0, .node _ k xs, h => by cases k <;> simp [low] at h
  | n + 1, .node o k xs, h => by
    cases k with
    | lst => simp only [low, List.all_eq_true] at h; simp only [shp, List.all_eq_true]; exact fun x hx => low_shp n x (h x hx)
    | tup => simp only [low, List.all_eq_true] at h; simp only [shp, List.all_eq_true]; exact fun x hx => low_shp n x (h x hx)
    | scr => simp [low] at h
    | dct ks => simp [low] at h
    | obj C fs => simp [low] at h
theorem low_shw : ∀ (n : Nat) (d : D), low n d = true → shw n d = true
  | _, .non, _ => by unfold shw; rfl
  | _, .bl _, _ => by unfold shw; rfl
  | n, .int i, h => by
    have h' : i.natAbs.log2 < 200 := by cases n <;> simpa [low] using h
    cases n <;> exact decide_eq_true (Nat.lt_trans h' (by decide))
  | n, .str x, h => by unfold shw; rfl
  | n, .op _, h => by cases n <;> simp [low] at h
  | 0, .node _ k xs, h => by cases k <;> simp [low] at h
  | n + 1, .node o k xs, h => by
    cases k with
    | lst => simp only [low, List.all_eq_true] at h; simp only [shw, List.all_eq_true]; exact fun x hx => low_shw n x (h x hx)
    | tup => simp only [low, List.all_eq_true] at h; simp only [shw, List.all_eq_true]; exact fun x hx => low_shw n x (h x hx)
    | scr => simp [low] at h
    | dct ks => simp [low] at h
    | obj C fs => simp [low] at h
theorem low_mono : ∀ {n m : Nat} {d : D}, low n d = true → n ≤ m → low m d = true
  | _, _, .non, _, _ => by unfold low; rfl
  | _, _, .bl _, _, _ => by unfold low; rfl
  | n, m, .int i, h, _ => by cases n <;> cases m <;> simpa [low] using h
  | n, m, .str x, h, _ => by cases n <;> cases m <;> simpa [low] using h
  | n, _, .op _, h, _ => by cases n <;> simp [low] at h
  | 0, _, .node _ k xs, h, _ => by cases k <;> simp [low] at h
  | n + 1, 0, .node _ k xs, _, l => by omega
  | n + 1, m + 1, .node o k xs, h, l => by
    cases k with
    | lst => simp only [low, List.all_eq_true] at h ⊢; exact fun x hx => low_mono (h x hx) (by omega)
    | tup => simp only [low, List.all_eq_true] at h ⊢; exact fun x hx => low_mono (h x hx) (by omega)
    | scr => simp [low] at h
    | dct ks => simp [low] at h
    | obj C fs => simp [low] at h
theorem int_short {i : Int} (h : i.natAbs.log2 < 200) : (PyData.shown (.int i)).length ≤ 201 := by
  have e := int_text_length_le (a := i) (k := 200) (by decide) h
  show (Str.ofString (toString i)).length ≤ 201
  rw [PySem.ofString_length]
  exact e
theorem leaves_all (B : Nat) : ∀ xs : List D, (∀ x ∈ xs, (toP x).leavesShort B = true) → PyData.leavesShortAll B (toPL xs) = true
  | [], _ => rfl
  | x :: xs, h => by
    simp only [toPL, PyData.leavesShortAll]
    rw [h x List.mem_cons_self, leaves_all B xs fun y hy => h y (List.mem_cons_of_mem _ hy)]
    rfl
theorem low_leaves : ∀ (n : Nat) (d : D), low n d = true → (toP d).leavesShort 201 = true
  | _, .non, _ => rfl
  | _, .bl _, _ => rfl
  | n, .int i, h => by
    have h' : i.natAbs.log2 < 200 := by cases n <;> simpa [low] using h
    exact decide_eq_true (int_short h')
  | n, .str x, h => by
    have h' : PyData.strOk x = true := by cases n <;> simpa [low] using h
    have h0 : x.cps.all (· < 0x110000) = true := h'
    show (x.cps.toList.all fun c => decide (c < 16 ^ 8)) = true
    rw [List.all_eq_true]
    intro c hc
    rw [Array.all_eq_true'] at h0
    have := h0 c (by simpa using hc)
    simp only [decide_eq_true_eq] at this ⊢
    exact Nat.lt_trans this (by decide)
  | n, .op _, h => by cases n <;> simp [low] at h
  | 0, .node _ k xs, h => by cases k <;> simp [low] at h
  | n + 1, .node o k xs, h => by
    cases k with
    | lst => simp only [low, List.all_eq_true] at h; simp only [toP, PyData.leavesShort]; exact leaves_all _ xs fun x hx => low_leaves n x (h x hx)
    | tup => simp only [low, List.all_eq_true] at h; simp only [toP, PyData.leavesShort]; exact leaves_all _ xs fun x hx => low_leaves n x (h x hx)
    | scr => simp [low] at h
    | dct ks => simp [low] at h
    | obj C fs => simp [low] at h
/-- how much a thing holds -/
def mass (d : D) : Nat := (toP d).bulk
def massL (xs : List D) : Nat := PyData.bulkAll (toPL xs)
theorem mass_tup (o : Bool) (xs : List D) : mass (.node o .tup xs) = massL xs := rfl
theorem mass_lst (o : Bool) (xs : List D) : mass (.node o .lst xs) = massL xs := rfl
theorem massL_nil : massL [] = 0 := rfl
theorem massL_cons (x : D) (xs : List D) : massL (x :: xs) = mass x + 1 + massL xs := rfl
theorem mass_non : mass .non = 0 := rfl
theorem mass_bl (b : Bool) : mass (.bl b) = 0 := rfl
theorem mass_int (i : Int) : mass (.int i) = 0 := rfl
theorem mass_str (x : Str) : mass (.str x) = x.cps.size := rfl
theorem massL_le {c : Nat} : ∀ {xs : List D}, (∀ x ∈ xs, mass x ≤ c) → massL xs ≤ xs.length * (c + 1)
  | [], _ => by rw [massL_nil]; exact Nat.zero_le _
  | x :: xs, h => by
    rw [massL_cons, List.length_cons, Nat.add_mul]
    have := h x List.mem_cons_self
    have := massL_le (xs := xs) fun y hy => h y (List.mem_cons_of_mem _ hy)
    omega
theorem repr_low {n : Nat} {d : D} (h : low n d = true) (hn : n ≤ 60) (hm : mass d ≤ 4000) : opRepr [d] = some (.str (reprD d)) := by
  have h60 := low_mono h hn
  have h1 := low_shp 60 d h60
  have h2 := low_shw 60 d h60
  have h3 := PyData.shown_le_bulk 201 (by decide) (toP d) (low_leaves 60 d h60)
  have h4 : (reprD d).length ≤ cap := by
    show (toP d).shown.length ≤ 1000000
    have : (toP d).bulk ≤ 4000 := hm
    omega
  unfold opRepr
  split
  · rename_i i e
    obtain rfl := List.singleton_inj.mp e
    rw [if_pos h2]
  · rename_i d' _ e
    obtain rfl := List.singleton_inj.mp e
    rw [h1, h2, decide_eq_true h4]
    rfl
  · rename_i h' 
    exact absurd rfl (h' d)
theorem reprA_low {n : Nat} {d : D} (h : low n d = true) (hn : n ≤ 60) (hm : mass d ≤ 4000) : opReprA [d] = some (.str (reprD d)) := by
  rw [← repr_low h hn hm]
  unfold opReprA
  split
  · rename_i o ks xs e
    obtain rfl := List.singleton_inj.mp e
    cases n <;> simp [low] at h
  · rename_i e
    rfl
theorem Sm.low {e : Nat} {x : Int} (h : Sm e x) (l : e ≤ 200) (n : Nat) : low n (.int x) = true := by
  have : x.natAbs.log2 < 200 := by
    by_cases hx : x.natAbs = 0
    · rw [hx]; decide
    · exact (Nat.log2_lt hx).mpr (h.mono l)
  cases n <;> exact decide_eq_true this
def isTup : D → Bool
  | .node _ .tup _ => true
  | _ => false
def isLst : D → Bool
  | .node _ .lst _ => true
  | _ => false
def isStr : D → Bool
  | .str _ => true
  | _ => false
def isBl : D → Bool
  | .bl _ => true
  | _ => false
def isWhl : D → Bool
  | .int _ => true
  | .bl _ => true
  | _ => false
theorem isi_tup {d : D} (h : (tyN d).isSome = true) : opIsi [d, .op (.ty "tuple")] = some (.bl (isTup d)) := by
  cases d with
  | node o k xs => cases k <;> first | rfl | cases h
  | op v => cases h
  | _ => rfl
theorem isi_lst {d : D} (h : (tyN d).isSome = true) : opIsi [d, .op (.ty "list")] = some (.bl (isLst d)) := by
  cases d with
  | node o k xs => cases k <;> first | rfl | cases h
  | op v => cases h
  | _ => rfl
theorem isi_str {d : D} (h : (tyN d).isSome = true) : opIsi [d, .op (.ty "str")] = some (.bl (isStr d)) := by
  cases d with
  | node o k xs => cases k <;> first | rfl | cases h
  | op v => cases h
  | _ => rfl
theorem isi_bl {d : D} (h : (tyN d).isSome = true) : opIsi [d, .op (.ty "bool")] = some (.bl (isBl d)) := by
  cases d with
  | node o k xs => cases k <;> first | rfl | cases h
  | op v => cases h
  | _ => rfl
theorem isi_int {d : D} (h : (tyN d).isSome = true) : opIsi [d, .op (.ty "int")] = some (.bl (isWhl d)) := by
  cases d with
  | node o k xs => cases k <;> first | rfl | cases h
  | op v => cases h
  | _ => rfl
theorem low_ty {n : Nat} {d : D} (h : low n d = true) : (tyN d).isSome = true := by
  cases d with
  | node o k xs => cases k <;> first | rfl | (cases n <;> simp [low] at h)
  | op v => cases n <;> simp [low] at h
  | _ => rfl
theorem plain_mem {xs : List D} (h : plainL xs = true) : ∀ x ∈ xs, x.plain = true := by
  rw [plainL_all, List.all_eq_true] at h
  exact h
theorem plainL_of {xs : List D} (h : ∀ x ∈ xs, x.plain = true) : plainL xs = true := by
  rw [plainL_all, List.all_eq_true]
  exact h
mutual
theorem toP_frz : ∀ d : D, toP d.frz = toP d
  | .non => rfl
  | .bl _ => rfl
  | .int _ => rfl
  | .str _ => rfl
  | .op _ => rfl
  | .node o k xs => by
    cases k <;> simp only [D.frz, toP, toPL_frz xs]
theorem toPL_frz : ∀ xs : List D, toPL (frzL xs) = toPL xs
  | [] => rfl
  | x :: xs => by simp only [frzL, toPL, toP_frz x, toPL_frz xs]
end
theorem low_frz : ∀ {n : Nat} {d : D}, low n d = true → low n d.frz = true
  | _, .non, h => h
  | _, .bl _, h => h
  | _, .int _, h => h
  | _, .str _, h => h
  | n, .op _, h => h
  | 0, .node _ k xs, h => by cases k <;> simp [low] at h
  | n + 1, .node o k xs, h => by
    cases k with
    | lst => simp only [low, D.frz, List.all_eq_true] at h ⊢; rw [frzL_map]; exact fun x hx => by obtain ⟨y, hy, rfl⟩ := List.mem_map.mp hx; exact low_frz (h y hy)
    | tup => simp only [low, D.frz, List.all_eq_true] at h ⊢; rw [frzL_map]; exact fun x hx => by obtain ⟨y, hy, rfl⟩ := List.mem_map.mp hx; exact low_frz (h y hy)
    | scr => simp [low] at h
    | dct ks => simp [low] at h
    | obj C fs => simp [low] at h
theorem mass_frz (d : D) : mass d.frz = mass d := by unfold mass; rw [toP_frz]
/-- an item of a list of no name, by a place that is worked out behind it -/
theorem idx_val {P : D → Prop} {fa fi : M EV} {ρ ρ1 ρ2 : Env} {o : Bool} {xs : List D} {r : Int} (h1 : fa ρ = .ok (.val (.node o .lst xs)) ρ1) (h2 : fi ρ1 = .ok (.val (.int r)) ρ2) (h0 : 0 ≤ r) (hr : r < (xs.length : Int)) (h : ∀ x ∈ xs, P x) :
    ∃ d, idx (aCons fa (aCons fi aNil)) ρ = .ok (.val d) ρ2 ∧ P d := by
  obtain ⟨d, e, hd⟩ := atI_all h0 hr h
  refine ⟨d, ?_, hd⟩
  simp [idx, aCons, aNil, bnd, Pm.ret, h1, h2, peek1, itemOf, e]
/-- an item of a list or a tuple that stands in a slot -/
theorem idx_ref {P : D → Prop} {fi : M EV} {ρ ρ2 : Env} {o : Bool} {k : Kd} {xs : List D} {r : Int} {j : Nat} (hk : k = .lst ∨ k = .tup) (h1 : ρ[j]?.isSome ∧ ρ.getD j none ≠ none) (h2 : fi ρ = .ok (.val (.int r)) ρ2) (h3 : ρ2.getD j none = some (.node o k xs)) (h0 : 0 ≤ r) (hr : r < (xs.length : Int)) (h : ∀ x ∈ xs, P x) :
    ∃ d xs', idx (aCons (loc j) (aCons fi aNil)) ρ = .ok (.val d.frz) (ρ2.set j (some (.node o k xs'))) ∧ P d ∧ d ∈ xs ∧ (plainL xs = true → xs' = xs) := by
  obtain ⟨n, rfl⟩ := Int.eq_ofNat_of_zero_le h0
  have hn : n < xs.length := by omega
  obtain ⟨v, hv⟩ := Option.ne_none_iff_exists'.mp h1.2
  have e1 : loc j ρ = .ok (.ref j) ρ := by unfold loc; rw [hv]
  have e2 : ixN xs.length (n : Int) = some n := by unfold ixN; simp [hn]
  have es : ρ2.set j (some (.node o k xs)) = ρ2 := by
    have := getD_some h3
    obtain ⟨hj, ej⟩ := List.getElem?_eq_some_iff.mp this
    rw [← ej, List.set_getElem_self]
  have h3' := getD_some h3
  by_cases hp : xs[n].plain = true
  · refine ⟨xs[n], xs, ?_, h _ (List.getElem_mem hn), List.getElem_mem hn, fun _ => rfl⟩
    rw [es, D.frz_of_plain _ hp]
    rcases hk with rfl | rfl <;> simp [idx, aCons, aNil, bnd, Pm.ret, e1, h2, peek1, itemOf, h3', e2, hn, hp]
  · refine ⟨xs[n], xs.set n xs[n].frz, ?_, h _ (List.getElem_mem hn), List.getElem_mem hn, fun q => absurd (plain_mem q _ (List.getElem_mem hn)) hp⟩
    rcases hk with rfl | rfl <;> simp [idx, aCons, aNil, bnd, Pm.ret, e1, h2, peek1, itemOf, h3', e2, hn, hp]
theorem asg_val {f : M EV} {ρ ρ1 : Env} {d : D} {i : Nat} (h : f ρ = .ok (.val d) ρ1) (hi : i < ρ1.length) : asg f (gN i) ρ = .ok .nx (ρ1.set i (some d)) := by
  simp [asg, bnd, h, use1, gN, hi]
theorem rtn_val {f : M EV} {ρ ρ1 : Env} {d : D} (h : f ρ = .ok (.val d) ρ1) : rtn f ρ = .ok (.rt d) ρ1 := by
  simp [rtn, bnd, h, use1, Pm.ret]
theorem hAdd_ii (i j : Int) : hAdd [.int i, .int j] = some (.int (i + j)) := rfl
theorem hAdd_tt {xs ys : List D} (h1 : plainL xs = true) (h2 : plainL ys = true) (h3 : xs.length + ys.length ≤ cap) : hAdd [.node false .tup xs, .node false .tup ys] = some (.tup (xs ++ ys)) := by
  show (if _ then _ else _) = _
  rw [if_pos ⟨h1, h2, h3⟩]
theorem hAdd_ll {p q : Bool} {xs ys : List D} (h1 : plainL xs = true) (h2 : plainL ys = true) (h3 : xs.length + ys.length ≤ cap) : hAdd [.node p .lst xs, .node q .lst ys] = some (.lst true (xs ++ ys)) := by
  show (if _ then _ else _) = _
  rw [if_pos ⟨h1, h2, h3⟩]
theorem hAdd_ss {x y : Str} (h : x.length + y.length ≤ cap) : hAdd [.str x, .str y] = some (.str (x ++ y)) := by
  show gAddS [.str x, .str y] = _
  unfold gAddS
  simp only [if_pos h]
theorem opGtA_ii (i j : Int) : opGtA [.int i, .int j] = some (.bl (decide (j < i))) := rfl
theorem opLtA_ii (i j : Int) : opLtA [.int i, .int j] = some (.bl (decide (i < j))) := rfl
theorem opGeA_ii (i j : Int) : opGeA [.int i, .int j] = some (.bl (decide (j ≤ i))) := rfl
theorem opLeA_ii (i j : Int) : opLeA [.int i, .int j] = some (.bl (decide (i ≤ j))) := rfl
theorem ne_nil (o p : Bool) {xs : List D} (h : ∀ x ∈ xs, shp 59 x = true) : opNe [.node o .lst xs, .node p .lst []] = some (.bl (decide (xs ≠ []))) := by
  have h1 : shp 60 (.node o .lst xs) = true := by
    show xs.all (shp 59) = true
    rw [List.all_eq_true]
    exact h
  have h2 : shp 60 (.node p .lst []) = true := rfl
  show (if (shp 60 (.node o .lst xs) && shp 60 (.node p .lst [])) = true then some (D.bl !deq (.node o .lst xs) (.node p .lst [])) else none) = _
  rw [h1, h2]
  cases xs <;> rfl
theorem eq_nil (o p : Bool) {xs : List D} (h : ∀ x ∈ xs, shp 59 x = true) : opEq [.node o .lst xs, .node p .lst []] = some (.bl (decide (xs = []))) := by
  have h1 : shp 60 (.node o .lst xs) = true := by
    show xs.all (shp 59) = true
    rw [List.all_eq_true]
    exact h
  have h2 : shp 60 (.node p .lst []) = true := rfl
  show (if (shp 60 (.node o .lst xs) && shp 60 (.node p .lst [])) = true then some (D.bl (deq (.node o .lst xs) (.node p .lst []))) else none) = _
  rw [h1, h2]
  cases xs <;> rfl
theorem all_bls (o : Bool) (bs : List Bool) : opAll [.node o .lst (bs.map D.bl)] = some (.bl (bs.all id)) := by
  unfold opAll
  simp only [blsD_map]
theorem any_bls (o : Bool) (bs : List Bool) : opAny [.node o .lst (bs.map D.bl)] = some (.bl (bs.any id)) := by
  unfold opAny
  simp only [blsD_map]
theorem massL_append : ∀ xs ys : List D, massL (xs ++ ys) = massL xs + massL ys
  | [], ys => by rw [List.nil_append, massL_nil, Nat.zero_add]
  | x :: xs, ys => by rw [List.cons_append, massL_cons, massL_cons, massL_append xs ys]; omega
theorem strOk_of (s : String) : PyData.strOk (Str.ofString s) = true := by
  rw [Str.ofString_eq_toList]
  unfold PyData.strOk
  rw [Array.all_eq_true']
  intro c hc
  simp only [List.mem_toArray, List.mem_map] at hc
  obtain ⟨ch, _, rfl⟩ := hc
  refine decide_eq_true ?_
  rcases ch.valid with h | h
  · exact Nat.lt_trans h (by decide)
  · exact h.2
theorem strOk_add {a b : Str} (ha : PyData.strOk a = true) (hb : PyData.strOk b = true) : PyData.strOk (a ++ b) = true := by
  unfold PyData.strOk at *
  rw [Array.all_eq_true'] at *
  intro c hc
  have : c ∈ a.cps ++ b.cps := hc
  rcases Array.mem_append.mp this with h | h
  · exact ha c h
  · exact hb c h
/-- cuts from the start, to the end -/
theorem cutD_to (xs : List D) (k : Nat) (hk : k ≤ xs.length) : Pm.cutD xs none (some (k : Int)) = xs.take k := by
  unfold Pm.cutD
  rw [HT.sIx_none, HT.sIx_nat, List.drop_zero, Nat.sub_zero, Nat.min_eq_left hk]
theorem cutD_from (xs : List D) (k : Nat) : Pm.cutD xs (some (k : Int)) none = xs.drop k := by
  unfold Pm.cutD
  rw [HT.sIx_none, HT.sIx_nat]
  by_cases h : k ≤ xs.length
  · rw [Nat.min_eq_left h]
    exact List.take_of_length_le (by rw [List.length_drop]; exact Nat.le_refl _)
  · rw [Nat.min_eq_right (by omega), List.drop_length, List.drop_eq_nil_of_le (by omega), List.take_nil]
theorem gCut_tup {xs : List D} (h : plainL xs = true) (lo hi : Option Int) : gCut lo hi (.node false .tup xs) = some (.tup (Pm.cutD xs lo hi)) := by
  show (if plainL xs = true then some (D.tup (Pm.cutD xs lo hi)) else none) = _
  rw [if_pos h]
theorem gCut_lst {o : Bool} {xs : List D} (h : plainL xs = true) (lo hi : Option Int) : gCut lo hi (.node o .lst xs) = some (.lst true (Pm.cutD xs lo hi)) := by
  show (if plainL xs = true then some (D.lst true (Pm.cutD xs lo hi)) else none) = _
  rw [if_pos h]
theorem ne_ss (x y : Str) : opNe [.str x, .str y] = some (.bl (!(x == y))) := rfl
theorem eq_ss (x y : Str) : opEq [.str x, .str y] = some (.bl (x == y)) := rfl
end Pm
/-! PmZq: plain laws: clauses of comprehensions, numbers compared, steps of loops. -/
namespace Pm
open PySem PySem.Spec PyProof.Rows L2
theorem hMul_ii (i j : Int) : hMul [.int i, .int j] = iMul i j := rfl
theorem max2_ii (i j : Int) : opMax2 [.int i, .int j] = some (.int (max i j)) := by
  show some (D.int (if j > i then j else i)) = _
  congr 2
  split <;> omega
theorem min2_ii (i j : Int) : opMin2 [.int i, .int j] = some (.int (min i j)) := by
  show some (D.int (if j < i then j else i)) = _
  congr 2
  split <;> omega
/-- a whole number or None -/
def oD : Option Int → D
  | none => .non
  | some i => .int i
theorem oD_plain (o : Option Int) : (oD o).plain = true := by cases o <;> rfl
theorem oD_frz (o : Option Int) : (oD o).frz = oD o := by cases o <;> rfl
theorem isN_oD (o : Option Int) : opIsN [oD o, .non] = some (.bl o.isNone) := by cases o <;> rfl
theorem notN_oD (o : Option Int) : opNotN [oD o, .non] = some (.bl o.isSome) := by cases o <;> rfl
theorem isN_int (i : Int) : opIsN [.int i, .non] = some (.bl false) := rfl
theorem isN_non : opIsN [.non, .non] = some (.bl true) := rfl
theorem notN_int (i : Int) : opNotN [.int i, .non] = some (.bl true) := rfl
theorem notN_non : opNotN [.non, .non] = some (.bl false) := rfl
theorem forIt_nil {g : Tg} {b : M Fl} {ρ : Env} : forIt g b [] ρ = .ok .nx ρ := rfl
theorem forIt_step {g : Tg} {b : M Fl} {d : D} {ds : List D} {ρ ρ1 ρ2 : Env} (h1 : g d ρ = .ok () ρ1) (h2 : b ρ1 = .ok .nx ρ2) : forIt g b (d :: ds) ρ = forIt g b ds ρ2 := by
  rw [forIt]
  simp only [h1]
  unfold bnd
  rw [h2]
/-- a clause that leaves the slots as they were -/
theorem clIt_fm {vs : List Nat} {g : Tg} {c : M Bool} {inn : In} {ρ : Env} (F : D → List D) (n : Nat) (hn : n ≤ cap) : ∀ (ds acc : List D), (∀ d ∈ ds, ∃ ρ1 ρ2, g d ρ = .ok () ρ1 ∧
      ((c ρ1 = .ok true ρ2 ∧ ∀ ac : List D, ac.length + (F d).length ≤ n → ∃ ρ3, inn ρ2 ac = .ok (ac ++ F d) ρ3 ∧ wipeE ρ3 vs = ρ) ∨ (F d = [] ∧ c ρ1 = .ok false ρ2 ∧ wipeE ρ2 vs = ρ))) → acc.length + (ds.flatMap F).length ≤ n →
    clIt vs g c inn ds ρ acc = .ok (acc ++ ds.flatMap F) ρ
  | [], acc, _, _ => by unfold clIt; rw [List.flatMap_nil, List.append_nil]
  | d :: ds, acc, h, hl => by
    obtain ⟨ρ1, ρ2, e1, e2⟩ := h d List.mem_cons_self
    rw [List.flatMap_cons, List.length_append] at hl
    unfold clIt
    rcases e2 with ⟨e2, e3⟩ | ⟨hv, e2, e5⟩
    · obtain ⟨ρ3, e3, e4⟩ := e3 acc (by omega)
      simp only [e1, e2, e3, e4]
      rw [clIt_fm F n hn ds (acc ++ F d) (fun d' hd => h d' (List.mem_cons_of_mem _ hd)) (by rw [List.length_append]; omega), List.flatMap_cons, List.append_assoc]
    · simp only [e1, e2, e5]
      rw [clIt_fm F n hn ds acc (fun d' hd => h d' (List.mem_cons_of_mem _ hd)) (by omega), List.flatMap_cons, hv, List.nil_append]
theorem emit_ok {e : M EV} {ρ ρ1 ρ2 : Env} {ev : EV} {d : D} {acc : List D} (h1 : e ρ = .ok ev ρ1) (h2 : use1 ev ρ1 = .ok d ρ2) (hl : acc.length < cap) : emit e ρ acc = .ok (acc ++ [d]) ρ2 := by
  unfold emit
  simp only [h1, h2, if_pos hl]
theorem cla_ok {vs : List Nat} {s : M (List D)} {g : Tg} {c : M Bool} {inn : In} {ρ ρ1 : Env} {ds acc : List D} (hs : s ρ = .ok ds ρ1) : cla vs s g c inn ρ acc = clIt vs g c inn ds (wipeE ρ1 vs) acc := by
  unfold cla
  simp only [hs]
theorem compN_of {own : List Nat} {s : M (List D)} {g : Tg} {c : M Bool} {inn : In} {ρ ρ1 ρ2 : Env} {ds acc : List D} (hs : s ρ = .ok ds ρ1) (hc : clIt own g c inn ds (wipeE ρ1 own) [] = .ok acc ρ2) : compN own s g c inn ρ = .ok (.val (.lst true acc)) (backE ρ1 ρ2 own) := by
  unfold compN bnd
  simp only [hs, hc]
theorem int_lst (o : Bool) (ns : List Int) : intsD (ns.map D.int) = some ns := intsD_map ns
theorem asg_t3 {f : M EV} {ρ ρ1 : Env} {a b c : D} {i j k : Nat} (h : f ρ = .ok (.val (.tup [a, b, c])) ρ1) (hi : i < ρ1.length) (hj : j < ρ1.length) (hk : k < ρ1.length) : asg f (gT (gsC (gN i) (gsC (gN j) (gsC (gN k) gs0))) 3) ρ = .ok .nx (((ρ1.set i (some a)).set j (some b)).set k (some c)) := by
  simp [asg, bnd, h, use1, gT, gsC, gN, gs0, hi, hj, hk]
end Pm
/-! PmWp: what a function over slots comes to, step by step. -/
namespace Pm
open PySem PySem.Spec PyProof.Rows L2
/-- m comes out without an exception, and Q holds of what it gives -/
@[irreducible] def Wp {α : Type} (m : M α) (ρ : Env) (Q : α → Env → Prop) : Prop := match m ρ with
  | .ok a ρ' => Q a ρ'
  | _ => False
theorem Wp.ok {α : Type} {m : M α} {ρ : Env} {Q : α → Env → Prop} (h : Wp m ρ Q) : ∃ a ρ', m ρ = .ok a ρ' ∧ Q a ρ' := by
  unfold Wp at h
  split at h
  · rename_i a ρ' e
    exact ⟨a, ρ', e, h⟩
  · exact h.elim
theorem Wp.of {α : Type} {m : M α} {ρ ρ' : Env} {a : α} {Q : α → Env → Prop} (e : m ρ = .ok a ρ') (h : Q a ρ') : Wp m ρ Q := by
  unfold Wp
  rw [e]
  exact h
theorem Wp.mono {α : Type} {m : M α} {ρ : Env} {Q R : α → Env → Prop} (h : Wp m ρ Q) (i : ∀ a ρ', Q a ρ' → R a ρ') : Wp m ρ R := by
  obtain ⟨a, ρ', e, q⟩ := h.ok
  exact .of e (i a ρ' q)
theorem wp_seq {a b : M Fl} {ρ : Env} {Q : Fl → Env → Prop} (h : ∀ K : Fl → Env → Prop, (∀ ρ', Wp b ρ' Q → K .nx ρ') → (∀ d ρ', Q (.rt d) ρ' → K (.rt d) ρ') → (∀ ρ', Q .bk ρ' → K .bk ρ') → (∀ ρ', Q .ct ρ' → K .ct ρ') → Wp a ρ K) : Wp (seq a b) ρ Q := by
  have h' := h (fun f ρ' => match f with | .nx => Wp b ρ' Q | f => Q f ρ') (fun _ q => q) (fun _ _ q => q) (fun _ q => q) (fun _ q => q)
  obtain ⟨f, ρ', e, q⟩ := h'.ok
  cases f with
  | nx =>
    obtain ⟨f2, ρ2, e2, q2⟩ := Wp.ok q
    exact .of (a := f2) (ρ' := ρ2) (by rw [seq_ok e, e2]) q2
  | bk => exact .of (a := .bk) (ρ' := ρ') (by unfold seq bnd; rw [e]; rfl) q
  | ct => exact .of (a := .ct) (ρ' := ρ') (by unfold seq bnd; rw [e]; rfl) q
  | rt d => exact .of (a := .rt d) (ρ' := ρ') (by unfold seq bnd; rw [e]; rfl) q
theorem wp_end {a : M Fl} {ρ : Env} {Q : Fl → Env → Prop} (h : ∀ K : Fl → Env → Prop, (∀ ρ', Q .nx ρ' → K .nx ρ') → (∀ d ρ', Q (.rt d) ρ' → K (.rt d) ρ') → (∀ ρ', Q .bk ρ' → K .bk ρ') → (∀ ρ', Q .ct ρ' → K .ct ρ') → Wp a ρ K) : Wp a ρ Q :=
  h Q (fun _ q => q) (fun _ _ q => q) (fun _ q => q) fun _ q => q
theorem wp_ite {c : M Bool} {a b : M Fl} {ρ : Env} {Q : Fl → Env → Prop} (h : Wp c ρ fun t ρ' => (t = true → Wp a ρ' Q) ∧ (t = false → Wp b ρ' Q)) : Wp (Pm.ite c a b) ρ Q := by
  obtain ⟨t, ρ', e, q1, q2⟩ := h.ok
  cases t with
  | true =>
    obtain ⟨f, ρ2, e2, q⟩ := (q1 rfl).ok
    exact .of (by rw [ite_T e, e2]) q
  | false =>
    obtain ⟨f, ρ2, e2, q⟩ := (q2 rfl).ok
    exact .of (by rw [ite_F e, e2]) q
/-- what a turn leaves -/
def Tn (J : Env → Prop) (Q : Fl → Env → Prop) : Fl → Env → Prop
  | .nx, ρ => J ρ
  | .ct, ρ => J ρ
  | .bk, ρ => Q .nx ρ
  | .rt d, ρ => Q (.rt d) ρ
theorem wp_forIt {g : Tg} {b : M Fl} {Q : Fl → Env → Prop} : ∀ {ds : List D} (I : Nat → Env → Prop),
    (∀ (j : Nat) (d : D) (ρ : Env), ds[j]? = some d → I j ρ → ∃ ρ1, g d ρ = .ok () ρ1 ∧ Wp b ρ1 (Tn (I (j + 1)) Q)) → (∀ ρ, I ds.length ρ → Q .nx ρ) → ∀ ρ, I 0 ρ → Wp (forIt g b ds) ρ Q
  | [], I, _, he, ρ, h0 => .of (a := .nx) (ρ' := ρ) rfl (he ρ h0)
  | d :: ds, I, hs, he, ρ, h0 => by
    obtain ⟨ρ1, e1, w⟩ := hs 0 d ρ rfl h0
    obtain ⟨f, ρ2, e2, q⟩ := w.ok
    have rest : I 1 ρ2 → Wp (forIt g b ds) ρ2 Q := fun i1 => wp_forIt (fun j => I (j + 1)) (fun j d' ρ' hd hi => hs (j + 1) d' ρ' (by simpa using hd) hi) (fun ρ' hi => he ρ' hi) ρ2 i1
    cases f with
    | nx =>
      obtain ⟨f3, ρ3, e3, q3⟩ := (rest q).ok
      exact .of (a := f3) (ρ' := ρ3) (by rw [forIt]; simp only [e1]; unfold bnd; rw [e2]; exact e3) q3
    | ct =>
      obtain ⟨f3, ρ3, e3, q3⟩ := (rest q).ok
      exact .of (a := f3) (ρ' := ρ3) (by rw [forIt]; simp only [e1]; unfold bnd; rw [e2]; exact e3) q3
    | bk => exact .of (Q := Q) (a := .nx) (ρ' := ρ2) (by rw [forIt]; simp only [e1]; unfold bnd; rw [e2]; rfl) (show Q .nx ρ2 from q)
    | rt d' => exact .of (Q := Q) (a := .rt d') (ρ' := ρ2) (by rw [forIt]; simp only [e1]; unfold bnd; rw [e2]; rfl) (show Q (.rt d') ρ2 from q)
/-- for: the invariant I speaks of the turns done -/
theorem wp_for {s : M (List D)} {g : Tg} {b : M Fl} {Q : Fl → Env → Prop} {ρ ρ1 : Env} {ds : List D} (hs : s ρ = .ok ds ρ1) (I : Nat → Env → Prop) (h0 : I 0 ρ1)
    (ht : ∀ (j : Nat) (d : D) (ρ : Env), ds[j]? = some d → I j ρ → ∃ ρ1, g d ρ = .ok () ρ1 ∧ Wp b ρ1 (Tn (I (j + 1)) Q)) (he : ∀ ρ, I ds.length ρ → Q .nx ρ) : Wp (forS s g b) ρ Q := by
  obtain ⟨f, ρ2, e, q⟩ := (wp_forIt I ht he ρ1 h0).ok
  exact .of (by rw [forS_of hs, e]) q
/-- while: the invariant I bears a measure -/
theorem wp_whl {c : M Bool} {b : M Fl} {Q : Fl → Env → Prop} (I : Nat → Env → Prop)
    (ht : ∀ (n : Nat) (ρ : Env), I n ρ → Wp c ρ fun t ρ1 => (t = true → Wp b ρ1 (Tn (fun ρ2 => ∃ m, m < n ∧ I m ρ2) Q)) ∧ (t = false → Q .nx ρ1)) : ∀ (n : Nat) (ρ : Env), I n ρ → Wp (whl c b) ρ Q := by
  intro n
  induction n using Nat.strongRecOn with
  | ind n ih =>
    intro ρ hi
    obtain ⟨t, ρ1, e1, q1, q2⟩ := (ht n ρ hi).ok
    cases t with
    | false => exact .of (a := .nx) (ρ' := ρ1) (whl_F e1) (q2 rfl)
    | true =>
      obtain ⟨f, ρ2, e2, q⟩ := (q1 rfl).ok
      cases f with
      | nx =>
        obtain ⟨m, hm, im⟩ := q
        obtain ⟨f3, ρ3, e3, q3⟩ := (ih m hm ρ2 im).ok
        exact .of (a := f3) (ρ' := ρ3) (by rw [whl_T e1 e2, e3]) q3
      | ct =>
        obtain ⟨m, hm, im⟩ := q
        obtain ⟨f3, ρ3, e3, q3⟩ := (ih m hm ρ2 im).ok
        exact .of (a := f3) (ρ' := ρ3) (by rw [whl_C e1 e2, e3]) q3
      | bk => exact .of (Q := Q) (a := .nx) (ρ' := ρ2) (by rw [whl_eq, e1]; simp only [e2]) (show Q .nx ρ2 from q)
      | rt d => exact .of (Q := Q) (a := .rt d) (ρ' := ρ2) (by rw [whl_eq, e1]; simp only [e2]) (show Q (.rt d) ρ2 from q)
/-- what a def comes to -/
def Wf (S : FSem) (as : List D) (Q : D → List D → Prop) : Prop := ∃ d bs, S as = .ret d bs ∧ Q d bs
/-- how a body ends a def -/
def Fin (reb : List Nat) (ds : List D) (Q : D → List D → Prop) : Fl → Env → Prop
  | .nx, ρ => ∃ as, argsBack reb ρ 0 (reFrz reb 0 ds) = some as ∧ Q .non as
  | .rt d, ρ => ∃ as, argsBack reb ρ 0 (reFrz reb 0 ds) = some as ∧ Q d as
  | _, _ => False
theorem wf_mkF {n m : Nat} {reb : List Nat} {b : M Fl} {ds : List D} {Q : D → List D → Prop} (h : Wp b ((reFrz reb 0 ds).map some ++ List.replicate (m - n) none) (Fin reb ds Q)) (hl : ds.length = n ∧ n ≤ m := by exact ⟨rfl, by decide⟩) : Wf (mkF n m reb b) ds Q := by
  obtain ⟨f, ρ, e, q⟩ := h.ok
  cases f with
  | nx =>
    obtain ⟨as, ha, qa⟩ := q
    exact ⟨.non, as, by unfold mkF; rw [if_pos hl, e]; simp only [ha], qa⟩
  | rt d =>
    obtain ⟨as, ha, qa⟩ := q
    exact ⟨d, as, by unfold mkF; rw [if_pos hl, e]; simp only [ha], qa⟩
  | bk => exact q.elim
  | ct => exact q.elim
/-- a comprehension: the invariant I speaks of the turns done, the slots and what is made -/
theorem compIt_wp {own : List Nat} {g : Tg} {c : M Bool} {e : M EV} : ∀ {ds : List D} (I : Nat → Env → List D → Prop) (acc : List D) (ρ : Env), I 0 ρ acc → acc.length + ds.length ≤ cap →
    (∀ (j : Nat) (d : D) (ρ : Env) (acc : List D), ds[j]? = some d → I j ρ acc → ∃ ρ1, g d ρ = .ok () ρ1 ∧ Wp c ρ1 fun t ρ2 => (t = true → Wp e ρ2 fun ev ρ3 => ∃ d' ρ4, use1 ev ρ3 = .ok d' ρ4 ∧ I (j + 1) (wipeE ρ4 own) (acc ++ [d'])) ∧ (t = false → I (j + 1) (wipeE ρ2 own) acc)) →
    ∃ acc' ρ', compIt own g c e ds ρ acc = .ok acc' ρ' ∧ I ds.length ρ' acc'
  | [], I, acc, ρ, h0, _, _ => ⟨acc, ρ, rfl, h0⟩
  | d :: ds, I, acc, ρ, h0, hl, ht => by
    rw [List.length_cons] at hl
    obtain ⟨ρ1, e1, w⟩ := ht 0 d ρ acc rfl h0
    obtain ⟨t, ρ2, e2, q1, q2⟩ := w.ok
    have ht' : ∀ (j : Nat) (d : D) (ρ : Env) (acc : List D), ds[j]? = some d → I (j + 1) ρ acc → _ := fun j d' ρ' acc' hd hi => ht (j + 1) d' ρ' acc' (by simpa using hd) hi
    cases t with
    | true =>
      obtain ⟨ev, ρ3, e3, d', ρ4, e4, hi⟩ := (q1 rfl).ok
      obtain ⟨acc', ρ', e5, q⟩ := compIt_wp (fun j => I (j + 1)) (acc ++ [d']) (wipeE ρ4 own) hi (by rw [List.length_append, List.length_singleton]; omega) ht'
      exact ⟨acc', ρ', by rw [compIt]; simp only [e1, e2, e3, e4]; rw [if_pos (by omega), e5], q⟩
    | false =>
      obtain ⟨acc', ρ', e5, q⟩ := compIt_wp (fun j => I (j + 1)) acc (wipeE ρ2 own) (q2 rfl) (by omega) ht'
      exact ⟨acc', ρ', by rw [compIt]; simp only [e1, e2]; rw [e5], q⟩
theorem comp_wp {own : List Nat} {s : M (List D)} {g : Tg} {c : M Bool} {e : M EV} {ρ ρ1 : Env} {ds : List D} (hs : s ρ = .ok ds ρ1) (I : Nat → Env → List D → Prop) (h0 : I 0 (wipeE ρ1 own) []) (hl : ds.length ≤ cap)
    (ht : ∀ (j : Nat) (d : D) (ρ : Env) (acc : List D), ds[j]? = some d → I j ρ acc → ∃ ρ1, g d ρ = .ok () ρ1 ∧ Wp c ρ1 fun t ρ2 => (t = true → Wp e ρ2 fun ev ρ3 => ∃ d' ρ4, use1 ev ρ3 = .ok d' ρ4 ∧ I (j + 1) (wipeE ρ4 own) (acc ++ [d'])) ∧ (t = false → I (j + 1) (wipeE ρ2 own) acc)) :
    ∃ acc ρ', comp own s g c e ρ = .ok (.val (.lst true acc)) (backE ρ1 ρ' own) ∧ I ds.length ρ' acc := by
  obtain ⟨acc, ρ', e, q⟩ := compIt_wp I [] _ h0 (by rw [List.length_nil]; omega) ht
  exact ⟨acc, ρ', comp_of hs e, q⟩
/-- a comprehension that leaves the slots: each item gives one or none -/
theorem comp_fm {own : List Nat} {s : M (List D)} {g : Tg} {c : M Bool} {e : M EV} {ρ ρ1 : Env} {ds : List D} (F : D → Option D) (hs : s ρ = .ok ds ρ1) (hw : wipeE ρ1 own = ρ1) (hb : backE ρ1 ρ1 own = ρ1) (hl : ds.length ≤ cap)
    (ht : ∀ d ∈ ds, ∃ ρ2, g d ρ1 = .ok () ρ2 ∧ Wp c ρ2 fun t ρ3 => (t = true → Wp e ρ3 fun ev ρ4 => ∃ d' ρ5, use1 ev ρ4 = .ok d' ρ5 ∧ F d = some d' ∧ wipeE ρ5 own = ρ1) ∧ (t = false → F d = none ∧ wipeE ρ3 own = ρ1)) :
    comp own s g c e ρ = .ok (.val (.lst true (ds.filterMap F))) ρ1 := by
  obtain ⟨acc, ρ', e1, rfl, rfl⟩ := comp_wp hs (fun j ρ acc => ρ = ρ1 ∧ acc = (ds.take j).filterMap F) ⟨hw, by simp⟩ hl fun j d ρ acc hd ⟨er, ea⟩ => by
    subst er
    obtain ⟨ρ2, e2, w⟩ := ht d (List.mem_of_getElem? hd)
    have tk : ds.take (j + 1) = ds.take j ++ [d] := by
      rw [List.take_add_one, hd]
      rfl
    refine ⟨ρ2, e2, w.mono fun t ρ3 ⟨q1, q2⟩ => ⟨fun h => (q1 h).mono fun ev ρ4 ⟨d', ρ5, e5, hF, hw5⟩ => ⟨d', ρ5, e5, hw5, ?_⟩, fun h => ⟨(q2 h).2, ?_⟩⟩⟩
    · rw [tk, List.filterMap_append, ea]
      simp [hF]
    · rw [tk, List.filterMap_append, ea]
      simp [(q2 h).1]
  rw [e1, hb, List.take_length]
/-- the same without tests -/
theorem comp_map {own : List Nat} {s : M (List D)} {g : Tg} {c : M Bool} {e : M EV} {ρ ρ1 : Env} {ds : List D} (F : D → D) (hs : s ρ = .ok ds ρ1) (hw : wipeE ρ1 own = ρ1) (hb : backE ρ1 ρ1 own = ρ1) (hl : ds.length ≤ cap)
    (ht : ∀ d ∈ ds, ∃ ρ2, g d ρ1 = .ok () ρ2 ∧ Wp c ρ2 fun t ρ3 => t = true ∧ Wp e ρ3 fun ev ρ4 => ∃ ρ5, use1 ev ρ4 = .ok (F d) ρ5 ∧ wipeE ρ5 own = ρ1) :
    comp own s g c e ρ = .ok (.val (.lst true (ds.map F))) ρ1 := by
  have h := comp_fm (own := own) (g := g) (c := c) (e := e) (fun d => some (F d)) hs hw hb hl fun d hd => by
    obtain ⟨ρ2, e2, w⟩ := ht d hd
    refine ⟨ρ2, e2, w.mono fun t ρ3 ⟨h1, q⟩ => ⟨fun _ => q.mono fun ev ρ4 ⟨ρ5, e5, hw5⟩ => ⟨_, ρ5, e5, rfl, hw5⟩, fun h2 => by rw [h1] at h2; cases h2⟩⟩
  rw [h]
  congr 4
  induction ds with
  | nil => rfl
  | cons d ds ih => simp
end Pm
/-! PmYb: tuples repeated. -/
namespace Pm
open PySem PySem.Spec PyProof.Rows L2
theorem tuple_mul1 (l : Addr) (items : Array Value) (n : Nat) (dd : Option Addr) (sl : Array (Option Value)) (x : Int) (u : Tok) (hx : x = 1) :
    Meets (Builtin.«tuple.__mul__» ⟨[.ref l, .int x u], []⟩) (fun _ R s => s.heap.get? l = some { cls := .type "tuple", dict := dd, data := .seq items n, slots := sl } ∧
      R (.ok (.ret (Value.ref l))) s) :=
  .of_wp fun prog w A R s h => by
    obtain ⟨hp, g, d, tk, os⟩ := s
    obtain ⟨hl, h⟩ := h
    have f1 := AutoSeq1.idx_int
    have c0 : (decide (x < -(2 ^ 63)) || decide (x ≥ 2 ^ 63)) = false := by rw [decide_eq_false (by omega), decide_eq_false (by omega)] <;> rfl
    have c1 : (items.isEmpty || x == 1) = true := by rw [hx, Bool.or_eq_true]; exact .inr rfl
    wp_walk using wpAny_loadPart' hl
    repeat (first
      | (refine wpAny_ite_false (decide_eq_false (by rw [c0]; exact Bool.false_ne_true)) ?_; wp_walk using wpAny_loadPart' hl)
      | (refine wpAny_ite_true (decide_eq_true (by rw [c1])) ?_; wp_walk using wpAny_loadPart' hl))
    exact ⟨_, rfl, h⟩
theorem tuple_mul0 (l : Addr) (items : Array Value) (n : Nat) (dd : Option Addr) (sl : Array (Option Value)) (x : Int) (u : Tok) (h0 : x ≤ 0) (h1 : -(2 ^ 63) ≤ x) (hne : items.isEmpty = false) :
    Meets (Builtin.«tuple.__mul__» ⟨[.ref l, .int x u], []⟩) (fun _ R s => s.heap.get? l = some { cls := .type "tuple", dict := dd, data := .seq items n, slots := sl } ∧
      R (.ok (.ret (Value.ref s.heap.objs.size))) { s with heap := s.heap.push { cls := Value.type "tuple", data := Data.seq #[] }, toks := s.toks }) :=
  .of_wp fun prog w A R s h => by
    obtain ⟨hp, g, d, tk, os⟩ := s
    obtain ⟨hl, h⟩ := h
    have f1 := AutoSeq1.idx_int
    have c0 : (decide (x < -(2 ^ 63)) || decide (x ≥ 2 ^ 63)) = false := by rw [decide_eq_false (by omega), decide_eq_false (by omega)] <;> rfl
    have c1 : (items.isEmpty || x == 1) = false := by rw [hne, Bool.false_or]; exact beq_eq_false_iff_ne.mpr (by omega)
    have c2 : (decide (x ≤ 0) || items.isEmpty) = true := by rw [decide_eq_true h0] <;> rfl
    wp_walk using wpAny_loadPart' hl
    repeat (first
      | (refine wpAny_ite_false (decide_eq_false (by rw [c0]; exact Bool.false_ne_true)) ?_; wp_walk using wpAny_loadPart' hl)
      | (refine wpAny_ite_false (decide_eq_false (by rw [c1]; exact Bool.false_ne_true)) ?_; wp_walk using wpAny_loadPart' hl)
      | (refine wpAny_ite_true (decide_eq_true (by rw [c2])) ?_; wp_walk using wpAny_loadPart' hl))
    exact ⟨_, rfl, h⟩
def rRepTA (K : PySem.W.Frag) : R2 := fun x y H Q => ∃ l k xs, x = .ref l ∧ y = .int k ∧ SqT K H l xs ∧ xs ≠ [] ∧ -(2 ^ 63) ≤ k ∧ k ≤ 1000 ∧ xs.length ≤ 1000 ∧ (k = 1 → Q (.ref l) H) ∧ ∀ p, H p = none → Q (.ref p) (upd H p (.tup (List.replicate k.toNat xs).flatten))
section
variable {K : PySem.W.Frag} {mg : Str → Option Value} {W : WX} {Z H : Hp} {S : Fp} {σ : Sl} {X : Cx}
theorem op_repTA : OpR X (binaryOp .Mult) (rRepTA X.K) := by
  intro pins s σ H x y v u Q I rx ry h
  obtain ⟨l, k, xs, rfl, rfl, hT, hne, h1, h2, hz, q1, q⟩ := h
  by_cases hk : 2 ≤ k
  · exact op_repT pins s σ H _ _ v u Q I rx ry ⟨l, k, xs, rfl, rfl, hT, hne, hk, h2, hz, q⟩
  cases rx
  obtain ⟨t, rfl⟩ := ry
  obtain ⟨its, r, ⟨⟨cls, dd, data, sl⟩, ho, hc, n, hd⟩, hs⟩ := I.tuple hT
  simp only at hc hd
  subst hc hd
  have hle : its.length = xs.length := r.length.symm
  have hn : its ≠ [] := fun e => hne (by
    rw [e] at hle
    exact List.eq_nil_of_length_eq_zero hle.symm)
  have hi : its.toArray.isEmpty = false := by
    cases its with
    | nil => exact absurd rfl hn
    | cons a b => rfl
  by_cases hk1 : k = 1
  · refine wpAny_binaryOp_repeat_ref (T := "tuple") (U := "int") (by decide) ⟨_, ho, rfl⟩ (fun s' => typeIs_int s' k t) noFill_tuple_mul F.fills_int_mul F.slot_int_rmul repeat_tuple F.slot_int_index.lookup
      (call_meets F.slot_int_rmul (typeIs_int s k t) F.entry_int_rmul (F.args_int_rmul_2 _ _) (int_rmul_tuple k t l its.toArray n dd sl)
        ⟨ho, rfl, ⟨_, ho, rfl⟩, call_meets F.slot_tuple_mul ⟨_, ho, rfl⟩ F.entry_tuple_mul (F.args_tuple_mul_2 _ _) (tuple_mul1 l its.toArray n dd sl k t hk1) ⟨ho, ?_⟩⟩)
    exact ⟨.ref l, H, I, rfl, q1 hk1⟩
  · refine wpAny_binaryOp_repeat_ref (T := "tuple") (U := "int") (by decide) ⟨_, ho, rfl⟩ (fun s' => typeIs_int s' k t) noFill_tuple_mul F.fills_int_mul F.slot_int_rmul repeat_tuple F.slot_int_index.lookup
      (call_meets F.slot_int_rmul (typeIs_int s k t) F.entry_int_rmul (F.args_int_rmul_2 _ _) (int_rmul_tuple k t l its.toArray n dd sl)
        ⟨ho, rfl, ⟨_, ho, rfl⟩, call_meets F.slot_tuple_mul ⟨_, ho, rfl⟩ F.entry_tuple_mul (F.args_tuple_mul_2 _ _) (tuple_mul0 l its.toArray n dd sl k t (by omega) h1 hi) ⟨ho, ?_⟩⟩)
    have e0 : (List.replicate k.toNat xs).flatten = [] := by rw [show k.toNat = 0 by omega]; rfl
    have q' := q s.heap.objs.size (I.hok.fresh (Nat.le_refl _))
    rw [e0] at q'
    refine ⟨.ref s.heap.objs.size, _, I.laid (t' := s.toks) (o := .tup []) (fun b ob q => Heap.get?_push_of_some _ q) (Nat.le_refl _) ?_, rfl, q'⟩
    exact ⟨Nat.zero_le _, [], .nil, IsTup.new _ _⟩
def opRepT : List D → Option D
  | [.node false .tup xs, .int k] => if plainL xs = true ∧ xs.length ≠ 0 ∧ -(2 ^ 63) ≤ k ∧ k ≤ 1000 ∧ xs.length ≤ 1000 then some (.tup (List.replicate k.toNat xs).flatten) else none
  | _ => none
theorem opd_repT : Opd X (binaryOp .Mult) opRepT := by
  refine ⟨_, op_repTA, fun Z H S ds vs d Q w rb e k => ?_⟩
  unfold opRepT at e
  split at e
  · split at e
    · rename_i xs n hp
      obtain ⟨h1, h2, h3, h4, h5⟩ := hp
      obtain ⟨v, u, rfl, rv, ru⟩ := rb2 rb
      obtain ⟨a, ys, rfl, c, rl⟩ := rv
      obtain rfl : u = .int n := ru
      have hlen := rl.length
      have rp := rl.plain (H' := H) h1
      cases e
      refine ⟨_, _, rfl, a, n, ys, rfl, rfl, SqT.same c w.same, fun e => h2 (by rw [hlen, e]; rfl), h3, h4, by omega, fun e => ?_, fun p np => ?_⟩
      · have e1 : (List.replicate n.toNat xs).flatten = xs := by rw [e]; simp
        rw [e1] at k
        refine k (.ref a) Z H Fp0 w.nil (fun _ _ e => e) (fun _ _ x => x) ?_
        exact ⟨a, ys, rfl, c, rp⟩
      · obtain ⟨f1, f2, f3⟩ := fresh_tup w np (reps_rep rp n.toNat)
        exact k _ _ _ _ f1 f2 (fun _ _ x => x) f3
    · cases e
  · cases e
/-- everything that is multiplied -/
def hMulT : List D → Option D
  | [.node o .tup xs, .int k] => opRepT [.node o .tup xs, .int k]
  | ds => hMul ds
theorem opd_hMulT : Opd X (binaryOp .Mult) hMulT := Opd.or opd_hMul opd_repT fun ds d h => by
  unfold hMulT at h
  split at h
  · exact .inr h
  · exact .inl h
theorem hMulT_ii (i j : Int) : hMulT [.int i, .int j] = iMul i j := rfl
theorem hMulT_t (xs : List D) (k : Int) (h1 : plainL xs = true) (h2 : xs.length ≠ 0) (h3 : -(2 ^ 63) ≤ k) (h4 : k ≤ 1000) (h5 : xs.length ≤ 1000) : hMulT [.node false .tup xs, .int k] = some (.tup (List.replicate k.toNat xs).flatten) := by
  show (if plainL xs = true ∧ xs.length ≠ 0 ∧ -(2 ^ 63) ≤ k ∧ k ≤ 1000 ∧ xs.length ≤ 1000 then _ else none) = _
  rw [if_pos ⟨h1, h2, h3, h4, h5⟩]
/-! ### is, is not: of bools -/
def opIsB : List D → Option D
  | [.bl a, .bl b] => some (.bl (decide (a = b)))
  | _ => none
def opNotB : List D → Option D
  | [.bl a, .bl b] => some (.bl (!decide (a = b)))
  | _ => none
theorem opd_isB : Opd X (compareOp .Is) opIsB := by
  refine ⟨_, op_isBl, snd_pure fun Z H S ds vs d Q w rb e k => ?_⟩
  unfold opIsB at e
  split at e
  · rename_i a b
    obtain ⟨v, u, rfl, rv, ru⟩ := rb2 rb
    obtain rfl : v = .bl a := rv
    obtain rfl : u = .bl b := ru
    cases e
    exact ⟨_, _, rfl, a, b, rfl, rfl, k _ rfl⟩
  · cases e
theorem opd_notB : Opd X (compareOp .IsNot) opNotB := by
  refine ⟨_, op_notBl, snd_pure fun Z H S ds vs d Q w rb e k => ?_⟩
  unfold opNotB at e
  split at e
  · rename_i a b
    obtain ⟨v, u, rfl, rv, ru⟩ := rb2 rb
    obtain rfl : v = .bl a := rv
    obtain rfl : u = .bl b := ru
    cases e
    exact ⟨_, _, rfl, a, b, rfl, rfl, k _ rfl⟩
  · cases e
theorem isB_bb (a b : Bool) : opIsB [.bl a, .bl b] = some (.bl (decide (a = b))) := rfl
theorem notB_bb (a b : Bool) : opNotB [.bl a, .bl b] = some (.bl (!decide (a = b))) := rfl
end
end Pm
/-! PmSt: texts as lists of signs. -/
namespace Pm
open PySem PySem.Spec PyProof.Rows L2
/-- the text with these signs -/
def T (l : List Nat) : Str := ⟨l.toArray⟩
theorem T_len (l : List Nat) : (T l).length = l.length := rfl
theorem T_size (l : List Nat) : (T l).cps.size = l.length := rfl
theorem T_list (l : List Nat) : (T l).cps.toList = l := rfl
theorem T_app (a b : List Nat) : T a ++ T b = T (a ++ b) := by
  show (⟨a.toArray ++ b.toArray⟩ : Str) = ⟨(a ++ b).toArray⟩
  rw [← List.append_toArray]
theorem T_of (x : Str) : T x.cps.toList = x := rfl
theorem T_inj {a b : List Nat} (h : T a = T b) : a = b := by
  have := congrArg (fun x : Str => x.cps.toList) h
  exact this
theorem T_eq (a b : List Nat) : (T a == T b) = decide (a = b) := by
  by_cases h : a = b
  · subst h; simp
  · rw [decide_eq_false h]
    exact beq_eq_false_iff_ne.mpr fun q => h (T_inj q)
theorem T_lit (s : String) : Str.ofString s = T (s.toList.map Char.toNat) := Str.ofString_eq_toList s
theorem T_sign (c : Nat) : (⟨#[c]⟩ : Str) = T [c] := rfl
theorem signs_T (l : List Nat) : signsD (T l) = l.map fun c => D.str (T [c]) := rfl
theorem sub_T (c : Nat) (l : List Nat) : subS (T [c]) (T l) = decide (c ∈ l) := PySem.StrLaws.found_one (T l) c
theorem sub_lit (c : Nat) (s : String) : subS (T [c]) (Str.ofString s) = decide (c ∈ s.toList.map Char.toNat) := by rw [T_lit, sub_T]
theorem join_T (xs : List (List Nat)) : Txt.join (T []) (xs.map T) = T xs.flatten := by
  rw [TL.join_eq]
  refine TL.ext_tl ?_
  rw [TL.tl_join, List.map_map]
  have e : (xs.map (TL.tl ∘ T)) = xs := by
    induction xs with
    | nil => rfl
    | cons x xs ih => rw [List.map_cons, ih]; rfl
  rw [e]
  show TL.joinL [] xs = xs.flatten
  induction xs with
  | nil => rfl
  | cons x xs ih =>
    cases xs with
    | nil => simp [TL.joinL]
    | cons y ys =>
      have ih' := ih (by
        have := List.tail_eq_of_cons_eq e
        exact this)
      rw [TL.joinL, ih']
      · simp
theorem count_T (l : List Nat) (c : Nat) : Txt.count (T l) (T [c]) = (l.count c : Nat) := by
  show Txt.count (T l) ⟨#[c]⟩ = _
  rw [PyProof.Rows.count_cnt]
  show PyProof.Rows.cnt c l = _
  induction l with
  | nil => rfl
  | cons x xs ih =>
    rw [PyProof.Rows.cnt_cons, ih, List.count_cons]
    by_cases h : x = c
    · subst h; simp; omega
    · simp [h, Ne.symm h]
theorem repl_one (l : List Nat) (c : Nat) : Txt.replace (T l) (T [c]) (T []) = T (l.filter (· != c)) := by
  refine TL.ext_tl ?_
  show (Txt.replace (T l) (T [c]) (T [])).cps.toList = l.filter (· != c)
  rw [PySem.StrLaws.replace_list (show 1 ≤ (T [c]).length from Nat.le_refl 1)]
  show PySem.StrLaws.replL [c] [] l = _
  induction l with
  | nil => rfl
  | cons x xs ih =>
    by_cases h : x = c
    · subst h
      rw [PySem.StrLaws.replL_hit (by simp) (by simp)]
      simp [ih]
    · rw [PySem.StrLaws.replL_miss (by simpa using h), ih]
      simp [h]
/-! ### slices -/
def slL {α : Type} (xs : List α) (lo hi : Option Int) : List α := (xs.drop (HT.sIx xs.length 0 lo)).take (HT.sIx xs.length xs.length hi - HT.sIx xs.length 0 lo)
theorem cutS_T (l : List Nat) (lo hi : Option Int) : cutS (T l) lo hi = T (slL l lo hi) := rfl
theorem cutD_sl (xs : List D) (lo hi : Option Int) : cutD xs lo hi = slL xs lo hi := rfl
theorem slL_to {α : Type} (xs : List α) (k : Nat) : slL xs none (some (k : Int)) = xs.take k := by
  unfold slL
  rw [HT.sIx_none, HT.sIx_nat, List.drop_zero, Nat.sub_zero]
  by_cases h : k ≤ xs.length
  · rw [Nat.min_eq_left h]
  · rw [Nat.min_eq_right (by omega), List.take_of_length_le (Nat.le_refl _), List.take_of_length_le (by omega)]
theorem slL_from {α : Type} (xs : List α) (k : Nat) : slL xs (some (k : Int)) none = xs.drop k := by
  unfold slL
  rw [HT.sIx_none, HT.sIx_nat]
  by_cases h : k ≤ xs.length
  · rw [Nat.min_eq_left h, List.take_of_length_le (by rw [List.length_drop]; exact Nat.le_refl _)]
  · rw [Nat.min_eq_right (by omega), Nat.sub_self, List.take_zero, List.drop_eq_nil_of_le (by omega)]
theorem slL_mid {α : Type} (xs : List α) (a b : Nat) : slL xs (some (a : Int)) (some (b : Int)) = (xs.drop a).take (b - a) := by
  unfold slL
  rw [HT.sIx_nat, HT.sIx_nat]
  by_cases h : a ≤ xs.length
  · rw [Nat.min_eq_left h]
    by_cases h2 : b ≤ xs.length
    · rw [Nat.min_eq_left h2]
    · rw [Nat.min_eq_right (by omega), List.take_of_length_le (by rw [List.length_drop]; exact Nat.le_refl _), List.take_of_length_le (by rw [List.length_drop]; omega)]
  · rw [show min a xs.length = xs.length by omega, List.drop_eq_nil_of_le (Nat.le_refl _), List.drop_eq_nil_of_le (by omega), List.take_nil, List.take_nil]
theorem gCut_T {l : List Nat} (h : l.length ≤ cap) (lo hi : Option Int) : gCut lo hi (.str (T l)) = some (.str (T (slL l lo hi))) := by
  show (if (T l).length ≤ cap then some (D.str (cutS (T l) lo hi)) else none) = _
  rw [if_pos (show (T l).length ≤ cap from h)]
  rfl
theorem gCut_L {o : Bool} {xs : List D} (h : plainL xs = true) (lo hi : Option Int) : gCut lo hi (.node o .lst xs) = some (.lst true (slL xs lo hi)) := gCut_lst h lo hi
theorem gCut_P {xs : List D} (h : plainL xs = true) (lo hi : Option Int) : gCut lo hi (.node false .tup xs) = some (.tup (slL xs lo hi)) := gCut_tup h lo hi
theorem strs_plain (xs : List Str) : plainL (xs.map D.str) = true := by
  induction xs with
  | nil => rfl
  | cons x xs ih => rw [List.map_cons, plainL, ih]; rfl
theorem join_ok (o : Bool) (xs : List (List Nat)) (h : xs.flatten.length ≤ cap) : opJoin [.str (T []), .node o .lst (xs.map fun l => D.str (T l))] = some (.str (T xs.flatten)) := by
  have e : (xs.map fun l => D.str (T l)) = (xs.map T).map D.str := by rw [List.map_map]; rfl
  rw [e]
  show (match strsD ((xs.map T).map D.str) with | some ys => if (ys.map fun y : Str => y.length).sum + ys.length * (T []).length ≤ cap then some (D.str (Txt.join (T []) ys)) else none | none => none) = _
  rw [strsD_map]
  have hs : ((xs.map T).map fun y : Str => y.length).sum + (xs.map T).length * (T []).length ≤ cap := by
    rw [show (T []).length = 0 from rfl, Nat.mul_zero, Nat.add_zero, List.map_map]
    refine Nat.le_trans (Nat.le_of_eq ?_) h
    rw [List.length_flatten]
    rfl
  simp only
  rw [if_pos hs, join_T]
theorem len_T {l : List Nat} (h : l.length ≤ cap) : opLen [.str (T l)] = some (.int l.length) := by
  show (if (T l).length ≤ cap then some (D.int (T l).length) else none) = _
  rw [if_pos (show (T l).length ≤ cap from h)]
  rfl
theorem add_T {a b : List Nat} (h : a.length + b.length ≤ cap) : hAdd [.str (T a), .str (T b)] = some (.str (T (a ++ b))) := by
  rw [hAdd_ss (show (T a).length + (T b).length ≤ cap from h), T_app]
theorem eq_T (a b : List Nat) : opEq [.str (T a), .str (T b)] = some (.bl (decide (a = b))) := by rw [eq_ss, T_eq]
theorem ne_TT (a b : List Nat) : opNe [.str (T a), .str (T b)] = some (.bl (!decide (a = b))) := by rw [ne_ss, T_eq]
theorem in_T (c : Nat) (l : List Nat) : opIn [.str (T [c]), .str (T l)] = some (.bl (decide (c ∈ l))) := by
  show some (D.bl (subS (T [c]) (T l))) = _
  rw [sub_T]
theorem notIn_T (c : Nat) (l : List Nat) : opNotIn [.str (T [c]), .str (T l)] = some (.bl (!decide (c ∈ l))) := by
  show some (D.bl (!subS (T [c]) (T l))) = _
  rw [sub_T]
theorem at_nat {α : Type} (xs : List α) (k : Nat) : atI xs (k : Int) = xs[k]? := by
  unfold atI ixN
  rw [if_pos (by omega)]
  by_cases h : k < xs.length
  · rw [if_pos (by omega), Int.toNat_natCast]
    rfl
  · rw [if_neg (by omega), List.getElem?_eq_none (by omega)]
    rfl
theorem repl_ok {l : List Nat} (c : Nat) (h : l.length ≤ cap) : opRepl (T [c]) (T []) [.str (T l)] = some (.str (T (l.filter (· != c)))) := by
  show (if (T l).length + ((T l).length + 1) * (T []).length ≤ cap then some (D.str (Txt.replace (T l) (T [c]) (T []))) else none) = _
  rw [show (T []).length = 0 from rfl, Nat.mul_zero, Nat.add_zero, if_pos (show (T l).length ≤ cap from h), repl_one]
/-! ### replaced, repeated, turned -/
theorem repl_T (l y z : List Nat) (hy : 1 ≤ y.length) : Txt.replace (T l) (T y) (T z) = T (PySem.StrLaws.replL y z l) := by
  refine TL.ext_tl ?_
  show (Txt.replace (T l) (T y) (T z)).cps.toList = PySem.StrLaws.replL y z l
  rw [PySem.StrLaws.replace_list (show 1 ≤ (T y).length from hy)]
  rfl
theorem opRepl_T {l y z : List Nat} (hy : 1 ≤ y.length) (h : l.length + (l.length + 1) * z.length ≤ cap) : opRepl (T y) (T z) [.str (T l)] = some (.str (T (PySem.StrLaws.replL y z l))) := by
  show (if (T l).length + ((T l).length + 1) * (T z).length ≤ cap then some (D.str (Txt.replace (T l) (T y) (T z))) else none) = _
  rw [if_pos (show (T l).length + ((T l).length + 1) * (T z).length ≤ cap from h), repl_T l y z hy]
theorem rep_fold (l : Array Nat) : ∀ (n : Nat) (a : Array Nat), ((List.replicate n l).foldl (· ++ ·) a).toList = a.toList ++ (List.replicate n l.toList).flatten
  | 0, a => by simp
  | n + 1, a => by
    rw [List.replicate_succ, List.foldl_cons, rep_fold l n, List.replicate_succ, List.flatten_cons, Array.toList_append, List.append_assoc]
theorem rep_T (l : List Nat) (n : Nat) : strRep (T l) (n : Int) = T (List.replicate n l).flatten := by
  refine TL.ext_tl ?_
  unfold strRep
  by_cases h0 : (n : Int) < 1
  · rw [if_pos h0]
    have : n = 0 := by omega
    subst this
    rfl
  · rw [if_neg h0]
    by_cases h1 : ((n : Int) == 1 || (T l).length == 0) = true
    · rw [if_pos h1]
      rw [Bool.or_eq_true, beq_iff_eq, beq_iff_eq] at h1
      rcases h1 with h1 | h1
      · have : n = 1 := by omega
        subst this
        show l = (List.replicate 1 l).flatten
        simp
      · have : l = [] := List.length_eq_zero_iff.mp h1
        subst this
        show [] = (List.replicate n ([] : List Nat)).flatten
        simp
    · rw [if_neg h1]
      show ((List.replicate (n : Int).toNat (T l).cps).foldl (· ++ ·) #[]).toList = (List.replicate n l).flatten
      rw [rep_fold, Int.toNat_natCast]
      rfl
theorem mul_T {l : List Nat} {n : Nat} (h : n ≤ 1000000) (h2 : l.length * n ≤ cap) : hMulT [.str (T l), .int (n : Int)] = some (.str (T (List.replicate n l).flatten)) := by
  show (if (n : Int) ≤ 1000000 ∧ -1000000 ≤ (n : Int) ∧ (T l).length * (n : Int).toNat ≤ cap then some (D.str (strRep (T l) (n : Int))) else none) = _
  rw [if_pos ⟨by omega, by omega, by rw [Int.toNat_natCast]; exact h2⟩, rep_T]
theorem rev_T {l : List Nat} (h : l.length ≤ cap) : opRev [.str (T l)] = some (.str (T l.reverse)) := by
  show (if (T l).length ≤ cap then some (D.str (revS (T l))) else none) = _
  rw [if_pos (show (T l).length ≤ cap from h)]
  rfl
theorem mid_T {l : List Nat} (h : l.length ≤ cap) (a b : Nat) : gCut (some (a : Int)) (some (b : Int)) (.str (T l)) = some (.str (T ((l.drop a).take (b - a)))) := by
  rw [gCut_T h, slL_mid]
end Pm
/-! PmYa: list of a text, list of a range. -/
namespace Pm
open PySem PySem.Spec PyProof.Rows L2
section
variable {K : PySem.W.Frag} {mg : Str → Option Value} {W : WX} {Z H : Hp} {S : Fp} {σ : Sl} {X : Cx} {e : Expr} {es : List Expr} {fa fb : M EV} {pos : Pos}
theorem call_listT (hc : X.calm = true) : CallR X (.type "list") (fun xs H Q => ∃ x : Str, xs = [.str x] ∧ x.length ≤ 1000000 ∧ ∀ l, H l = none → Q (.ref l) (upd H l (.lst (x.cps.toList.map fun c => V.str ⟨#[c]⟩)))) := by
  intro pins s σ H xs us Q I r h
  obtain ⟨x, rfl, hx, q⟩ := h
  obtain ⟨u, rfl, rx⟩ := vals1 r
  obtain ⟨t, rfl⟩ := rx
  have hz : x.cps.size ≤ sizeLine := by
    rw [sizeLine_eq]
    have : x.cps.size ≤ 1000000 := hx
    omega
  refine PySem.call_list_str (I.ok.hd hc) x t (fun h' tk acc' c' hk hS hacc => ?_) hz
  refine ⟨.ref s.heap.objs.size, upd H s.heap.objs.size (.lst (x.cps.toList.map fun c => V.str ⟨#[c]⟩)), I.laid hk (Nat.le_refl _) (show ObjOk X.prog X.w _ _ _ (.lst (x.cps.toList.map fun c => V.str ⟨#[c]⟩)) from ⟨?_, acc'.toList, c', ?_, ?_⟩), rfl, q _ (I.hok.fresh (Nat.le_refl _))⟩
  · rw [List.length_map, Array.length_toList]; exact hz
  · have el : acc'.toList.length = acc'.size := by simp
    refine vals_of_at (by rw [List.length_map, el, hacc.1, Array.length_toList]) fun j y w h1 h2 => ?_
    have h3 := hacc.2 j w (by rw [← Array.getElem?_toList]; exact h2)
    obtain ⟨c, t2, hc2, rfl⟩ := h3
    rw [List.getElem?_map, Array.getElem?_toList, hc2] at h1
    cases h1
    exact ⟨t2, rfl⟩
  · rw [Array.toArray_toList]; exact hS
def opListA : List D → Option D
  | [.str x] => if x.length ≤ cap then some (.lst true (signsD x)) else none
  | ds => opList ds
theorem call_listA (hc : X.calm = true) : CallR X (.type "list") (fun xs H Q => (∃ p ys, xs = [.ref p] ∧ (SqL X.K H p ys ∨ SqT X.K H p ys) ∧ ∀ l, H l = none → Q (.ref l) (upd H l (.lst ys))) ∨ ∃ x : Str, xs = [.str x] ∧ x.length ≤ 1000000 ∧ ∀ l, H l = none → Q (.ref l) (upd H l (.lst (x.cps.toList.map fun c => V.str ⟨#[c]⟩)))) := by
  intro pins s σ H xs us Q I r h
  rcases h with h | h
  · exact call_list_of pins s σ H xs us Q I r h
  · exact call_listT hc pins s σ H xs us Q I r h
theorem rep_signs (l : List Nat) : RepL K Z H (l.map fun c => D.str ⟨#[c]⟩) (l.map fun c => V.str ⟨#[c]⟩) Fp0 := by
  induction l with
  | nil => trivial
  | cons c l ih => exact ⟨Fp0, Fp0, fun _ x => x, fun _ x => x, fun _ x _ => x, rfl, ih⟩
theorem snd_listA : Snd X (fun xs H Q => (∃ p ys, xs = [.ref p] ∧ (SqL X.K H p ys ∨ SqT X.K H p ys) ∧ ∀ l, H l = none → Q (.ref l) (upd H l (.lst ys))) ∨ ∃ x : Str, xs = [.str x] ∧ x.length ≤ 1000000 ∧ ∀ l, H l = none → Q (.ref l) (upd H l (.lst (x.cps.toList.map fun c => V.str ⟨#[c]⟩)))) opListA := by
  intro Z H S ds vs d Q w rb e k
  unfold opListA at e
  split at e
  · rename_i x
    split at e
    · rename_i hx
      obtain ⟨v, rfl, rv⟩ := rb1 rb
      obtain rfl : v = .str x := rv
      cases e
      refine .inr ⟨x, rfl, hx, fun p np => ?_⟩
      obtain ⟨f1, f2, f3, f4⟩ := fresh_lst w np (rep_signs (K := X.K) (Z := Z) (H := H) x.cps.toList)
      exact k _ _ _ _ f1 f2 f3 f4
    · cases e
  · exact .inl (snd_list Z H S ds vs d Q w rb e k)
/-! ### list(range(..)) -/
noncomputable def smR (a b : Int) : Bool := @decide (0 ≤ a ∧ a ≤ 1000000 ∧ 0 ≤ b ∧ b ≤ 1000000) (Classical.propDecidable _)
theorem smR_ok {a b : Int} (h : smR a b = true) : 0 ≤ a ∧ a ≤ 1000000 ∧ 0 ≤ b ∧ b ≤ 1000000 := @of_decide_eq_true _ (Classical.propDecidable _) h
theorem smR_of {a b : Int} (h : 0 ≤ a ∧ a ≤ 1000000 ∧ 0 ≤ b ∧ b ≤ 1000000) : smR a b = true := @decide_eq_true _ (Classical.propDecidable _) h
noncomputable def opRg1 : List D → Option D
  | [.int b] => if smR 0 b then some (.lst true (rangeD 0 b.toNat)) else none
  | _ => none
noncomputable def opRg2 : List D → Option D
  | [.int a, .int b] => if smR a b then some (.lst true (rangeD a (b - a).toNat)) else none
  | _ => none
theorem rep_rg (a : Int) (n : Nat) : ∀ ks : List Nat, RepL K Z H (ks.map fun (i : Nat) => D.int (a + (i : Int))) (ks.map fun (i : Nat) => V.int (a + (i : Int))) Fp0
  | [] => trivial
  | k :: ks => ⟨Fp0, Fp0, fun _ x => x, fun _ x => x, fun _ x _ => x, rfl, rep_rg a n ks⟩
theorem snd_rg1 : Snd X (fun xs H Q => ∃ n, xs = [.int n] ∧ RgOk 0 n ∧ ∀ q, H q = none → Q (.ref q) (upd H q (.lst (rgV 0 n)))) opRg1 := by
  intro Z H S ds vs d Q w rb e k
  unfold opRg1 at e
  split at e
  · rename_i b
    split at e
    · rename_i hs
      obtain ⟨h1, h2, h3, h4⟩ := smR_ok hs
      obtain ⟨v, rfl, rv⟩ := rb1 rb
      obtain rfl : v = .int b := rv
      cases e
      refine ⟨b, rfl, RgOk.of_le (by omega) (by omega) (by omega) (by omega), fun p np => ?_⟩
      have r : RepL X.K Z H (rangeD 0 b.toNat) (rgV 0 b) Fp0 := by
        unfold rangeD rgV
        rw [Int.sub_zero]
        exact rep_rg 0 0 _
      obtain ⟨f1, f2, f3, f4⟩ := fresh_lst w np r
      exact k _ _ _ _ f1 f2 f3 f4
    · cases e
  · cases e
theorem snd_rg2 : Snd X (fun xs H Q => ∃ a b, xs = [.int a, .int b] ∧ RgOk a b ∧ ∀ q, H q = none → Q (.ref q) (upd H q (.lst (rgV a b)))) opRg2 := by
  intro Z H S ds vs d Q w rb e k
  unfold opRg2 at e
  split at e
  · rename_i a b
    split at e
    · rename_i hs
      obtain ⟨h1, h2, h3, h4⟩ := smR_ok hs
      obtain ⟨v, u, rfl, rv, ru⟩ := rb2 rb
      obtain rfl : v = .int a := rv
      obtain rfl : u = .int b := ru
      cases e
      refine ⟨a, b, rfl, RgOk.of_le (by omega) (by omega) (by omega) (by omega), fun p np => ?_⟩
      have r : RepL X.K Z H (rangeD a (b - a).toNat) (rgV a b) Fp0 := rep_rg a 0 _
      obtain ⟨f1, f2, f3, f4⟩ := fresh_lst w np r
      exact k _ _ _ _ f1 f2 f3 f4
    · cases e
  · cases e
theorem E_lr1 {a : Expr} {p p2 pos2 : Pos} (hl : X.mg "list" = none) (hr : X.mg "range" = none) (ha : PE X a (tE X.K X.mg W fa)) (hc : X.calm = true := by rfl) (hgl : Gl X "list" := by rfl) (hgr : Gl X "range" := by rfl)
    (na : starEach [a] X.env = (false, eval a X.env) :: starEach [] X.env := by rfl) (nr : starEach [.Call (.Name "range" p) [a] [] pos] X.env = (false, eval (.Call (.Name "range" p) [a] [] pos) X.env) :: starEach [] X.env := by rfl) :
    PE X (.Call (.Name "list" p2) [.Call (.Name "range" p) [a] [] pos] [] pos2) (tE X.K X.mg W (app opRg1 (aCons fa aNil))) :=
  PE.of (pe_listRg hc hgl hl (prg_1 hgr hr ha na) nr) fun σ H Q q => by
    refine tE_mono (fun x H1 q1 => ?_) (tA_cons (tE_app snd_rg1 q))
    obtain ⟨n, e, h1, h2⟩ := tA_nil q1
    cases e
    exact ⟨n, rfl, h1, h2⟩
theorem E_lr2 {a b : Expr} {p p2 pos2 : Pos} (hl : X.mg "list" = none) (hr : X.mg "range" = none) (ha : PE X a (tE X.K X.mg W fa)) (hb : PE X b (tE X.K X.mg W fb)) (hc : X.calm = true := by rfl) (hgl : Gl X "list" := by rfl) (hgr : Gl X "range" := by rfl)
    (na : starEach [a, b] X.env = (false, eval a X.env) :: starEach [b] X.env := by rfl) (nb : starEach [b] X.env = (false, eval b X.env) :: starEach [] X.env := by rfl) (hp : (backTo pos (starEach [b] X.env)).any (·.1) = false := by rfl) (nr : starEach [.Call (.Name "range" p) [a, b] [] pos] X.env = (false, eval (.Call (.Name "range" p) [a, b] [] pos) X.env) :: starEach [] X.env := by rfl) :
    PE X (.Call (.Name "list" p2) [.Call (.Name "range" p) [a, b] [] pos] [] pos2) (tE X.K X.mg W (app opRg2 (aCons fa (aCons fb aNil)))) :=
  PE.of (pe_listRg hc hgl hl (prg_2 hgr hr ha hb na nb hp) nr) fun σ H Q q => by
    refine tE_mono (fun x H1 q1 => ?_) (tA_cons (tE_app snd_rg2 q))
    refine tE_mono (fun y H2 q2 => ?_) (tA_cons q1)
    obtain ⟨n, m, e, h1, h2⟩ := tA_nil q2
    cases e
    exact ⟨n, m, rfl, rfl, h1, h2⟩
end
end Pm
/-! PgA: what the laws draw: tables, letters of a table. -/
namespace Pg
open PySem PySem.Spec PyProof.Rows L2 Pm
noncomputable def c_lrules_1 (S : FSem) : M EV := comp [8] (srcR1 (aCons (Pm.bin hAdd (con (.int 1)) (callF S (aCons (loc 0) (aCons (con (.int 6)) aNil)))) aNil)) (gN 8) yesT (popi 1 (callF S (aCons (loc 0) (aCons (app opLen (aCons (loc 1) aNil)) aNil))))
noncomputable def b_lrules_1 (S : FSem) : M Fl := (seq (asg (Pm.bin (on2I iSub) (callF S (aCons (loc 0) (aCons (Pm.bin hAdd (Pm.bin hMulT (con (.int 2)) (loc 3)) (con (.int 1))) aNil))) (loc 3)) (gN 7))
    (drp (appd 5 (disp false .tup (aCons (loc 6) (aCons (loc 7) (aCons (Pm.bin (on2I iSub) (callF S (aCons (loc 0) (aCons (Pm.bin hAdd (Pm.bin hMulT (con (.int 2)) (loc 4)) (con (.int 1))) aNil))) (loc 4)) aNil)))))))
noncomputable def b_lrules (S : FSem) : M Fl := (seq (asg (app opListA (aCons (con (.str "abcdefghijklmnopqrstuvwxyz")) aNil)) (gN 1))
    (seq (asg (app opSorted (aCons (c_lrules_1 S) aNil)) (gN 2))
    (seq (asg (idx (aCons (disp true .lst (aCons (con (.int 1)) (aCons (con (.int 3)) (aCons (con (.int 12)) (aCons (con (.int 300)) (aCons (Pm.bin (on2I iPow) (con (.int 10)) (con (.int 12))) aNil)))))) (aCons (callF S (aCons (loc 0) (aCons (con (.int 5)) aNil))) aNil))) (gN 3))
    (seq (asg (idx (aCons (disp true .lst (aCons (con (.int 0)) (aCons (con (.int 1)) (aCons (con (.int 2)) (aCons (con (.int 9)) (aCons (Pm.bin (on2I iPow) (con (.int 10)) (con (.int 12))) aNil)))))) (aCons (callF S (aCons (loc 0) (aCons (con (.int 5)) aNil))) aNil))) (gN 4))
    (seq (asg (disp true .lst aNil) (gN 5))
    (seq (forS (srcA (loc 2)) (gN 6) (b_lrules_1 S))
    (rtn (app opTuple (aCons (loc 5) aNil)))))))))
noncomputable def x_lrules (S : FSem) : FSem := mkF 1 9 [] (b_lrules S)
noncomputable def c_lsigns_1 : M EV := comp [9] (srcA (loc 1)) (gN 9) yesT (idx (aCons (loc 9) (aCons (con (.int 0)) aNil)))
noncomputable def c_lsigns_2 (S : FSem) : M EV := comp [7] (srcR1 (aCons (con (.int 2)) aNil)) (gN 7) yesT (idx (aCons (loc 3) (aCons (callF S (aCons (loc 0) (aCons (app opLen (aCons (loc 3) aNil)) aNil))) aNil)))
noncomputable def b_lsigns_1 (S : FSem) : M Fl := (seq (asg (idx (aCons (loc 3) (aCons (callF S (aCons (loc 0) (aCons (app opLen (aCons (loc 3) aNil)) aNil))) aNil))) (gN 8))
    (seq (Pm.ite (andT (tst (Pm.bin opEq (loc 4) (con (.int 1)))) (tst (Pm.bin opGtA (callF S (aCons (loc 0) (aCons (con (.int 4)) aNil))) (con (.int 0))))) (asg (idx (aCons (loc 5) (aCons (con (.int 0)) aNil))) (gN 8)) sNx)
    (asg (Pm.bin hAdd (loc 6) (idx (aCons (disp true .lst (aCons (loc 8) (aCons (idx (aCons (loc 5) (aCons (Pm.bin (on2I iMod) (loc 7) (con (.int 2))) aNil))) aNil))) (aCons (app opInt (aCons (Pm.bin opEq (loc 4) (con (.int 2))) aNil)) aNil)))) (gN 6))))
noncomputable def b_lsigns (S : FSem) : M Fl := (seq (asg c_lsigns_1 (gN 3))
    (seq (asg (callF S (aCons (loc 0) (aCons (con (.int 3)) aNil))) (gN 4))
    (seq (asg (c_lsigns_2 S) (gN 5))
    (seq (asg (con (.str "")) (gN 6))
    (seq (forS (srcR1 (aCons (loc 2) aNil)) (gN 7) (b_lsigns_1 S))
    (rtn (mov 6)))))))
noncomputable def x_lsigns (S : FSem) : FSem := mkF 3 10 [] (b_lsigns S)
abbrev sg (c : Nat) : D := .str (T [c])
/-- a table as it is known here: letters as code points -/
abbrev Tab := List (Nat × Int × Int)
def rowD (r : Nat × Int × Int) : D := .tup [sg r.1, .int r.2.1, .int r.2.2]
def tabD (t : Tab) : D := .tup (t.map rowD)
abbrev GR : Int := 1000000000000
structure TabOk (t : Tab) : Prop where
  len1 : 1 ≤ t.length
  len6 : t.length ≤ 6
  asc : (t.map (·.1)).Pairwise (· < ·)
  let1 : ∀ r ∈ t, 97 ≤ r.1 ∧ r.1 ≤ 122
  num : ∀ r ∈ t, -GR ≤ r.2.1 ∧ r.2.1 ≤ GR ∧ -GR ≤ r.2.2 ∧ r.2.2 ≤ GR
theorem rowD_plain (r : Nat × Int × Int) : (rowD r).plain = true := rfl
theorem rows_plain (t : Tab) : plainL (t.map rowD) = true := by
  induction t with
  | nil => rfl
  | cons r t ih => rw [List.map_cons, plainL, ih, rowD_plain]; rfl
theorem tabD_plain (t : Tab) : (tabD t).plain = true := by
  show (true && plainL (t.map rowD)) = true
  rw [rows_plain]; rfl
theorem tabD_frz (t : Tab) : (tabD t).frz = tabD t := D.frz_of_plain _ (tabD_plain t)
/-- a draw, the pen owned -/
theorem dr {S : FSem} (hS : Draws S) {ns : List Int} {a m : Int} {xs : List D} (hl : ns.length ≤ 63) (hp : Pen ns a (.node true .lst xs)) (ha : a ≤ 1000000) (hm : 0 < m) (hd : divOk m = true) :
    ∃ (r : Int) (xs' : List D), S [.node true .lst xs, .int m] = .ret (.int r) [.node true .lst xs', .int m] ∧ 0 ≤ r ∧ r < m ∧ Pen ns (a + 1) (.node true .lst xs') := by
  obtain ⟨r, d', e, h0, h1, p⟩ := hS ns _ a m hl hp ha hm hd
  obtain ⟨xs', rfl⟩ := p.owned
  exact ⟨r, xs', e, h0, h1, p⟩
theorem divS {m : Int} (h0 : 0 ≤ m) (h1 : m ≤ 100000000000000) : divOk m = true := Sm.divOk (e := 50) (by unfold Sm; omega) (by decide)
abbrev ABC : List Nat := [97, 98, 99, 100, 101, 102, 103, 104, 105, 106, 107, 108, 109, 110, 111, 112, 113, 114, 115, 116, 117, 118, 119, 120, 121, 122]
theorem abc_T : (("abcdefghijklmnopqrstuvwxyz" : String) : Str) = T ABC := by
  rw [show ((("abcdefghijklmnopqrstuvwxyz" : String) : Str)) = Str.ofString "abcdefghijklmnopqrstuvwxyz" from rfl, T_lit]; rfl
theorem sgs_plain (l : List Nat) : plainL (l.map sg) = true := by
  induction l with
  | nil => rfl
  | cons x xs ih => rw [List.map_cons, plainL, ih]; rfl
theorem get_sg {l : List Nat} {k : Nat} (h : k < l.length) : (l.map sg)[k]? = some (sg l[k]) := by
  rw [List.getElem?_map, List.getElem?_eq_getElem h]; rfl
theorem erase_map {α β : Type} (f : α → β) : ∀ (l : List α) (k : Nat), (l.map f).eraseIdx k = (l.eraseIdx k).map f
  | [], _ => by simp
  | _ :: _, 0 => by simp
  | x :: xs, k + 1 => by simp [erase_map f xs k]
theorem erase_perm {α : Type} : ∀ (l : List α) (k : Nat) (h : k < l.length), (l[k] :: l.eraseIdx k).Perm l
  | [], _, h => by simp at h
  | _ :: _, 0, _ => by simp
  | x :: xs, k + 1, h => by
    have ih := erase_perm xs k (by simpa using h)
    simp only [List.getElem_cons_succ, List.eraseIdx_cons_succ]
    exact (List.Perm.swap x _ _).trans (List.Perm.cons x ih)
theorem perm_erase {p l q : List Nat} {k : Nat} (h : k < l.length) (hp : (p ++ l).Perm q) : ((p ++ [l[k]]) ++ l.eraseIdx k).Perm q := by
  refine List.Perm.trans ?_ hp
  rw [List.append_assoc]
  refine List.Perm.append_left p ?_
  exact erase_perm l k h
/-- letters drawn without repetition -/
theorem marks_ok {S : FSem} (hS : Draws S) {ns : List Int} {a : Int} {z : List D} (hl : ns.length ≤ 63) (hp : Pen ns a (.node true .lst z)) (ha : a + 100 ≤ 1000000) :
    ∃ (z' : List D) (l ps : List Nat), (c_lrules_1 S) [some (.node true .lst z), some (.node true .lst (ABC.map sg)), none, none, none, none, none, none, none]
      = .ok (.val (.lst true (ps.map sg))) [some (.node true .lst z'), some (.node true .lst (l.map sg)), none, none, none, none, none, none, none] ∧ Pen ns (a + 10) (.node true .lst z') ∧ 1 ≤ ps.length ∧ ps.length ≤ 6 ∧ (ps ++ l).Perm ABC := by
  obtain ⟨r1, z1, e1, r10, r11, p1⟩ := dr hS (m := 6) hl hp (by omega) (by decide) (by decide)
  obtain ⟨n, rfl⟩ := Int.eq_ofNat_of_zero_le r10
  have hsrc : srcR1 (aCons (Pm.bin hAdd (con (.int 1)) (callF S (aCons (loc 0) (aCons (con (.int 6)) aNil)))) aNil) [some (.node true .lst z), some (.node true .lst (ABC.map sg)), none, none, none, none, none, none, none]
      = .ok (rangeD 0 (n + 1)) [some (.node true .lst z1), some (.node true .lst (ABC.map sg)), none, none, none, none, none, none, none] := by
    refine src_r1 (es := [.val (.int ((n : Int) + 1))]) (n := n + 1) ?_ ?_ (by omega)
    · simp [mkF, reFrz, seq, Pm.ite, rtn, mov, asg, drp, sNx, bnd, Pm.bin, Pm.un, app, aCons, aNil, idx, loc, con, Pm.ret, peek1, peeks, itemOf, on2I, iAdd, iSub, iGt, iGe, iLt, iLe, iDiv, iMod, use1, useL, gI, gN, tst, andT, orT, notT, andE, orE, notE, ifE, ixN, D.frz, D.plain, plainL, argsBack, opLen, opAbs, opInt1, opNeg, disp, cap, callF, takes, puts, selA, sel, aApp, par, gT, gsC, gs0, appF, opDivmod, frzL, plainL, e1, hAdd_ii, Int.add_comm]
    · simp [mkF, reFrz, seq, Pm.ite, rtn, mov, asg, drp, sNx, bnd, Pm.bin, Pm.un, app, aCons, aNil, idx, loc, con, Pm.ret, peek1, peeks, itemOf, on2I, iAdd, iSub, iGt, iGe, iLt, iLe, iDiv, iMod, use1, useL, gI, gN, tst, andT, orT, notT, andE, orE, notE, ifE, ixN, D.frz, D.plain, plainL, argsBack, opLen, opAbs, opInt1, opNeg, disp, cap, callF, takes, puts, selA, sel, aApp, par, gT, gsC, gs0, appF, opDivmod, frzL, plainL]
  obtain ⟨acc, ρ', e, z', l, ps, rfl, p', rfl, hperm, hlen⟩ := comp_wp (own := [8]) (g := gN 8) (c := yesT) (e := popi 1 (callF S (aCons (loc 0) (aCons (app opLen (aCons (loc 1) aNil)) aNil)))) hsrc
    (fun j ρ acc => ∃ (z' : List D) (l ps : List Nat), ρ = [some (.node true .lst z'), some (.node true .lst (l.map sg)), none, none, none, none, none, none, none] ∧ Pen ns (a + 1 + j) (.node true .lst z') ∧ acc = ps.map sg ∧ (ps ++ l).Perm ABC ∧ ps.length = j)
    ⟨z1, ABC, [], rfl, p1.mono (by omega), rfl, List.Perm.refl _, rfl⟩ (by rw [range_len]; show n + 1 ≤ 1000000; omega)
    (fun j d ρ acc hd ⟨z', l, ps, e, hp', ea, hperm, hlen⟩ => by
      subst e
      obtain ⟨hj, rfl⟩ := range_get hd
      have hsum : ps.length + l.length = 26 := by rw [← List.length_append, hperm.length_eq]; rfl
      obtain ⟨r, z2, e2, r20, r21, p2⟩ := dr hS (m := (l.length : Int)) hl hp' (by omega) (by omega) (divS (by omega) (by omega))
      obtain ⟨k, rfl⟩ := Int.eq_ofNat_of_zero_le r20
      have hk : k < l.length := by omega
      refine ⟨_, rfl, ?_⟩
      refine Wp.of (a := true) rfl ⟨fun _ => ?_, fun q => nomatch q⟩
      refine Wp.of (a := .val (sg l[k])) (ρ' := [some (.node true .lst z2), some (.node true .lst ((l.map sg).eraseIdx k)), none, none, none, none, none, none, some (.int (0 + (j : Int)))]) ?_ ?_
      · have hc : l.length ≤ cap := by show _ ≤ 1000000; omega
        have h1 : ixN l.length (k : Int) = some k := by
          unfold ixN
          rw [if_pos (by omega), if_pos (by omega), Int.toNat_natCast]
        simp [popi, mkF, reFrz, seq, Pm.ite, rtn, mov, asg, drp, sNx, bnd, Pm.bin, Pm.un, app, aCons, aNil, idx, loc, con, Pm.ret, peek1, peeks, itemOf, on2I, iAdd, iSub, iGt, iGe, iLt, iLe, iDiv, iMod, use1, useL, gI, gN, tst, andT, orT, notT, andE, orE, notE, ifE, D.frz, D.plain, plainL, argsBack, opLen, opAbs, opInt1, opNeg, disp, cap, callF, takes, puts, selA, sel, aApp, par, gT, gsC, gs0, appF, opDivmod, frzL, plainL, e2, get_sg hk, h1, hk, hc]
      · refine ⟨_, _, rfl, z2, l.eraseIdx k, ps ++ [l[k]], ?_, p2.mono (by omega), by rw [ea]; simp, perm_erase hk hperm, by simp [hlen]⟩
        simp [wipeE, erase_map])
  rw [range_len] at p' hlen
  refine ⟨z', l, ps, ?_, p'.mono (by omega), by omega, by omega, hperm⟩
  unfold c_lrules_1
  rw [e]
  rfl
theorem strs_sg (ps : List Nat) : strsD (ps.map sg) = some (ps.map fun c => T [c]) := by
  have e : ps.map sg = (ps.map fun c => T [c]).map D.str := by rw [List.map_map]; rfl
  rw [e, strsD_map]
theorem ints_sg {ps : List Nat} (h : ps ≠ []) : intsD (ps.map sg) = none := by
  cases ps with
  | nil => exact absurd rfl h
  | cons p ps => rfl
theorem leS_sg (c d : Nat) : leS (T [c]) (T [d]) = decide (c ≤ d) := by
  unfold leS
  rw [T_list, T_list]
  by_cases h : c ≤ d
  · rw [decide_eq_true h, Bool.not_eq_true', decide_eq_false_iff_not]
    intro q
    rcases List.cons_lt_cons_iff.mp q with q | ⟨_, q⟩
    · omega
    · exact absurd q (List.lt_irrefl _)
  · rw [decide_eq_false h, Bool.not_eq_false', decide_eq_true_eq]
    exact List.cons_lt_cons_iff.mpr (.inl (by omega))
/-- sorted letters -/
theorem sorted_sg (ps : List Nat) (h : ps ≠ []) (hl : ps.length < 64) (hn : ps.Nodup) : ∃ qs : List Nat, opSorted [.node true .lst (ps.map sg)] = some (.lst true (qs.map sg)) ∧ qs.Perm ps ∧ qs.Pairwise (· < ·) := by
  have hp := sortS_perm (ps.map fun c => T [c])
  have hpair := sortS_pair (ps.map fun c => T [c])
  obtain ⟨qs, hq, e⟩ : ∃ qs : List Nat, qs.Perm ps ∧ sortS (ps.map fun c => T [c]) = qs.map fun c => T [c] := by
    have := hp
    generalize sortS (ps.map fun c => T [c]) = l at this
    refine ⟨l.map fun x => x.cps.toList.headD 0, ?_, ?_⟩
    · have h2 := this.map (fun x : Str => x.cps.toList.headD 0)
      rw [List.map_map] at h2
      have e : (ps.map ((fun x : Str => x.cps.toList.headD 0) ∘ fun c => T [c])) = ps := by
        conv => rhs; rw [← List.map_id ps]
        rfl
      rw [e] at h2
      exact h2
    · rw [List.map_map]
      have all : ∀ x ∈ l, ∃ c, x = T [c] := fun x hx => by
        have := this.mem_iff.mp hx
        obtain ⟨c, _, rfl⟩ := List.mem_map.mp this
        exact ⟨c, rfl⟩
      conv => lhs; rw [← List.map_id l]
      refine List.map_congr_left fun x hx => ?_
      obtain ⟨c, rfl⟩ := all x hx
      rfl
  refine ⟨qs, ?_, hq, ?_⟩
  · show (match intsD (ps.map sg) with | some ns => some (D.lst true ((sortI ns).map D.int)) | none => match strsD (ps.map sg) with | some ys => if ys.length < 64 then some (.lst true ((sortS ys).map D.str)) else none | none => none) = _
    rw [ints_sg h, strs_sg]
    simp only
    rw [if_pos (by rw [List.length_map]; exact hl), e, List.map_map]
    rfl
  · rw [e] at hpair
    have h1 : qs.Pairwise fun x y => leS (T [x]) (T [y]) = true := List.pairwise_map.mp hpair
    have h2 : qs.Nodup := hq.nodup_iff.mpr hn
    have h3 := h1.and h2
    exact h3.imp fun {x y} ⟨q1, q2⟩ => by
      rw [leS_sg, decide_eq_true_eq] at q1
      omega
theorem pow12 : iPow 10 12 = some (.int 1000000000000) := rfl
theorem at5 {P : Int → Prop} {x0 x1 x2 x3 x4 r : Int} (h0 : 0 ≤ r) (h1 : r < 5) (p0 : P x0) (p1 : P x1) (p2 : P x2) (p3 : P x3) (p4 : P x4) : ∃ q, atI [D.int x0, .int x1, .int x2, .int x3, .int x4] r = some (.int q) ∧ P q := by
  have : r = 0 ∨ r = 1 ∨ r = 2 ∨ r = 3 ∨ r = 4 := by omega
  rcases this with rfl | rfl | rfl | rfl | rfl
  · exact ⟨x0, rfl, p0⟩
  · exact ⟨x1, rfl, p1⟩
  · exact ⟨x2, rfl, p2⟩
  · exact ⟨x3, rfl, p3⟩
  · exact ⟨x4, rfl, p4⟩
/-- what is drawn as a table is one -/
theorem rules_ok {S : FSem} (hS : Draws S) {ns : List Int} {a : Int} {z : List D} (hl : ns.length ≤ 63) (hp : Pen ns a (.node true .lst z)) (ha : a + 200 ≤ 1000000) :
    ∃ (z' : List D) (t : Tab), (x_lrules S) [.node true .lst z] = .ret (tabD t) [.node true .lst z'] ∧ TabOk t ∧ Pen ns (a + 50) (.node true .lst z') := by
  obtain ⟨z1, l, ps, e1, p1, h1, h6, hperm⟩ := marks_ok hS hl hp (by omega)
  have hnd : (ps ++ l).Nodup := hperm.nodup_iff.mpr (by decide)
  obtain ⟨qs, e2, hq, hasc⟩ := sorted_sg ps (by intro q; rw [q] at h1; simp at h1) (by omega) (List.nodup_append.mp hnd).1
  obtain ⟨r3, z3, e3, r30, r31, p3⟩ := dr hS (m := 5) hl p1 (by omega) (by decide) (by decide)
  obtain ⟨hi, e4, hi0, hi1⟩ := at5 (P := fun q => 0 ≤ q ∧ q ≤ GR) (x0 := 1) (x1 := 3) (x2 := 12) (x3 := 300) (x4 := 1000000000000) r30 r31 (by decide) (by decide) (by decide) (by decide) (by decide)
  obtain ⟨r5, z5, e5, r50, r51, p5⟩ := dr hS (m := 5) hl p3 (by omega) (by decide) (by decide)
  obtain ⟨st, e6, st0, st1⟩ := at5 (P := fun q => 0 ≤ q ∧ q ≤ GR) (x0 := 0) (x1 := 1) (x2 := 2) (x3 := 9) (x4 := 1000000000000) r50 r51 (by decide) (by decide) (by decide) (by decide) (by decide)
  have hql : qs.length = ps.length := hq.length_eq
  have hqin : ∀ c ∈ qs, 97 ≤ c ∧ c ≤ 122 := fun c hc => by
    have : c ∈ ABC := hperm.mem_iff.mp (List.mem_append_left l (hq.mem_iff.mp hc))
    simp only [ABC, List.mem_cons, List.not_mem_nil, or_false] at this
    omega
  have hw : Wf (x_lrules S) [.node true .lst z] fun d as => ∃ (z' : List D) (t : Tab), d = tabD t ∧ as = [.node true .lst z'] ∧ TabOk t ∧ Pen ns (a + 50) (.node true .lst z') := by
    unfold x_lrules
    refine wf_mkF ?_
    unfold b_lrules
    have eabc : app opListA (aCons (con (.str ("abcdefghijklmnopqrstuvwxyz" : String))) aNil) [some (.node true .lst z), none, none, none, none, none, none, none, none] = .ok (.val (.lst true (ABC.map sg))) [some (.node true .lst z), none, none, none, none, none, none, none, none] := by
      have : opListA [.str ("abcdefghijklmnopqrstuvwxyz" : String)] = some (.lst true (ABC.map sg)) := by
        rw [abc_T]; rfl
      simp [mkF, reFrz, seq, Pm.ite, rtn, mov, asg, drp, sNx, bnd, Pm.bin, Pm.un, app, aCons, aNil, idx, loc, con, Pm.ret, peek1, peeks, itemOf, on2I, iAdd, iSub, iGt, iGe, iLt, iLe, iDiv, iMod, use1, useL, gI, gN, tst, andT, orT, notT, andE, orE, notE, ifE, ixN, D.frz, D.plain, plainL, argsBack, opLen, opAbs, opInt1, opNeg, disp, cap, callF, takes, puts, selA, sel, aApp, par, gT, gsC, gs0, appF, opDivmod, frzL, plainL, this]
    show Wp _ [some (.node true .lst z), none, none, none, none, none, none, none, none] _
    refine wp_seq fun K k1 k2 k3 k4 => ?_
    refine Wp.of (asg_val eabc (by show 1 < 9; decide)) (k1 _ ?_)
    clear k1 k2 k3 k4 K
    show Wp _ [some (.node true .lst z), some (.node true .lst (ABC.map sg)), none, none, none, none, none, none, none] _
    generalize ABC.map sg = A at e1 ⊢
    refine wp_seq fun K k1 k2 k3 k4 => ?_
    simp [Wp, mkF, reFrz, seq, Pm.ite, rtn, mov, asg, drp, sNx, bnd, Pm.bin, Pm.un, app, aCons, aNil, idx, loc, con, Pm.ret, peek1, peeks, itemOf, on2I, iAdd, iSub, iGt, iGe, iLt, iLe, iDiv, iMod, use1, useL, gI, gN, tst, andT, orT, notT, andE, orE, notE, ifE, ixN, D.frz, D.plain, plainL, argsBack, opLen, opAbs, opInt1, opNeg, disp, cap, callF, takes, puts, selA, sel, aApp, par, gT, gsC, gs0, appF, opDivmod, frzL, plainL, e1, e2]
    refine k1 _ ?_
    clear k1 k2 k3 k4 K
    refine wp_seq fun K k1 k2 k3 k4 => ?_
    simp [Wp, mkF, reFrz, seq, Pm.ite, rtn, mov, asg, drp, sNx, bnd, Pm.bin, Pm.un, app, aCons, aNil, idx, loc, con, Pm.ret, peek1, peeks, itemOf, on2I, iAdd, iSub, iGt, iGe, iLt, iLe, iDiv, iMod, use1, useL, gI, gN, tst, andT, orT, notT, andE, orE, notE, ifE, ixN, D.frz, D.plain, plainL, argsBack, opLen, opAbs, opInt1, opNeg, disp, cap, callF, takes, puts, selA, sel, aApp, par, gT, gsC, gs0, appF, opDivmod, frzL, plainL, e3, e4, pow12]
    refine k1 _ ?_
    clear k1 k2 k3 k4 K
    refine wp_seq fun K k1 k2 k3 k4 => ?_
    simp [Wp, mkF, reFrz, seq, Pm.ite, rtn, mov, asg, drp, sNx, bnd, Pm.bin, Pm.un, app, aCons, aNil, idx, loc, con, Pm.ret, peek1, peeks, itemOf, on2I, iAdd, iSub, iGt, iGe, iLt, iLe, iDiv, iMod, use1, useL, gI, gN, tst, andT, orT, notT, andE, orE, notE, ifE, ixN, D.frz, D.plain, plainL, argsBack, opLen, opAbs, opInt1, opNeg, disp, cap, callF, takes, puts, selA, sel, aApp, par, gT, gsC, gs0, appF, opDivmod, frzL, plainL, e5, e6, pow12]
    refine k1 _ ?_
    clear k1 k2 k3 k4 K
    refine wp_seq fun K k1 k2 k3 k4 => ?_
    simp [Wp, mkF, reFrz, seq, Pm.ite, rtn, mov, asg, drp, sNx, bnd, Pm.bin, Pm.un, app, aCons, aNil, idx, loc, con, Pm.ret, peek1, peeks, itemOf, on2I, iAdd, iSub, iGt, iGe, iLt, iLe, iDiv, iMod, use1, useL, gI, gN, tst, andT, orT, notT, andE, orE, notE, ifE, ixN, D.frz, D.plain, plainL, argsBack, opLen, opAbs, opInt1, opNeg, disp, cap, callF, takes, puts, selA, sel, aApp, par, gT, gsC, gs0, appF, opDivmod, frzL, plainL]
    refine k1 _ ?_
    clear k1 k2 k3 k4 K
    refine wp_seq fun K k1 k2 k3 k4 => ?_
    have hsrc : srcA (loc 2) [some (.node true .lst z5), some (.node true .lst (l.map sg)), some (.node true .lst (qs.map sg)), some (.int hi), some (.int st), some (.node true .lst []), none, none, none]
        = .ok (qs.map sg) [some (.node true .lst z5), some (.node true .lst (l.map sg)), some (.node false .lst (qs.map sg)), some (.int hi), some (.int st), some (.node true .lst []), none, none, none] := by
      simp [mkF, reFrz, seq, Pm.ite, rtn, mov, asg, drp, sNx, bnd, Pm.bin, Pm.un, app, aCons, aNil, idx, loc, con, Pm.ret, peek1, peeks, itemOf, on2I, iAdd, iSub, iGt, iGe, iLt, iLe, iDiv, iMod, use1, useL, gI, gN, tst, andT, orT, notT, andE, orE, notE, ifE, ixN, D.frz, D.plain, plainL, argsBack, opLen, opAbs, opInt1, opNeg, disp, cap, callF, takes, puts, selA, sel, aApp, par, gT, gsC, gs0, appF, opDivmod, frzL, plainL, srcA, frzL_of_plain _ (sgs_plain qs)]
    refine wp_for hsrc (fun j ρ => ∃ (z' : List D) (t : Tab) (x6 x7 : Option D), ρ = [some (.node true .lst z'), some (.node true .lst (l.map sg)), some (.node false .lst (qs.map sg)), some (.int hi), some (.int st), some (.node true .lst (t.map rowD)), x6, x7, none] ∧ Pen ns (a + 12 + 2 * (j : Int)) (.node true .lst z') ∧ t.map (·.1) = qs.take j ∧ ∀ r ∈ t, -GR ≤ r.2.1 ∧ r.2.1 ≤ GR ∧ -GR ≤ r.2.2 ∧ r.2.2 ≤ GR) ⟨z5, [], none, none, rfl, p5.mono (by omega), rfl, fun r hr => by simp at hr⟩ ?_ ?_
    · rintro j d ρ hd ⟨z', t, x6, x7, rfl, p', ht, hn⟩
      have hjl : j < qs.length := by
        have := (List.getElem?_eq_some_iff.mp hd).1
        simpa using this
      obtain rfl : sg qs[j] = d := by rw [get_sg hjl] at hd; exact Option.some.inj hd
      refine ⟨_, rfl, ?_⟩
      obtain ⟨u, y1, f1, u0, u1, q1⟩ := dr hS (m := 2 * hi + 1) hl p' (by omega) (by omega) (divS (by omega) (by unfold GR at hi1; omega))
      obtain ⟨v, y2, f2, v0, v1, q2⟩ := dr hS (m := 2 * st + 1) hl q1 (by omega) (by omega) (divS (by omega) (by unfold GR at st1; omega))
      have m1 : iMul 2 hi = some (.int (2 * hi)) := mulL (by decide)
      have m2 : iMul 2 st = some (.int (2 * st)) := mulL (by decide)
      have tl : t.length ≤ 6 := by
        have := congrArg List.length ht
        rw [List.length_map, List.length_take] at this
        omega
      have tc : t.length < cap := by show _ < 1000000; omega
      unfold b_lrules_1
      show Wp _ [some (.node true .lst z'), some (.node true .lst (l.map sg)), some (.node false .lst (qs.map sg)), some (.int hi), some (.int st), some (.node true .lst (t.map rowD)), some (sg qs[j]), x7, none] _
      refine wp_seq fun K k1 k2 k3 k4 => ?_
      simp [Wp, mkF, reFrz, seq, Pm.ite, rtn, mov, asg, drp, sNx, bnd, Pm.bin, Pm.un, app, aCons, aNil, idx, loc, con, Pm.ret, peek1, peeks, itemOf, on2I, iAdd, iSub, iGt, iGe, iLt, iLe, iDiv, iMod, use1, useL, gI, gN, tst, andT, orT, notT, andE, orE, notE, ifE, ixN, D.frz, D.plain, plainL, argsBack, opLen, opAbs, opInt1, opNeg, disp, cap, callF, takes, puts, selA, sel, aApp, par, gT, gsC, gs0, appF, opDivmod, frzL, plainL, f1, m1, hAdd_ii, hMulT_ii]
      refine k1 _ ?_
      clear k1 k2 k3 k4 K
      refine wp_end fun K k1 k2 k3 k4 => ?_
      simp [Wp, mkF, reFrz, seq, Pm.ite, rtn, mov, asg, drp, sNx, bnd, Pm.bin, Pm.un, app, aCons, aNil, idx, loc, con, Pm.ret, peek1, peeks, itemOf, on2I, iAdd, iSub, iGt, iGe, iLt, iLe, iDiv, iMod, use1, useL, gI, gN, tst, andT, orT, notT, andE, orE, notE, ifE, ixN, D.frz, D.plain, plainL, argsBack, opLen, opAbs, opInt1, opNeg, disp, cap, callF, takes, puts, selA, sel, aApp, par, gT, gsC, gs0, appF, opDivmod, frzL, plainL, f2, m2, hAdd_ii, hMulT_ii, appd, tc]
      refine k1 _ ⟨y2, t ++ [(qs[j], u - hi, v - st)], some (sg qs[j]), some (.int (u - hi)), by simp [rowD], q2.mono (by omega), ?_, ?_⟩
      · rw [List.map_append, ht, List.take_add_one, List.getElem?_eq_getElem hjl]; rfl
      · intro r hr
        rcases List.mem_append.mp hr with hr | hr
        · exact hn r hr
        · obtain rfl := List.mem_singleton.mp hr
          simp only
          omega
    · rintro ρ ⟨z', t, x6, x7, rfl, p', ht, hn⟩
      rw [List.length_map, List.take_length] at *
      refine k1 _ ?_
      clear k1 k2 k3 k4 K
      have hpl := rows_plain t
      refine wp_end fun K k1 k2 k3 k4 => ?_
      simp [Wp, mkF, reFrz, seq, Pm.ite, rtn, mov, asg, drp, sNx, bnd, Pm.bin, Pm.un, app, aCons, aNil, idx, loc, con, Pm.ret, peek1, peeks, itemOf, on2I, iAdd, iSub, iGt, iGe, iLt, iLe, iDiv, iMod, use1, useL, gI, gN, tst, andT, orT, notT, andE, orE, notE, ifE, ixN, D.frz, D.plain, plainL, argsBack, opLen, opAbs, opInt1, opNeg, disp, cap, callF, takes, puts, selA, sel, aApp, par, gT, gsC, gs0, appF, opDivmod, frzL, plainL, opTuple, hpl]
      refine k2 _ _ ⟨_, rfl, z', t, rfl, rfl, ?_, p'.mono (by omega)⟩
      have hlen := congrArg List.length ht
      rw [List.length_map] at hlen
      refine ⟨by omega, by omega, by rw [ht]; exact hasc, fun r hr => hqin _ (by rw [← ht]; exact List.mem_map_of_mem hr), hn⟩
  obtain ⟨d, as, e, z', t, rfl, rfl, ht, hp'⟩ := hw
  exact ⟨z', t, e, ht, hp'⟩
end Pg
/-! PgB: letters of a table, drawn. -/
namespace Pg
open PySem PySem.Spec PyProof.Rows L2 Pm
def lets (t : Tab) : List Nat := t.map (·.1)
theorem TabOk.lets_ne {t : Tab} (h : TabOk t) : lets t ≠ [] := fun e => by
  have := h.len1
  have e2 := congrArg List.length e
  simp only [lets, List.length_map, List.length_nil] at e2
  omega
theorem heads_ok (t : Tab) (hl : t.length ≤ 1000) (v0 v2 v3 v4 v5 v6 v7 v8 : Option D) : c_lsigns_1 [v0, some (tabD t), v2, v3, v4, v5, v6, v7, v8, none] = .ok (.val (.lst true ((lets t).map sg))) [v0, some (tabD t), v2, v3, v4, v5, v6, v7, v8, none] := by
  have hs : srcA (loc 1) [v0, some (tabD t), v2, v3, v4, v5, v6, v7, v8, none] = .ok (t.map rowD) [v0, some (tabD t), v2, v3, v4, v5, v6, v7, v8, none] := by
    have := rows_plain t
    have h2 := tabD_frz t
    simp [mkF, reFrz, seq, Pm.ite, rtn, mov, asg, drp, sNx, bnd, Pm.bin, Pm.un, app, aCons, aNil, idx, loc, con, Pm.ret, peek1, peeks, itemOf, on2I, iAdd, iSub, iGt, iGe, iLt, iLe, iDiv, iMod, use1, useL, gI, gN, tst, andT, orT, notT, andE, orE, notE, ifE, ixN, D.frz, D.plain, plainL, argsBack, opLen, opAbs, opInt1, opNeg, disp, cap, callF, takes, puts, selA, sel, aApp, par, gT, gsC, gs0, appF, opDivmod, frzL, plainL, srcA, tabD, frzL_of_plain _ this]
  unfold c_lsigns_1
  rw [comp_map (fun d => match d with | .node _ _ (a :: _) => a | _ => .non) hs rfl rfl (by rw [List.length_map]; show t.length ≤ 1000000; omega) fun d hd => ?_]
  · congr 3
    rw [List.map_map, lets, List.map_map]
    rfl
  · obtain ⟨r, hr, rfl⟩ := List.mem_map.mp hd
    refine ⟨_, rfl, Wp.of (a := true) rfl ⟨rfl, ?_⟩⟩
    refine Wp.of (a := .val (sg r.1)) (ρ' := [v0, some (tabD t), v2, v3, v4, v5, v6, v7, v8, some (rowD r)]) ?_ ⟨_, rfl, rfl⟩
    have : atI [sg r.1, D.int r.2.1, D.int r.2.2] 0 = some (sg r.1) := rfl
    simp [rowD, mkF, reFrz, seq, Pm.ite, rtn, mov, asg, drp, sNx, bnd, Pm.bin, Pm.un, app, aCons, aNil, idx, loc, con, Pm.ret, peek1, peeks, itemOf, on2I, iAdd, iSub, iGt, iGe, iLt, iLe, iDiv, iMod, use1, useL, gI, gN, tst, andT, orT, notT, andE, orE, notE, ifE, ixN, D.frz, D.plain, plainL, argsBack, opLen, opAbs, opInt1, opNeg, disp, cap, callF, takes, puts, selA, sel, aApp, par, gT, gsC, gs0, appF, opDivmod, frzL, plainL]
theorem mem_at {l : List Nat} {k : Nat} (h : k < l.length) : l[k] ∈ l := List.getElem_mem h
theorem ix_nat {n k : Nat} (h : k < n) : ixN n (k : Int) = some k := by
  unfold ixN
  rw [if_pos (by omega), if_pos (by omega), Int.toNat_natCast]
/-- two letters drawn -/
theorem some_ok {S : FSem} (hS : Draws S) {ns : List Int} {a : Int} {z : List D} {ms : List Nat} (hl : ns.length ≤ 63) (hp : Pen ns a (.node true .lst z)) (ha : a + 100 ≤ 1000000) (hm : ms ≠ []) (hm2 : ms.length ≤ 1000) (v1 v2 v4 v5 v6 v8 v9 : Option D) :
    ∃ (z' : List D) (x y : Nat), (c_lsigns_2 S) [some (.node true .lst z), v1, v2, some (.node true .lst (ms.map sg)), v4, v5, v6, none, v8, v9] = .ok (.val (.lst true [sg x, sg y])) [some (.node true .lst z'), v1, v2, some (.node true .lst (ms.map sg)), v4, v5, v6, none, v8, v9] ∧ x ∈ ms ∧ y ∈ ms ∧ Pen ns (a + 2) (.node true .lst z') := by
  have hm0 : 0 < ms.length := List.length_pos_iff.mpr hm
  have hc : ms.length ≤ cap := by show _ ≤ 1000000; omega
  obtain ⟨r1, z1, e1, r10, r11, p1⟩ := dr hS (m := (ms.length : Int)) hl hp (by omega) (by omega) (divS (by omega) (by omega))
  obtain ⟨k1, rfl⟩ := Int.eq_ofNat_of_zero_le r10
  obtain ⟨r2, z2, e2, r20, r21, p2⟩ := dr hS (m := (ms.length : Int)) hl p1 (by omega) (by omega) (divS (by omega) (by omega))
  obtain ⟨k2, rfl⟩ := Int.eq_ofNat_of_zero_le r20
  have h1 : k1 < ms.length := by omega
  have h2 : k2 < ms.length := by omega
  refine ⟨z2, ms[k1], ms[k2], ?_, mem_at h1, mem_at h2, p2.mono (by omega)⟩
  have hsrc : srcR1 (aCons (con (.int 2)) aNil) [some (.node true .lst z), v1, v2, some (.node true .lst (ms.map sg)), v4, v5, v6, none, v8, v9] = .ok [.int 0, .int 1] [some (.node true .lst z), v1, v2, some (.node true .lst (ms.map sg)), v4, v5, v6, none, v8, v9] := src_r1 (es := [.val (.int 2)]) (n := 2) rfl rfl (by decide)
  unfold c_lsigns_2
  rw [comp_of hsrc (ρ2 := [some (.node true .lst z2), v1, v2, some (.node true .lst (ms.map sg)), v4, v5, v6, none, v8, v9]) (acc := [sg ms[k1], sg ms[k2]])]
  · simp [backE]
  · simp [compIt, wipeE, yesT, mkF, reFrz, seq, Pm.ite, rtn, mov, asg, drp, sNx, bnd, Pm.bin, Pm.un, app, aCons, aNil, idx, loc, con, Pm.ret, peek1, peeks, itemOf, on2I, iAdd, iSub, iGt, iGe, iLt, iLe, iDiv, iMod, use1, useL, gI, gN, tst, andT, orT, notT, andE, orE, notE, ifE, D.frz, D.plain, plainL, argsBack, opLen, opAbs, opInt1, opNeg, disp, cap, callF, takes, puts, selA, sel, aApp, par, gT, gsC, gs0, appF, opDivmod, frzL, plainL, e1, e2, get_sg h1, get_sg h2, ix_nat h1, ix_nat h2, D.plain]
theorem add_sg {l : List Nat} {c : Nat} (h : l.length < 10000) : hAdd [.str (T l), sg c] = some (.str (T (l ++ [c]))) := add_T (by show l.length + 1 ≤ 1000000; omega)
theorem opInt_bl (b : Bool) : opInt [.bl b] = some (.int (if b = true then 1 else 0)) := by cases b <;> rfl
theorem empty_T : (("" : String) : Str) = T [] := rfl
/-- letters drawn -/
theorem signs_ok {S : FSem} (hS : Draws S) {ns : List Int} {a : Int} {z : List D} {t : Tab} {n : Nat} (ht : TabOk t) (hl : ns.length ≤ 63) (hp : Pen ns a (.node true .lst z)) (ha : a + 4000 ≤ 1000000) (hn : n ≤ 1000) :
    ∃ (z' : List D) (l : List Nat), (x_lsigns S) [.node true .lst z, tabD t, .int (n : Int)] = .ret (.str (T l)) [.node true .lst z', tabD t, .int (n : Int)] ∧ l.length = n ∧ (∀ c ∈ l, c ∈ lets t) ∧ Pen ns (a + 3 + 2 * (n : Int)) (.node true .lst z') := by
  have hw : Wf (x_lsigns S) [.node true .lst z, tabD t, .int (n : Int)] fun d as => ∃ (z' : List D) (l : List Nat), d = .str (T l) ∧ as = [.node true .lst z', tabD t, .int (n : Int)] ∧ l.length = n ∧ (∀ c ∈ l, c ∈ lets t) ∧ Pen ns (a + 3 + 2 * (n : Int)) (.node true .lst z') := by
    have hne := ht.lets_ne
    have hms : (lets t).length ≤ 6 := by rw [lets, List.length_map]; exact ht.len6
    have h1 := heads_ok t (by have := ht.len6; omega) (some (.node true .lst z)) (some (.int (n : Int))) none none none none none none
    obtain ⟨w, z2, e2, w0, w1, p2⟩ := dr hS (m := 3) hl hp (by omega) (by decide) (by decide)
    obtain ⟨z3, x, y, e3, hx, hy, p3⟩ := some_ok hS hl p2 (by omega) hne (by omega) (some (tabD t)) (some (.int (n : Int))) (some (.int w)) none none none none
    have tp := tabD_plain t
    generalize htd : tabD t = TD at *
    generalize hmd : lets t = ms at *
    have hm0 : 0 < ms.length := List.length_pos_iff.mpr hne
    unfold x_lsigns
    refine wf_mkF ?_
    unfold b_lsigns
    show Wp _ [some (.node true .lst z), some TD, some (.int (n : Int)), none, none, none, none, none, none, none] _
    refine wp_seq fun K k1 k2 k3 k4 => ?_
    simp [Wp, mkF, reFrz, seq, Pm.ite, rtn, mov, asg, drp, sNx, bnd, Pm.bin, Pm.un, app, aCons, aNil, idx, loc, con, Pm.ret, peek1, peeks, itemOf, on2I, iAdd, iSub, iGt, iGe, iLt, iLe, iDiv, iMod, use1, useL, gI, gN, tst, andT, orT, notT, andE, orE, notE, ifE, ixN, D.frz, D.plain, plainL, argsBack, opLen, opAbs, opInt1, opNeg, disp, cap, callF, takes, puts, selA, sel, aApp, par, gT, gsC, gs0, appF, opDivmod, frzL, plainL, h1]
    refine k1 _ ?_
    clear k1 k2 k3 k4 K
    refine wp_seq fun K k1 k2 k3 k4 => ?_
    simp [Wp, mkF, reFrz, seq, Pm.ite, rtn, mov, asg, drp, sNx, bnd, Pm.bin, Pm.un, app, aCons, aNil, idx, loc, con, Pm.ret, peek1, peeks, itemOf, on2I, iAdd, iSub, iGt, iGe, iLt, iLe, iDiv, iMod, use1, useL, gI, gN, tst, andT, orT, notT, andE, orE, notE, ifE, ixN, D.frz, D.plain, plainL, argsBack, opLen, opAbs, opInt1, opNeg, disp, cap, callF, takes, puts, selA, sel, aApp, par, gT, gsC, gs0, appF, opDivmod, frzL, plainL, e2]
    refine k1 _ ?_
    clear k1 k2 k3 k4 K
    refine wp_seq fun K k1 k2 k3 k4 => ?_
    simp [Wp, mkF, reFrz, seq, Pm.ite, rtn, mov, asg, drp, sNx, bnd, Pm.bin, Pm.un, app, aCons, aNil, idx, loc, con, Pm.ret, peek1, peeks, itemOf, on2I, iAdd, iSub, iGt, iGe, iLt, iLe, iDiv, iMod, use1, useL, gI, gN, tst, andT, orT, notT, andE, orE, notE, ifE, ixN, D.frz, D.plain, plainL, argsBack, opLen, opAbs, opInt1, opNeg, disp, cap, callF, takes, puts, selA, sel, aApp, par, gT, gsC, gs0, appF, opDivmod, frzL, plainL, e3]
    refine k1 _ ?_
    clear k1 k2 k3 k4 K
    refine wp_seq fun K k1 k2 k3 k4 => ?_
    simp [Wp, mkF, reFrz, seq, Pm.ite, rtn, mov, asg, drp, sNx, bnd, Pm.bin, Pm.un, app, aCons, aNil, idx, loc, con, Pm.ret, peek1, peeks, itemOf, on2I, iAdd, iSub, iGt, iGe, iLt, iLe, iDiv, iMod, use1, useL, gI, gN, tst, andT, orT, notT, andE, orE, notE, ifE, ixN, D.frz, D.plain, plainL, argsBack, opLen, opAbs, opInt1, opNeg, disp, cap, callF, takes, puts, selA, sel, aApp, par, gT, gsC, gs0, appF, opDivmod, frzL, plainL, empty_T]
    refine k1 _ ?_
    clear k1 k2 k3 k4 K
    refine wp_seq fun K k1 k2 k3 k4 => ?_
    have hsrc : srcR1 (aCons (loc 2) aNil) [some (.node true .lst z3), some TD, some (.int (n : Int)), some (.node true .lst (ms.map sg)), some (.int w), some (.node true .lst [sg x, sg y]), some (.str (T [])), none, none, none]
        = .ok (rangeD 0 n) [some (.node true .lst z3), some TD, some (.int (n : Int)), some (.node true .lst (ms.map sg)), some (.int w), some (.node true .lst [sg x, sg y]), some (.str (T [])), none, none, none] := src_r1 (es := [.ref 2]) (n := n) rfl rfl (by omega)
    refine wp_for hsrc (fun j ρ => ∃ (z' : List D) (l : List Nat) (x7 x8 : Option D), ρ = [some (.node true .lst z'), some TD, some (.int (n : Int)), some (.node true .lst (ms.map sg)), some (.int w), some (.node true .lst [sg x, sg y]), some (.str (T l)), x7, x8, none] ∧ Pen ns (a + 3 + 2 * (j : Int)) (.node true .lst z') ∧ l.length = j ∧ ∀ c ∈ l, c ∈ ms) ⟨z3, [], none, none, rfl, p3.mono (by omega), rfl, fun c hc => by simp at hc⟩ ?_ ?_
    · rintro j d ρ hd ⟨z', l, x7, x8, rfl, p', hlen, hin⟩
      obtain ⟨hj, rfl⟩ := range_get hd
      refine ⟨_, rfl, ?_⟩
      obtain ⟨u, y1, f1, u0, u1, q1⟩ := dr hS (m := (ms.length : Int)) hl p' (by omega) (by omega) (divS (by omega) (by omega))
      obtain ⟨k, rfl⟩ := Int.eq_ofNat_of_zero_le u0
      have hk : k < ms.length := by omega
      obtain ⟨v, y2, f2, v0, v1, q2⟩ := dr hS (m := 4) hl q1 (by omega) (by decide) (by decide)
      have hc : ms.length ≤ cap := by show _ ≤ 1000000; omega
      unfold b_lsigns_1
      show Wp _ [some (.node true .lst z'), some TD, some (.int (n : Int)), some (.node true .lst (ms.map sg)), some (.int w), some (.node true .lst [sg x, sg y]), some (.str (T l)), some (.int (0 + (j : Int))), x8, none] _
      refine wp_seq fun K k1 k2 k3 k4 => ?_
      simp [Wp, mkF, reFrz, seq, Pm.ite, rtn, mov, asg, drp, sNx, bnd, Pm.bin, Pm.un, app, aCons, aNil, idx, loc, con, Pm.ret, peek1, peeks, itemOf, on2I, iAdd, iSub, iGt, iGe, iLt, iLe, iDiv, iMod, use1, useL, gI, gN, tst, andT, orT, notT, andE, orE, notE, ifE, D.frz, D.plain, plainL, argsBack, opLen, opAbs, opInt1, opNeg, disp, cap, callF, takes, puts, selA, sel, aApp, par, gT, gsC, gs0, appF, opDivmod, frzL, plainL, f1, get_sg hk, ix_nat hk, hc]
      refine k1 _ ?_
      clear k1 k2 k3 k4 K
      refine wp_seq fun K k1 k2 k3 k4 => ?_
      have fin : ∀ (z'' : List D) (m : Nat), m ∈ ms → Pen ns (a + 3 + 2 * (j : Int) + 2) (.node true .lst z'') → K .nx [some (.node true .lst z''), some TD, some (.int (n : Int)), some (.node true .lst (ms.map sg)), some (.int w), some (.node true .lst [sg x, sg y]), some (.str (T l)), some (.int (j : Int)), some (sg m), none] := fun z'' m hm hp'' => k1 _ (by
        clear k1 k2 k3 k4 K
        have hl2 : l.length < 10000 := by omega
        have hmod : (j : Int) % 2 = 0 ∨ (j : Int) % 2 = 1 := by omega
        obtain ⟨q, hq, eq⟩ : ∃ q, q ∈ ms ∧ atI [sg x, sg y] ((j : Int) % 2) = some (sg q) := by
          rcases hmod with e | e
          · exact ⟨x, hx, by rw [e]; rfl⟩
          · exact ⟨y, hy, by rw [e]; rfl⟩
        obtain ⟨q', hq', eq'⟩ : ∃ q', q' ∈ ms ∧ atI [sg m, sg q] (if w = 2 then 1 else 0) = some (sg q') := by
          by_cases e : w = 2
          · exact ⟨q, hq, by rw [if_pos e]; rfl⟩
          · exact ⟨m, hm, by rw [if_neg e]; rfl⟩
        have hix : ∃ i, ixN 2 ((j : Int) % 2) = some i ∧ [sg x, sg y][i]? = some (sg q) := by
          unfold atI at eq
          obtain ⟨i, h1, h2⟩ := Option.bind_eq_some_iff.mp eq
          exact ⟨i, h1, h2⟩
        obtain ⟨i, hi1, hi2⟩ := hix
        have hadd := add_sg (l := l) (c := q') hl2
        generalize hX : [sg x, sg y] = XS at *
        have hXl : XS.length = 2 := by rw [← hX]; rfl
        refine wp_end fun K k1 k2 k3 k4 => ?_
        simp [Wp, mkF, reFrz, seq, Pm.ite, rtn, mov, asg, drp, sNx, bnd, Pm.bin, Pm.un, app, aCons, aNil, idx, loc, con, Pm.ret, peek1, peeks, itemOf, on2I, iAdd, iSub, iGt, iGe, iLt, iLe, iDiv, iMod, use1, useL, gI, gN, tst, andT, orT, notT, andE, orE, notE, ifE, D.frz, D.plain, plainL, argsBack, opLen, opAbs, opInt1, opNeg, disp, cap, callF, takes, puts, selA, sel, aApp, par, gT, gsC, gs0, appF, opDivmod, frzL, plainL, eq_int', opInt_bl, hXl, hi1, hi2, eq', hadd]
        refine k1 _ ⟨z'', l ++ [q'], some (.int (j : Int)), some (sg m), by simp, hp''.mono (by omega), by simp [hlen], fun c hc => ?_⟩
        rcases List.mem_append.mp hc with hc | hc
        · exact hin c hc
        · obtain rfl := List.mem_singleton.mp hc
          exact hq')
      by_cases hw1 : w = 1
      · by_cases hv : 0 < v
        · simp [Wp, mkF, reFrz, seq, Pm.ite, rtn, mov, asg, drp, sNx, bnd, Pm.bin, Pm.un, app, aCons, aNil, idx, loc, con, Pm.ret, peek1, peeks, itemOf, on2I, iAdd, iSub, iGt, iGe, iLt, iLe, iDiv, iMod, use1, useL, gI, gN, tst, andT, orT, notT, andE, orE, notE, ifE, ixN, D.frz, D.plain, plainL, argsBack, opLen, opAbs, opInt1, opNeg, disp, cap, callF, takes, puts, selA, sel, aApp, par, gT, gsC, gs0, appF, opDivmod, frzL, plainL, eq_int', hw1, f2, opGtA_ii, hv]
          exact hw1 ▸ fin y2 x hx (q2.mono (by omega))
        · simp [Wp, mkF, reFrz, seq, Pm.ite, rtn, mov, asg, drp, sNx, bnd, Pm.bin, Pm.un, app, aCons, aNil, idx, loc, con, Pm.ret, peek1, peeks, itemOf, on2I, iAdd, iSub, iGt, iGe, iLt, iLe, iDiv, iMod, use1, useL, gI, gN, tst, andT, orT, notT, andE, orE, notE, ifE, ixN, D.frz, D.plain, plainL, argsBack, opLen, opAbs, opInt1, opNeg, disp, cap, callF, takes, puts, selA, sel, aApp, par, gT, gsC, gs0, appF, opDivmod, frzL, plainL, eq_int', hw1, f2, opGtA_ii, hv]
          exact hw1 ▸ fin y2 ms[k] (mem_at hk) (q2.mono (by omega))
      · simp [Wp, mkF, reFrz, seq, Pm.ite, rtn, mov, asg, drp, sNx, bnd, Pm.bin, Pm.un, app, aCons, aNil, idx, loc, con, Pm.ret, peek1, peeks, itemOf, on2I, iAdd, iSub, iGt, iGe, iLt, iLe, iDiv, iMod, use1, useL, gI, gN, tst, andT, orT, notT, andE, orE, notE, ifE, ixN, D.frz, D.plain, plainL, argsBack, opLen, opAbs, opInt1, opNeg, disp, cap, callF, takes, puts, selA, sel, aApp, par, gT, gsC, gs0, appF, opDivmod, frzL, plainL, eq_int', hw1]
        exact fin y1 ms[k] (mem_at hk) (q1.mono (by omega))
    · rintro ρ ⟨z', l, x7, x8, rfl, p', hlen, hin⟩
      rw [range_len] at *
      refine k1 _ ?_
      clear k1 k2 k3 k4 K
      refine wp_end fun K k1 k2 k3 k4 => ?_
      simp [Wp, mkF, reFrz, seq, Pm.ite, rtn, mov, asg, drp, sNx, bnd, Pm.bin, Pm.un, app, aCons, aNil, idx, loc, con, Pm.ret, peek1, peeks, itemOf, on2I, iAdd, iSub, iGt, iGe, iLt, iLe, iDiv, iMod, use1, useL, gI, gN, tst, andT, orT, notT, andE, orE, notE, ifE, ixN, D.frz, D.plain, plainL, argsBack, opLen, opAbs, opInt1, opNeg, disp, cap, callF, takes, puts, selA, sel, aApp, par, gT, gsC, gs0, appF, opDivmod, frzL, plainL, tp]
      exact k2 _ _ ⟨[.node true .lst z', TD, .int (n : Int)], by simp [argsBack, reFrz, tp, D.plain], z', l, rfl, rfl, hlen, hin, p'⟩
  obtain ⟨d, as, e, z', l, rfl, rfl, h1, h2, hp'⟩ := hw
  exact ⟨z', l, e, h1, h2, hp'⟩
end Pg
/-! ExA: expressions as data, their texts, the parts of their outermost level (plain law, no program in sight). -/
namespace Ex
mutual
/-- an operand: a dot, or an expression in a pair -/
inductive Op where
  | dot | par (e : E)
/-- an expression: operands with letters between -/
inductive E where
  | one (o : Op) | cons (o : Op) (c : Nat) (e : E)
end
mutual
def Op.text : Op → List Nat
  | .dot => [46]
  | .par e => 40 :: (e.text ++ [41])
def E.text : E → List Nat
  | .one o => o.text
  | .cons o c e => o.text ++ c :: e.text
end
mutual
def Op.lets : Op → List Nat
  | .dot => []
  | .par e => e.lets
def E.lets : E → List Nat
  | .one o => o.lets
  | .cons o c e => o.lets ++ c :: e.lets
end
mutual
def Op.prs : Op → Nat
  | .dot => 0
  | .par e => e.prs + 1
def E.prs : E → Nat
  | .one o => o.prs
  | .cons o _ e => o.prs + e.prs
end
/-- the pieces of the outermost level: operands, letters -/
def E.items : E → List (List Nat)
  | .one o => [o.text]
  | .cons o c e => o.text :: [c] :: e.items
/-- the operands of the outermost level -/
def E.width : E → Nat
  | .one _ => 1
  | .cons _ _ e => e.width + 1
theorem width_pos : ∀ e : E, 1 ≤ e.width
  | .one _ => Nat.le_refl 1
  | .cons _ _ e => by show 1 ≤ e.width + 1; omega
theorem items_flat : ∀ e : E, e.items.flatten = e.text
  | .one o => by simp [E.items, E.text]
  | .cons o c e => by simp [E.items, E.text, items_flat e]
theorem items_len : ∀ e : E, e.items.length + 1 = 2 * e.width
  | .one o => rfl
  | .cons o c e => by have := items_len e; simp [E.items, E.width]; omega
/-- without pairs -/
def flat : List Nat → E
  | [] => .one .dot
  | c :: cs => .cons .dot c (flat cs)
theorem flat_snoc (c : Nat) : ∀ cs : List Nat, (flat (cs ++ [c])).items = (flat cs).items ++ [[c], [46]]
  | [] => rfl
  | d :: cs => by
    have := flat_snoc c cs
    simp [flat, E.items, this]
theorem flat_lets : ∀ cs : List Nat, (flat cs).lets = cs
  | [] => rfl
  | c :: cs => by simp [flat, E.lets, Op.lets, flat_lets cs]
theorem flat_prs : ∀ cs : List Nat, (flat cs).prs = 0
  | [] => rfl
  | c :: cs => by simp [flat, E.prs, Op.prs, flat_prs cs]
/-- the first operands apart -/
theorem split_at : ∀ (e : E) (f : Nat), f < e.width → ∃ e1 : E, e1.items = e.items.take (2 * f + 1) ∧
    ((e.items.drop (2 * f + 1) = [] ∧ e1 = e) ∨ ∃ c e2, e.items.drop (2 * f + 1) = [c] :: E.items e2 ∧ e.lets = e1.lets ++ c :: e2.lets ∧ e.prs = e1.prs + e2.prs)
  | .one o, f, h => by
    have : f = 0 := by simp [E.width] at h; omega
    subst this
    exact ⟨.one o, rfl, .inl ⟨rfl, rfl⟩⟩
  | .cons o c e, 0, _ => ⟨.one o, rfl, .inr ⟨c, e, rfl, rfl, rfl⟩⟩
  | .cons o c e, f + 1, h => by
    obtain ⟨e1, h1, h2⟩ := split_at e f (by simp [E.width] at h; omega)
    refine ⟨.cons o c e1, ?_, ?_⟩
    · rw [show 2 * (f + 1) + 1 = (2 * f + 1) + 2 by omega]
      simp [E.items, h1]
    · rw [show 2 * (f + 1) + 1 = (2 * f + 1) + 2 by omega]
      rcases h2 with ⟨h2, rfl⟩ | ⟨d, e2, h2, h3, h4⟩
      · exact .inl ⟨by simp [E.items, h2], rfl⟩
      · exact .inr ⟨d, e2, by simp [E.items, h2], by simp [E.lets, h3], by simp [E.prs, h4]; omega⟩
/-- a pair put around some operands of the outermost level -/
theorem wrap : ∀ (e : E) (k f : Nat), k + f < e.width → ∃ e' : E, e'.items = e.items.take (2 * k) ++ [40 :: (((e.items.drop (2 * k)).take (2 * f + 1)).flatten ++ [41])] ++ e.items.drop (2 * k + 2 * f + 1) ∧ e'.lets = e.lets ∧ e'.prs = e.prs + 1
  | e, 0, f, h => by
    obtain ⟨e1, h1, h2⟩ := split_at e f (by omega)
    rw [Nat.mul_zero, Nat.zero_add, List.drop_zero, List.take_zero, List.nil_append, ← h1, items_flat]
    rcases h2 with ⟨h2, rfl⟩ | ⟨c, e2, h2, h3, h4⟩
    · exact ⟨.one (.par e1), by rw [h2]; simp [E.items, Op.text], rfl, rfl⟩
    · exact ⟨.cons (.par e1) c e2, by rw [h2]; simp [E.items, Op.text], by simp [E.lets, Op.lets, h3], by simp [E.prs, Op.prs, h4]; omega⟩
  | .one o, k + 1, f, h => by simp [E.width] at h
  | .cons o c e, k + 1, f, h => by
    obtain ⟨e', h1, h2, h3⟩ := wrap e k f (by simp [E.width] at h; omega)
    refine ⟨.cons o c e', ?_, by simp [E.lets, h2], by simp [E.prs, h3]; omega⟩
    rw [show 2 * (k + 1) = 2 * k + 2 by omega, show 2 * k + 2 + 2 * f + 1 = (2 * k + 2 * f + 1) + 2 by omega]
    simp [E.items, h1]
theorem op_text_pos (o : Op) : 1 ≤ o.text.length := by
  cases o <;> simp [Op.text]
theorem items_le : ∀ e : E, e.items.length ≤ e.text.length
  | .one o => op_text_pos o
  | .cons o c e => by
    have h1 := op_text_pos o
    have h2 := items_le e
    simp [E.items, E.text]
    omega
mutual
theorem Op.len : ∀ o : Op, o.text.length = 2 * o.lets.length + 1 + 2 * o.prs
  | .dot => rfl
  | .par e => by
    have := E.len e
    simp [Op.text, Op.lets, Op.prs]
    omega
theorem E.len : ∀ e : E, e.text.length = 2 * e.lets.length + 1 + 2 * e.prs
  | .one o => Op.len o
  | .cons o c e => by
    have h1 := Op.len o
    have h2 := E.len e
    simp [E.text, E.lets, E.prs]
    omega
end
end Ex
/-! PgC: lines drawn: expressions. -/
namespace Pg
open PySem PySem.Spec PyProof.Rows L2 Pm
noncomputable def b_lline_1 : M Fl := (asg (Pm.bin hAdd (loc 4) (disp true .lst (aCons (loc 5) (aCons (con (.str ".")) aNil)))) (gN 4))
noncomputable def b_lline_2 (S : FSem) : M Fl := (seq (asg (Pm.bin (on2I iDiv) (Pm.bin hAdd (app opLen (aCons (loc 4) aNil)) (con (.int 1))) (con (.int 2))) (gN 7))
    (seq (asg (callF S (aCons (loc 0) (aCons (loc 7) aNil))) (gN 8))
    (seq (asg (Pm.bin (on2I iSub) (Pm.bin (on2I iSub) (loc 7) (loc 8)) (con (.int 1))) (gN 9))
    (seq (asg (idx (aCons (disp true .lst (aCons (con (.int 0)) (aCons (callF S (aCons (loc 0) (aCons (Pm.bin hAdd (loc 9) (con (.int 1))) aNil))) (aCons (app opMin2 (aCons (con (.int 1)) (aCons (loc 9) aNil))) (aCons (app opMin2 (aCons (con (.int 2)) (aCons (loc 9) aNil))) aNil))))) (aCons (callF S (aCons (loc 0) (aCons (con (.int 4)) aNil))) aNil))) (gN 10))
    (seq (asg (smet1 opJoin (con (.str "")) (cut (loc 4) (some (Pm.bin hMulT (con (.int 2)) (loc 8))) (some (Pm.bin hAdd (Pm.bin hAdd (Pm.bin hMulT (con (.int 2)) (loc 8)) (Pm.bin hMulT (con (.int 2)) (loc 10))) (con (.int 1)))))) (gN 11))
    (seq (asg (cut (loc 4) (some (Pm.bin hAdd (Pm.bin hAdd (Pm.bin hMulT (con (.int 2)) (loc 8)) (Pm.bin hMulT (con (.int 2)) (loc 10))) (con (.int 1)))) none) (gN 9))
    (asg (Pm.bin hAdd (Pm.bin hAdd (cut (loc 4) none (some (Pm.bin hMulT (con (.int 2)) (loc 8)))) (disp true .lst (aCons (Pm.bin hAdd (Pm.bin hAdd (con (.str "(")) (loc 11)) (con (.str ")"))) aNil))) (loc 9)) (gN 4))))))))
noncomputable def b_lline (S : FSem) : M Fl := (seq (asg (idx (aCons (disp true .lst (aCons (callF S (aCons (loc 0) (aCons (Pm.bin hAdd (loc 2) (con (.int 1))) aNil))) (aCons (callF S (aCons (loc 0) (aCons (con (.int 7)) aNil))) (aCons (callF S (aCons (loc 0) (aCons (con (.int 7)) aNil))) aNil)))) (aCons (callF S (aCons (loc 0) (aCons (con (.int 3)) aNil))) aNil))) (gN 3))
    (seq (asg (disp true .lst (aCons (con (.str ".")) aNil)) (gN 4))
    (seq (forS (srcA (callF (x_lsigns S) (aCons (loc 0) (aCons (loc 1) (aCons (loc 3) aNil))))) (gN 5) b_lline_1)
    (seq (forS (srcR1 (aCons (idx (aCons (disp true .lst (aCons (con (.int 0)) (aCons (callF S (aCons (loc 0) (aCons (con (.int 4)) aNil))) (aCons (callF S (aCons (loc 0) (aCons (app opMin2 (aCons (con (.int 199)) (aCons (Pm.bin hAdd (loc 3) (con (.int 3))) aNil))) aNil))) aNil)))) (aCons (callF S (aCons (loc 0) (aCons (con (.int 3)) aNil))) aNil))) aNil)) (gN 6) (b_lline_2 S))
    (rtn (smet1 opJoin (con (.str "")) (loc 4)))))))
noncomputable def x_lline (S : FSem) : FSem := mkF 3 12 [] (b_lline S)
abbrev tx (l : List Nat) : D := .str (T l)
theorem txs_plain (ls : List (List Nat)) : plainL (ls.map tx) = true := by
  induction ls with
  | nil => rfl
  | cons x xs ih => rw [List.map_cons, plainL, ih]; rfl
theorem slL_map {α β : Type} (f : α → β) (xs : List α) (lo hi : Option Int) : slL (xs.map f) lo hi = (slL xs lo hi).map f := by
  unfold slL
  rw [List.length_map, List.map_take, List.map_drop]
theorem cat_LL {p q : Bool} {xs ys : List D} (h1 : plainL xs = true) (h2 : plainL ys = true) (h3 : xs.length + ys.length ≤ cap) : hAdd [.node p .lst xs, .node q .lst ys] = some (.lst true (xs ++ ys)) := hAdd_ll h1 h2 h3
theorem join_tx (o : Bool) (ls : List (List Nat)) (h : ls.flatten.length ≤ cap) : opJoin [.str (T []), .node o .lst (ls.map tx)] = some (.str (T ls.flatten)) := join_ok o ls h
theorem at3I {P : Int → Prop} {x0 x1 x2 r : Int} (h0 : 0 ≤ r) (h1 : r < 3) (p0 : P x0) (p1 : P x1) (p2 : P x2) : ∃ q, atI [D.int x0, .int x1, .int x2] r = some (.int q) ∧ P q := by
  have : r = 0 ∨ r = 1 ∨ r = 2 := by omega
  rcases this with rfl | rfl | rfl
  · exact ⟨x0, rfl, p0⟩
  · exact ⟨x1, rfl, p1⟩
  · exact ⟨x2, rfl, p2⟩
theorem at4I {P : Int → Prop} {x0 x1 x2 x3 r : Int} (h0 : 0 ≤ r) (h1 : r < 4) (p0 : P x0) (p1 : P x1) (p2 : P x2) (p3 : P x3) : ∃ q, atI [D.int x0, .int x1, .int x2, .int x3] r = some (.int q) ∧ P q := by
  have : r = 0 ∨ r = 1 ∨ r = 2 ∨ r = 3 := by omega
  rcases this with rfl | rfl | rfl | rfl
  · exact ⟨x0, rfl, p0⟩
  · exact ⟨x1, rfl, p1⟩
  · exact ⟨x2, rfl, p2⟩
  · exact ⟨x3, rfl, p3⟩
theorem dot_T : (("." : String) : Str) = T [46] := by rw [show ((("." : String) : Str)) = Str.ofString "." from rfl, T_lit]; rfl
theorem opn_T : (("(" : String) : Str) = T [40] := by rw [show ((("(" : String) : Str)) = Str.ofString "(" from rfl, T_lit]; rfl
theorem cls_T : ((")" : String) : Str) = T [41] := by rw [show (((")" : String) : Str)) = Str.ofString ")" from rfl, T_lit]; rfl
theorem flat_take_len {α : Type} (ls : List (List α)) (a b : Nat) : ((ls.drop a).take b).flatten.length ≤ ls.flatten.length := by
  have h1 : ls.flatten.length = (ls.take a).flatten.length + (ls.drop a).flatten.length := by
    conv => lhs; rw [← List.take_append_drop a ls]
    rw [List.flatten_append, List.length_append]
  have h2 : (ls.drop a).flatten.length = ((ls.drop a).take b).flatten.length + ((ls.drop a).drop b).flatten.length := by
    conv => lhs; rw [← List.take_append_drop b (ls.drop a)]
    rw [List.flatten_append, List.length_append]
  omega
/-- one pair more -/
theorem wrap_turn {S : FSem} (hS : Draws S) {ns : List Int} {a : Int} {z : List D} {TD : D} {e : Ex.E} (hl : ns.length ≤ 63) (hp : Pen ns a (.node true .lst z)) (ha : a + 100 ≤ 1000000) (hlen : e.text.length ≤ 5000) (v2 v3 v5 v6 v7 v8 v9 v10 v11 : Option D) :
    Wp (b_lline_2 S) [some (.node true .lst z), some TD, v2, v3, some (.node true .lst (e.items.map tx)), v5, v6, v7, v8, v9, v10, v11] fun fl ρ => fl = .nx ∧ ∃ (z' : List D) (e' : Ex.E) (y7 y8 y9 y10 y11 : Option D),
      ρ = [some (.node true .lst z'), some TD, v2, v3, some (.node true .lst (e'.items.map tx)), v5, v6, y7, y8, y9, y10, y11] ∧ Pen ns (a + 3) (.node true .lst z') ∧ e'.lets = e.lets ∧ e'.prs = e.prs + 1 := by
  have hw := Ex.width_pos e
  have hil := Ex.items_len e
  have hfl := Ex.items_flat e
  have htl : e.items.length ≤ 5000 := by
    have := Ex.items_le e
    omega
  obtain ⟨r8, z1, e1, r80, r81, p1⟩ := dr hS (m := (e.width : Int)) hl hp (by omega) (by omega) (divS (by omega) (by omega))
  obtain ⟨k, rfl⟩ := Int.eq_ofNat_of_zero_le r80
  have hk : k < e.width := by omega
  obtain ⟨r9, z2, e2, r90, r91, p2⟩ := dr hS (m := ((e.width : Int) - k)) hl p1 (by omega) (by omega) (divS (by omega) (by omega))
  obtain ⟨r10, z3, e3, r100, r101, p3⟩ := dr hS (m := 4) hl p2 (by omega) (by decide) (by decide)
  obtain ⟨q, e4, q0, q1⟩ := at4I (P := fun q => 0 ≤ q ∧ q ≤ (e.width : Int) - k - 1) (x0 := 0) (x1 := r9) (x2 := min 1 ((e.width : Int) - k - 1)) (x3 := min 2 ((e.width : Int) - k - 1)) r100 r101 (by omega) (by omega) (by omega) (by omega)
  obtain ⟨f, rfl⟩ := Int.eq_ofNat_of_zero_le q0
  obtain ⟨e', g1, g2, g3⟩ := Ex.wrap e k f (by omega)
  have hcap : (e.items.map tx).length = 2 * e.width - 1 := by rw [List.length_map]; omega
  have hsz : (((2 * e.width - 1 : Nat) : Int) + 1) / 2 = (e.width : Int) := by omega
  have pl := txs_plain e.items
  have m1 : iMul 2 (k : Int) = some (.int (2 * (k : Int))) := mulL (by decide)
  have m2 : iMul 2 (f : Int) = some (.int (2 * (f : Int))) := mulL (by decide)
  have c1 : gCut (some (2 * (k : Int))) (some (2 * (k : Int) + 2 * (f : Int) + 1)) (.node true .lst (e.items.map tx)) = some (.lst true (((e.items.drop (2 * k)).take (2 * f + 1)).map tx)) := by
    rw [gCut_L pl, slL_map, show (2 * (k : Int)) = ((2 * k : Nat) : Int) by omega, show ((2 * k : Nat) : Int) + 2 * (f : Int) + 1 = ((2 * k + 2 * f + 1 : Nat) : Int) by omega, slL_mid, show 2 * k + 2 * f + 1 - 2 * k = 2 * f + 1 by omega]
  have c2 : gCut (some (2 * (k : Int) + 2 * (f : Int) + 1)) none (.node true .lst (e.items.map tx)) = some (.lst true ((e.items.drop (2 * k + 2 * f + 1)).map tx)) := by
    rw [gCut_L pl, slL_map, show 2 * (k : Int) + 2 * (f : Int) + 1 = ((2 * k + 2 * f + 1 : Nat) : Int) by omega, slL_from]
  have c3 : gCut none (some (2 * (k : Int))) (.node true .lst (e.items.map tx)) = some (.lst true ((e.items.take (2 * k)).map tx)) := by
    rw [gCut_L pl, slL_map, show (2 * (k : Int)) = ((2 * k : Nat) : Int) by omega, slL_to]
  have hin : ((e.items.drop (2 * k)).take (2 * f + 1)).flatten.length ≤ 5000 := by
    have := flat_take_len e.items (2 * k) (2 * f + 1)
    rw [hfl] at this
    omega
  have j1 := join_tx true ((e.items.drop (2 * k)).take (2 * f + 1)) (by show _ ≤ 1000000; omega)
  have a1 : hAdd [.str (T [40]), .str (T ((e.items.drop (2 * k)).take (2 * f + 1)).flatten)] = some (.str (T (40 :: ((e.items.drop (2 * k)).take (2 * f + 1)).flatten))) := add_T (by show 1 + _ ≤ 1000000; omega)
  have a2 : hAdd [.str (T (40 :: ((e.items.drop (2 * k)).take (2 * f + 1)).flatten)), .str (T [41])] = some (.str (T (40 :: (((e.items.drop (2 * k)).take (2 * f + 1)).flatten ++ [41])))) := add_T (by show (_ + 1) + 1 ≤ 1000000; omega)
  have a3 : hAdd [.node true .lst ((e.items.take (2 * k)).map tx), .node true .lst [tx (40 :: (((e.items.drop (2 * k)).take (2 * f + 1)).flatten ++ [41]))]] = some (.lst true ((e.items.take (2 * k) ++ [40 :: (((e.items.drop (2 * k)).take (2 * f + 1)).flatten ++ [41])]).map tx)) := by
    rw [cat_LL (txs_plain _) rfl (by rw [List.length_map, List.length_take]; show min _ _ + 1 ≤ 1000000; omega), List.map_append]; rfl
  have a4 : hAdd [.node true .lst ((e.items.take (2 * k) ++ [40 :: (((e.items.drop (2 * k)).take (2 * f + 1)).flatten ++ [41])]).map tx), .node true .lst ((e.items.drop (2 * k + 2 * f + 1)).map tx)] = some (.lst true (e'.items.map tx)) := by
    rw [cat_LL (txs_plain _) (txs_plain _) (by rw [List.length_map, List.length_map, List.length_append, List.length_take, List.length_drop]; show min _ _ + 1 + (_ - _) ≤ 1000000; omega), ← List.map_append, g1]
  have a4' : hAdd [.node true .lst ((e.items.take (2 * k) ++ [40 :: (((e.items.drop (2 * k)).take (2 * f + 1)).flatten ++ [41])]).map tx), .node false .lst ((e.items.drop (2 * k + 2 * f + 1)).map tx)] = some (.lst true (e'.items.map tx)) := by
    rw [cat_LL (txs_plain _) (txs_plain _) (by rw [List.length_map, List.length_map, List.length_append, List.length_take, List.length_drop]; show min _ _ + 1 + (_ - _) ≤ 1000000; omega), ← List.map_append, g1]
  generalize (e.items.drop (2 * k)).take (2 * f + 1) = seg at *
  generalize ((e.items.drop (2 * k + 2 * f + 1)).map tx) = rst at *
  generalize ((e.items.take (2 * k) ++ [40 :: (seg.flatten ++ [41])]).map tx) = bth at *
  generalize ((e.items.take (2 * k)).map tx) = fst at *
  generalize e.items.map tx = XS at *
  unfold b_lline_2
  refine wp_seq fun K k1 k2 k3 k4 => ?_
  simp [Wp, mkF, reFrz, seq, Pm.ite, rtn, mov, asg, drp, sNx, bnd, Pm.bin, Pm.un, app, aCons, aNil, idx, loc, con, Pm.ret, peek1, peeks, itemOf, on2I, iAdd, iSub, iGt, iGe, iLt, iLe, iDiv, iMod, use1, useL, gI, gN, tst, andT, orT, notT, andE, orE, notE, ifE, ixN, D.frz, D.plain, plainL, argsBack, opLen, opAbs, opInt1, opNeg, disp, cap, callF, takes, puts, selA, sel, aApp, par, gT, gsC, gs0, appF, opDivmod, frzL, plainL, hcap, hAdd_ii, hsz]
  refine k1 _ ?_
  clear k1 k2 k3 k4 K
  refine wp_seq fun K k1 k2 k3 k4 => ?_
  simp [Wp, mkF, reFrz, seq, Pm.ite, rtn, mov, asg, drp, sNx, bnd, Pm.bin, Pm.un, app, aCons, aNil, idx, loc, con, Pm.ret, peek1, peeks, itemOf, on2I, iAdd, iSub, iGt, iGe, iLt, iLe, iDiv, iMod, use1, useL, gI, gN, tst, andT, orT, notT, andE, orE, notE, ifE, ixN, D.frz, D.plain, plainL, argsBack, opLen, opAbs, opInt1, opNeg, disp, cap, callF, takes, puts, selA, sel, aApp, par, gT, gsC, gs0, appF, opDivmod, frzL, plainL, e1]
  refine k1 _ ?_
  clear k1 k2 k3 k4 K
  refine wp_seq fun K k1 k2 k3 k4 => ?_
  simp [Wp, mkF, reFrz, seq, Pm.ite, rtn, mov, asg, drp, sNx, bnd, Pm.bin, Pm.un, app, aCons, aNil, idx, loc, con, Pm.ret, peek1, peeks, itemOf, on2I, iAdd, iSub, iGt, iGe, iLt, iLe, iDiv, iMod, use1, useL, gI, gN, tst, andT, orT, notT, andE, orE, notE, ifE, ixN, D.frz, D.plain, plainL, argsBack, opLen, opAbs, opInt1, opNeg, disp, cap, callF, takes, puts, selA, sel, aApp, par, gT, gsC, gs0, appF, opDivmod, frzL, plainL]
  refine k1 _ ?_
  clear k1 k2 k3 k4 K
  refine wp_seq fun K k1 k2 k3 k4 => ?_
  simp [Wp, mkF, reFrz, seq, Pm.ite, rtn, mov, asg, drp, sNx, bnd, Pm.bin, Pm.un, app, aCons, aNil, idx, loc, con, Pm.ret, peek1, peeks, itemOf, on2I, iAdd, iSub, iGt, iGe, iLt, iLe, iDiv, iMod, use1, useL, gI, gN, tst, andT, orT, notT, andE, orE, notE, ifE, ixN, D.frz, D.plain, plainL, argsBack, opLen, opAbs, opInt1, opNeg, disp, cap, callF, takes, puts, selA, sel, aApp, par, gT, gsC, gs0, appF, opDivmod, frzL, plainL, e2, e3, e4, min2_ii, hAdd_ii]
  refine k1 _ ?_
  clear k1 k2 k3 k4 K
  refine wp_seq fun K k1 k2 k3 k4 => ?_
  simp [Wp, mkF, reFrz, seq, Pm.ite, rtn, mov, asg, drp, sNx, bnd, Pm.bin, Pm.un, app, aCons, aNil, idx, loc, con, Pm.ret, peek1, peeks, itemOf, on2I, iAdd, iSub, iGt, iGe, iLt, iLe, iDiv, iMod, use1, useL, gI, gN, tst, andT, orT, notT, andE, orE, notE, ifE, ixN, D.frz, D.plain, plainL, argsBack, opLen, opAbs, opInt1, opNeg, disp, cap, callF, takes, puts, selA, sel, aApp, par, gT, gsC, gs0, appF, opDivmod, frzL, plainL, smet1, cut, hMulT_ii, m1, m2, hAdd_ii, c1, j1, empty_T]
  refine k1 _ ?_
  clear k1 k2 k3 k4 K
  refine wp_seq fun K k1 k2 k3 k4 => ?_
  simp [Wp, mkF, reFrz, seq, Pm.ite, rtn, mov, asg, drp, sNx, bnd, Pm.bin, Pm.un, app, aCons, aNil, idx, loc, con, Pm.ret, peek1, peeks, itemOf, on2I, iAdd, iSub, iGt, iGe, iLt, iLe, iDiv, iMod, use1, useL, gI, gN, tst, andT, orT, notT, andE, orE, notE, ifE, ixN, D.frz, D.plain, plainL, argsBack, opLen, opAbs, opInt1, opNeg, disp, cap, callF, takes, puts, selA, sel, aApp, par, gT, gsC, gs0, appF, opDivmod, frzL, plainL, cut, hMulT_ii, m1, m2, hAdd_ii, c2]
  refine k1 _ ?_
  clear k1 k2 k3 k4 K
  refine wp_end fun K k1 k2 k3 k4 => ?_
  simp [Wp, mkF, reFrz, seq, Pm.ite, rtn, mov, asg, drp, sNx, bnd, Pm.bin, Pm.un, app, aCons, aNil, idx, loc, con, Pm.ret, peek1, peeks, itemOf, on2I, iAdd, iSub, iGt, iGe, iLt, iLe, iDiv, iMod, use1, useL, gI, gN, tst, andT, orT, notT, andE, orE, notE, ifE, ixN, D.frz, D.plain, plainL, argsBack, opLen, opAbs, opInt1, opNeg, disp, cap, callF, takes, puts, selA, sel, aApp, par, gT, gsC, gs0, appF, opDivmod, frzL, plainL, cut, hMulT_ii, m1, c3, opn_T, cls_T, a1, a2, a3, a4, a4']
  exact k1 _ ⟨rfl, z3, e', _, _, _, _, _, rfl, p3.mono (by omega), g2, g3⟩
theorem signsD_T (l : List Nat) : signsD (T l) = l.map sg := rfl
/-- a line is an expression with letters of the table -/
theorem line_ok {S : FSem} (hS : Draws S) {ns : List Int} {a : Int} {z : List D} {t : Tab} {most : Nat} (ht : TabOk t) (hl : ns.length ≤ 63) (hp : Pen ns a (.node true .lst z)) (ha : a + 8000 ≤ 1000000) (hm : most ≤ 200) (hm6 : 6 ≤ most) :
    ∃ (z' : List D) (e : Ex.E), (x_lline S) [.node true .lst z, tabD t, .int (most : Int)] = .ret (.str (T e.text)) [.node true .lst z', tabD t, .int (most : Int)] ∧ (∀ c ∈ e.lets, c ∈ lets t) ∧ e.lets.length ≤ most ∧ e.prs ≤ 199 ∧ Pen ns (a + 2000) (.node true .lst z') := by
  have hw : Wf (x_lline S) [.node true .lst z, tabD t, .int (most : Int)] fun d as => ∃ (z' : List D) (e : Ex.E), d = .str (T e.text) ∧ as = [.node true .lst z', tabD t, .int (most : Int)] ∧ (∀ c ∈ e.lets, c ∈ lets t) ∧ e.lets.length ≤ most ∧ e.prs ≤ 199 ∧ Pen ns (a + 2000) (.node true .lst z') := by
    obtain ⟨r1, z1, e1, r10, r11, p1⟩ := dr hS (m := (most : Int) + 1) hl hp (by omega) (by omega) (divS (by omega) (by omega))
    obtain ⟨r2, z2, e2, r20, r21, p2⟩ := dr hS (m := 7) hl p1 (by omega) (by decide) (by decide)
    obtain ⟨r3, z3, e3, r30, r31, p3⟩ := dr hS (m := 7) hl p2 (by omega) (by decide) (by decide)
    obtain ⟨r4, z4, e4, r40, r41, p4⟩ := dr hS (m := 3) hl p3 (by omega) (by decide) (by decide)
    obtain ⟨q, e5, q0, q1⟩ := at3I (P := fun q => 0 ≤ q ∧ q ≤ (most : Int)) r40 r41 (x0 := r1) (x1 := r2) (x2 := r3) (by omega) (by omega) (by omega)
    obtain ⟨n, rfl⟩ := Int.eq_ofNat_of_zero_le q0
    obtain ⟨z5, l, e6, hln, hin, p5⟩ := signs_ok (n := n) hS ht hl p4 (by omega) (by omega)
    have tp := tabD_plain t
    generalize htd : tabD t = TD at *
    unfold x_lline
    refine wf_mkF ?_
    unfold b_lline
    show Wp _ [some (.node true .lst z), some TD, some (.int (most : Int)), none, none, none, none, none, none, none, none, none] _
    refine wp_seq fun K k1 k2 k3 k4 => ?_
    simp [Wp, mkF, reFrz, seq, Pm.ite, rtn, mov, asg, drp, sNx, bnd, Pm.bin, Pm.un, app, aCons, aNil, idx, loc, con, Pm.ret, peek1, peeks, itemOf, on2I, iAdd, iSub, iGt, iGe, iLt, iLe, iDiv, iMod, use1, useL, gI, gN, tst, andT, orT, notT, andE, orE, notE, ifE, ixN, D.frz, D.plain, plainL, argsBack, opLen, opAbs, opInt1, opNeg, disp, cap, callF, takes, puts, selA, sel, aApp, par, gT, gsC, gs0, appF, opDivmod, frzL, plainL, e1, e2, e3, e4, e5, hAdd_ii]
    refine k1 _ ?_
    clear k1 k2 k3 k4 K
    refine wp_seq fun K k1 k2 k3 k4 => ?_
    simp [Wp, mkF, reFrz, seq, Pm.ite, rtn, mov, asg, drp, sNx, bnd, Pm.bin, Pm.un, app, aCons, aNil, idx, loc, con, Pm.ret, peek1, peeks, itemOf, on2I, iAdd, iSub, iGt, iGe, iLt, iLe, iDiv, iMod, use1, useL, gI, gN, tst, andT, orT, notT, andE, orE, notE, ifE, ixN, D.frz, D.plain, plainL, argsBack, opLen, opAbs, opInt1, opNeg, disp, cap, callF, takes, puts, selA, sel, aApp, par, gT, gsC, gs0, appF, opDivmod, frzL, plainL, dot_T]
    refine k1 _ ?_
    clear k1 k2 k3 k4 K
    refine wp_seq fun K k1 k2 k3 k4 => ?_
    have hsrc : srcA (callF (x_lsigns S) (aCons (loc 0) (aCons (loc 1) (aCons (loc 3) aNil)))) [some (.node true .lst z4), some TD, some (.int (most : Int)), some (.int (n : Int)), some (.node true .lst [tx [46]]), none, none, none, none, none, none, none]
        = .ok (l.map sg) [some (.node true .lst z5), some TD, some (.int (most : Int)), some (.int (n : Int)), some (.node true .lst [tx [46]]), none, none, none, none, none, none, none] := by
      simp [mkF, reFrz, seq, Pm.ite, rtn, mov, asg, drp, sNx, bnd, Pm.bin, Pm.un, app, aCons, aNil, idx, loc, con, Pm.ret, peek1, peeks, itemOf, on2I, iAdd, iSub, iGt, iGe, iLt, iLe, iDiv, iMod, use1, useL, gI, gN, tst, andT, orT, notT, andE, orE, notE, ifE, ixN, D.frz, D.plain, plainL, argsBack, opLen, opAbs, opInt1, opNeg, disp, cap, callF, takes, puts, selA, sel, aApp, par, gT, gsC, gs0, appF, opDivmod, frzL, plainL, srcA, e6, tp, signsD_T]
    refine wp_for hsrc (fun j ρ => ∃ x5 : Option D, ρ = [some (.node true .lst z5), some TD, some (.int (most : Int)), some (.int (n : Int)), some (.node true .lst ((Ex.flat (l.take j)).items.map tx)), x5, none, none, none, none, none, none]) ⟨none, rfl⟩ ?_ ?_
    · rintro j d ρ hd ⟨x5, rfl⟩
      have hj : j < l.length := by
        have := (List.getElem?_eq_some_iff.mp hd).1
        simpa using this
      obtain rfl : sg l[j] = d := by rw [get_sg hj] at hd; exact Option.some.inj hd
      refine ⟨_, rfl, ?_⟩
      have hil := Ex.items_le (Ex.flat (l.take j))
      have hel := Ex.E.len (Ex.flat (l.take j))
      rw [Ex.flat_lets, Ex.flat_prs, List.length_take] at hel
      have hadd : hAdd [.node true .lst ((Ex.flat (l.take j)).items.map tx), .node true .lst [sg l[j], tx [46]]] = some (.lst true ((Ex.flat (l.take (j + 1))).items.map tx)) := by
        rw [cat_LL (txs_plain _) rfl (by rw [List.length_map]; show _ + 2 ≤ 1000000; omega), List.take_add_one, List.getElem?_eq_getElem hj]
        show _ = some (D.lst true ((Ex.flat (l.take j ++ [l[j]])).items.map tx))
        rw [Ex.flat_snoc, List.map_append]
        rfl
      unfold b_lline_1
      generalize (Ex.flat (l.take j)).items.map tx = XS at *
      show Wp _ [some (.node true .lst z5), some TD, some (.int (most : Int)), some (.int (n : Int)), some (.node true .lst XS), some (sg l[j]), none, none, none, none, none, none] _
      refine wp_end fun K k1 k2 k3 k4 => ?_
      simp [Wp, mkF, reFrz, seq, Pm.ite, rtn, mov, asg, drp, sNx, bnd, Pm.bin, Pm.un, app, aCons, aNil, idx, loc, con, Pm.ret, peek1, peeks, itemOf, on2I, iAdd, iSub, iGt, iGe, iLt, iLe, iDiv, iMod, use1, useL, gI, gN, tst, andT, orT, notT, andE, orE, notE, ifE, ixN, D.frz, D.plain, plainL, argsBack, opLen, opAbs, opInt1, opNeg, disp, cap, callF, takes, puts, selA, sel, aApp, par, gT, gsC, gs0, appF, opDivmod, frzL, plainL, dot_T, hadd]
      exact k1 _ ⟨_, rfl⟩
    · rintro ρ ⟨x5, rfl⟩
      rw [List.length_map, List.take_length]
      refine k1 _ ?_
      clear k1 k2 k3 k4 K
      obtain ⟨r6, z6, e7, r60, r61, p6⟩ := dr hS (m := 4) hl p5 (by omega) (by decide) (by decide)
      obtain ⟨r7, z7, e8, r70, r71, p7⟩ := dr hS (m := min 199 ((n : Int) + 3)) hl p6 (by omega) (by omega) (divS (by omega) (by omega))
      obtain ⟨r8, z8, e9, r80, r81, p8⟩ := dr hS (m := 3) hl p7 (by omega) (by decide) (by decide)
      obtain ⟨w, e10, w0, w1⟩ := at3I (P := fun q => 0 ≤ q ∧ q ≤ 198) r80 r81 (x0 := 0) (x1 := r6) (x2 := r7) (by omega) (by omega) (by omega)
      obtain ⟨m, rfl⟩ := Int.eq_ofNat_of_zero_le w0
      refine wp_seq fun K k1 k2 k3 k4 => ?_
      have hsrc : srcR1 (aCons (idx (aCons (disp true .lst (aCons (con (.int 0)) (aCons (callF S (aCons (loc 0) (aCons (con (.int 4)) aNil))) (aCons (callF S (aCons (loc 0) (aCons (app opMin2 (aCons (con (.int 199)) (aCons (Pm.bin hAdd (loc 3) (con (.int 3))) aNil))) aNil))) aNil)))) (aCons (callF S (aCons (loc 0) (aCons (con (.int 3)) aNil))) aNil))) aNil)
          [some (.node true .lst z5), some TD, some (.int (most : Int)), some (.int (n : Int)), some (.node true .lst ((Ex.flat l).items.map tx)), x5, none, none, none, none, none, none]
          = .ok (rangeD 0 m) [some (.node true .lst z8), some TD, some (.int (most : Int)), some (.int (n : Int)), some (.node true .lst ((Ex.flat l).items.map tx)), x5, none, none, none, none, none, none] := by
        generalize (Ex.flat l).items.map tx = XS at *
        refine src_r1 (es := [.val (.int (m : Int))]) (n := m) ?_ rfl (by omega)
        simp [mkF, reFrz, seq, Pm.ite, rtn, mov, asg, drp, sNx, bnd, Pm.bin, Pm.un, app, aCons, aNil, idx, loc, con, Pm.ret, peek1, peeks, itemOf, on2I, iAdd, iSub, iGt, iGe, iLt, iLe, iDiv, iMod, use1, useL, gI, gN, tst, andT, orT, notT, andE, orE, notE, ifE, ixN, D.frz, D.plain, plainL, argsBack, opLen, opAbs, opInt1, opNeg, disp, cap, callF, takes, puts, selA, sel, aApp, par, gT, gsC, gs0, appF, opDivmod, frzL, plainL, e7, e8, e9, e10, min2_ii, hAdd_ii]
      refine wp_for hsrc (fun j ρ => ∃ (z' : List D) (e : Ex.E) (y5 y6 y7 y8 y9 y10 y11 : Option D), ρ = [some (.node true .lst z'), some TD, some (.int (most : Int)), some (.int (n : Int)), some (.node true .lst (e.items.map tx)), y5, y6, y7, y8, y9, y10, y11] ∧ Pen ns (a + 1000 + 3 * (j : Int)) (.node true .lst z') ∧ e.lets = l ∧ e.prs = j)
        ⟨z8, Ex.flat l, x5, none, none, none, none, none, none, rfl, p8.mono (by omega), Ex.flat_lets l, Ex.flat_prs l⟩ ?_ ?_
      · rintro j d ρ hd ⟨z', e, y5, y6, y7, y8, y9, y10, y11, rfl, p', hlets, hprs⟩
        obtain ⟨hj, rfl⟩ := range_get hd
        refine ⟨_, rfl, ?_⟩
        have hel := Ex.E.len e
        rw [hlets, hprs] at hel
        refine (wrap_turn hS (e := e) hl p' (by omega) (by omega) (some (.int (most : Int))) (some (.int (n : Int))) y5 (some (.int (0 + (j : Int)))) y7 y8 y9 y10 y11).mono ?_
        rintro fl ρ' ⟨rfl, z'', e', w7, w8, w9, w10, w11, rfl, p'', h1, h2⟩
        exact ⟨z'', e', _, _, _, _, _, _, _, rfl, p''.mono (by omega), by rw [h1, hlets], by rw [h2, hprs]⟩
      · rintro ρ ⟨z', e, y5, y6, y7, y8, y9, y10, y11, rfl, p', hlets, hprs⟩
        rw [range_len] at *
        refine k1 _ ?_
        clear k1 k2 k3 k4 K
        have hel := Ex.E.len e
        rw [hlets, hprs] at hel
        have hj := join_tx true e.items (by rw [Ex.items_flat]; show _ ≤ 1000000; omega)
        rw [Ex.items_flat] at hj
        generalize e.items.map tx = XS at *
        refine wp_end fun K k1 k2 k3 k4 => ?_
        simp [Wp, mkF, reFrz, seq, Pm.ite, rtn, mov, asg, drp, sNx, bnd, Pm.bin, Pm.un, app, aCons, aNil, idx, loc, con, Pm.ret, peek1, peeks, itemOf, on2I, iAdd, iSub, iGt, iGe, iLt, iLe, iDiv, iMod, use1, useL, gI, gN, tst, andT, orT, notT, andE, orE, notE, ifE, ixN, D.frz, D.plain, plainL, argsBack, opLen, opAbs, opInt1, opNeg, disp, cap, callF, takes, puts, selA, sel, aApp, par, gT, gsC, gs0, appF, opDivmod, frzL, plainL, smet1, empty_T, hj]
        refine k2 _ _ ⟨[.node true .lst z', TD, .int (most : Int)], by simp [argsBack, reFrz, tp, D.plain], z', e, rfl, rfl, by rw [hlets]; exact hin, by rw [hlets]; omega, by omega, p'.mono (by omega)⟩
  obtain ⟨d, as, e, z', x, rfl, rfl, h1, h2, h3, hp'⟩ := hw
  exact ⟨z', x, e, h1, h2, h3, hp'⟩
end Pg
/-! ExB: texts of expressions scanned sign by sign (plain law). -/
namespace Ex
def isL (c : Nat) : Bool := decide (97 ≤ c) && decide (c ≤ 122)
/-- operators, pairs, depth, whether an operand is wanted -/
abbrev St := Nat × Nat × Nat × Bool
def cstep : St → Nat → Option St
  | (o, p, d, true), c => if c = 40 then some (o, p + 1, d + 1, true) else if c = 46 then some (o, p, d, false) else none
  | (o, p, d, false), c => if c = 41 ∧ 0 < d then some (o, p, d - 1, false) else if isL c = true then some (o + 1, p, d, true) else none
def scan : St → List Nat → Option St
  | s, [] => some s
  | s, c :: r => match cstep s c with
    | some s' => scan s' r
    | none => none
theorem scan_app : ∀ (a b : List Nat) (s : St), scan s (a ++ b) = match scan s a with | some s' => scan s' b | none => none
  | [], b, s => rfl
  | c :: a, b, s => by
    show (match cstep s c with | some s' => scan s' (a ++ b) | none => none) = match (match cstep s c with | some s' => scan s' a | none => none) with | some s' => scan s' b | none => none
    cases cstep s c with
    | none => rfl
    | some s' => exact scan_app a b s'
def counts (l : List Nat) : Option (Nat × Nat) := match scan (0, 0, 0, true) l with
  | some (o, p, d, w) => if w = true ∨ 0 < d then none else some (o, p)
  | none => none
theorem isL_40 {c : Nat} (h : isL c = true) : c ≠ 40 ∧ c ≠ 41 ∧ c ≠ 46 := by
  unfold isL at h
  rw [Bool.and_eq_true, decide_eq_true_eq, decide_eq_true_eq] at h
  omega
mutual
theorem Op.scan : ∀ (x : Op) (o p d : Nat), (∀ c ∈ x.lets, isL c = true) → Ex.scan (o, p, d, true) x.text = some (o + x.lets.length, p + x.prs, d, false)
  | .dot, o, p, d, _ => rfl
  | .par e, o, p, d, h => by
    show (match cstep (o, p, d, true) 40 with | some s' => Ex.scan s' (e.text ++ [41]) | none => none) = _
    have e1 : cstep (o, p, d, true) 40 = some (o, p + 1, d + 1, true) := rfl
    rw [e1]
    simp only
    rw [scan_app, E.scan e _ _ _ h]
    have e2 : cstep (o + e.lets.length, p + 1 + e.prs, d + 1, false) 41 = some (o + e.lets.length, p + 1 + e.prs, d, false) := rfl
    show (match cstep (o + e.lets.length, p + 1 + e.prs, d + 1, false) 41 with | some s' => Ex.scan s' [] | none => none) = _
    rw [e2]
    show some (o + e.lets.length, p + 1 + e.prs, d, false) = some (o + e.lets.length, p + (e.prs + 1), d, false)
    rw [show p + 1 + e.prs = p + (e.prs + 1) by omega]
theorem E.scan : ∀ (e : E) (o p d : Nat), (∀ c ∈ e.lets, isL c = true) → Ex.scan (o, p, d, true) e.text = some (o + e.lets.length, p + e.prs, d, false)
  | .one x, o, p, d, h => Op.scan x o p d h
  | .cons x c e, o, p, d, h => by
    have hx : ∀ c ∈ x.lets, isL c = true := fun k hk => h k (by simp [E.lets, hk])
    have hc : isL c = true := h c (by simp [E.lets])
    have he : ∀ c ∈ e.lets, isL c = true := fun k hk => h k (by simp [E.lets, hk])
    show Ex.scan (o, p, d, true) (x.text ++ c :: e.text) = _
    rw [scan_app, Op.scan x o p d hx]
    have e1 : cstep (o + x.lets.length, p + x.prs, d, false) c = some (o + x.lets.length + 1, p + x.prs, d, true) := by
      show (if c = 41 ∧ 0 < d then some (o + x.lets.length, p + x.prs, d - 1, false) else if isL c = true then some (o + x.lets.length + 1, p + x.prs, d, true) else none) = _
      rw [if_neg (by have := isL_40 hc; omega), if_pos hc]
    show (match cstep (o + x.lets.length, p + x.prs, d, false) c with | some s' => Ex.scan s' e.text | none => none) = _
    rw [e1]
    simp only
    rw [E.scan e _ _ _ he]
    simp only [E.lets, E.prs, List.length_append, List.length_cons]
    rw [show o + x.lets.length + 1 + e.lets.length = o + (x.lets.length + (e.lets.length + 1)) by omega, show p + x.prs + e.prs = p + (x.prs + e.prs) by omega]
end
theorem counts_text {e : E} (h : ∀ c ∈ e.lets, isL c = true) : counts e.text = some (e.lets.length, e.prs) := by
  unfold counts
  rw [E.scan e 0 0 0 h, Nat.zero_add, Nat.zero_add]
  simp
/-! ### signs of a text -/
def okS (c : Nat) : Prop := isL c = true ∨ c = 40 ∨ c = 41 ∨ c = 46
mutual
theorem Op.signs : ∀ (x : Op), (∀ c ∈ x.lets, isL c = true) → ∀ c ∈ x.text, okS c
  | .dot, _, c, hc => by
    simp only [Op.text, List.mem_singleton] at hc
    exact .inr (.inr (.inr hc))
  | .par e, h, c, hc => by
    simp only [Op.text, List.mem_cons, List.mem_append, List.not_mem_nil, or_false] at hc
    rcases hc with hc | hc | hc
    · exact .inr (.inl hc)
    · exact E.signs e h c hc
    · exact .inr (.inr (.inl hc))
theorem E.signs : ∀ (e : E), (∀ c ∈ e.lets, isL c = true) → ∀ c ∈ e.text, okS c
  | .one x, h, c, hc => Op.signs x h c hc
  | .cons x d e, h, c, hc => by
    simp only [E.text, List.mem_append, List.mem_cons] at hc
    rcases hc with hc | hc | hc
    · exact Op.signs x (fun k hk => h k (by simp [E.lets, hk])) c hc
    · subst hc
      exact .inl (h c (by simp [E.lets]))
    · exact E.signs e (fun k hk => h k (by simp [E.lets, hk])) c hc
end
mutual
theorem Op.letters : ∀ (x : Op), (∀ c ∈ x.lets, isL c = true) → x.text.filter isL = x.lets
  | .dot, _ => rfl
  | .par e, h => by
    show List.filter isL (40 :: (e.text ++ [41])) = e.lets
    rw [List.filter_cons_of_neg (by decide), List.filter_append, E.letters e h]
    simp [isL]
theorem E.letters : ∀ (e : E), (∀ c ∈ e.lets, isL c = true) → e.text.filter isL = e.lets
  | .one x, h => Op.letters x h
  | .cons x d e, h => by
    show List.filter isL (x.text ++ d :: e.text) = x.lets ++ d :: e.lets
    rw [List.filter_append, List.filter_cons_of_pos (h d (by simp [E.lets])), Op.letters x (fun k hk => h k (by simp [E.lets, hk])), E.letters e (fun k hk => h k (by simp [E.lets, hk]))]
end
/-- no pair signs -/
def nk (c : Nat) : Bool := c != 40 && c != 41
theorem flat_app : ∀ (a : List Nat) (c : Nat) (b : List Nat), (flat (a ++ c :: b)).text = (flat a).text ++ c :: (flat b).text
  | [], c, b => rfl
  | x :: a, c, b => by
    show Op.text .dot ++ x :: (flat (a ++ c :: b)).text = _
    rw [flat_app a c b]
    simp [flat, E.text]
mutual
theorem Op.naked : ∀ (x : Op), (∀ c ∈ x.lets, isL c = true) → x.text.filter nk = (flat x.lets).text
  | .dot, _ => rfl
  | .par e, h => by
    show List.filter nk (40 :: (e.text ++ [41])) = (flat e.lets).text
    rw [List.filter_cons_of_neg (by decide), List.filter_append, E.naked e h]
    simp [nk]
theorem E.naked : ∀ (e : E), (∀ c ∈ e.lets, isL c = true) → e.text.filter nk = (flat e.lets).text
  | .one x, h => Op.naked x h
  | .cons x d e, h => by
    have hd : nk d = true := by
      have := isL_40 (h d (by simp [E.lets]))
      simp [nk, this.1, this.2.1]
    show List.filter nk (x.text ++ d :: e.text) = (flat (x.lets ++ d :: e.lets)).text
    rw [List.filter_append, List.filter_cons_of_pos hd, Op.naked x (fun k hk => h k (by simp [E.lets, hk])), E.naked e (fun k hk => h k (by simp [E.lets, hk])), flat_app]
end
/-! ### levels -/
def lev : Int → List Nat → List Int
  | _, [] => []
  | d, c :: r => if c = 40 then lev (d + 1) r else if c = 41 then lev (d - 1) r else if c = 46 then lev d r else d :: lev d r
def isM (c : Nat) : Bool := c == 40 || c == 41 || c == 46
def dep (l : List Nat) : Int := (l.count 40 : Nat) - (l.count 41 : Nat)
theorem lev_places : ∀ (r pre : List Nat), lev (dep pre) r = ((r.zipIdx pre.length).filter fun p => !isM p.1).map fun p => dep ((pre ++ r).take p.2)
  | [], _ => rfl
  | c :: r, pre => by
    have ih := lev_places r (pre ++ [c])
    have hd : dep (pre ++ [c]) = dep pre + (if c = 40 then 1 else 0) - (if c = 41 then 1 else 0) := by
      unfold dep
      rw [List.count_append, List.count_append, List.count_singleton, List.count_singleton]
      by_cases h0 : c = 40
      · subst h0; simp; omega
      · by_cases h1 : c = 41
        · subst h1; simp; omega
        · simp [h0, h1]
    rw [List.length_append, List.length_singleton, List.append_assoc, List.singleton_append] at ih
    rw [List.zipIdx_cons, lev]
    by_cases h0 : c = 40
    · rw [if_pos h0, List.filter_cons_of_neg (by simp [h0, isM]), ← ih, hd]
      simp [h0]
    · rw [if_neg h0]
      by_cases h1 : c = 41
      · rw [if_pos h1, List.filter_cons_of_neg (by simp [h1, isM]), ← ih, hd]
        simp [h1]
      · rw [if_neg h1]
        by_cases h2 : c = 46
        · rw [if_pos h2, List.filter_cons_of_neg (by simp [h2, isM]), ← ih, hd]
          simp [h2]
        · rw [if_neg h2, List.filter_cons_of_pos (by simp [h0, h1, h2, isM]), List.map_cons, ← ih, hd]
          simp [h0, h1]
theorem lev_flat : ∀ (cs : List Nat) (d : Int), (∀ c ∈ cs, isL c = true) → lev d (flat cs).text = List.replicate cs.length d
  | [], d, _ => rfl
  | c :: cs, d, h => by
    have hc := isL_40 (h c (by simp))
    show lev d (46 :: c :: (flat cs).text) = _
    rw [lev, if_neg (by decide), if_neg (by decide), if_pos rfl, lev, if_neg hc.1, if_neg hc.2.1, if_neg hc.2.2, lev_flat cs d fun k hk => h k (by simp [hk])]
    rfl
theorem filter_M {l : List Nat} (h : ∀ c ∈ l, okS c) : l.filter (fun c => !isM c) = l.filter isL := by
  refine List.filter_congr fun c hc => ?_
  rcases h c hc with q | rfl | rfl | rfl
  · have := isL_40 q
    simp [isM, q, this.1, this.2.1, this.2.2]
  · rfl
  · rfl
  · rfl
end Ex
/-! PgD: the program's functions over texts of expressions. -/
namespace Pg
open PySem PySem.Spec PyProof.Rows L2 Pm
noncomputable def c_letters_in_1 : M EV := comp [1] (srcA (loc 0)) (gN 1) (tst (Pm.bin opIn (loc 1) (con (.str "abcdefghijklmnopqrstuvwxyz")))) (loc 1)
noncomputable def b_letters_in : M Fl := (rtn (smet1 opJoin (con (.str "")) c_letters_in_1))
noncomputable def x_letters_in : FSem := mkF 1 2 [] b_letters_in
noncomputable def b_levels_1 : M Fl := (Pm.ite (tst (Pm.bin opEq (loc 3) (con (.str "(")))) (asg (Pm.bin (on2I iAdd) (loc 2) (con (.int 1))) (gN 2)) (Pm.ite (tst (Pm.bin opEq (loc 3) (con (.str ")")))) (asg (Pm.bin (on2I iSub) (loc 2) (con (.int 1))) (gN 2)) (Pm.ite (tst (Pm.bin opNe (loc 3) (con (.str ".")))) (drp (appd 1 (loc 2))) sNx)))
noncomputable def b_levels : M Fl := (seq (asg (disp true .lst aNil) (gN 1))
    (seq (asg (con (.int 0)) (gN 2))
    (seq (forS (srcA (loc 0)) (gN 3) b_levels_1)
    (rtn (app opTuple (aCons (loc 1) aNil))))))
noncomputable def x_levels : FSem := mkF 1 4 [] b_levels
noncomputable def c_bare_1 : M EV := comp [1] (srcA (loc 0)) (gN 1) (tst (Pm.bin opNotIn (loc 1) (disp false .tup (aCons (con (.str "(")) (aCons (con (.str ")")) aNil))))) (loc 1)
noncomputable def b_bare : M Fl := (rtn (smet1 opJoin (con (.str "")) c_bare_1))
noncomputable def x_bare : FSem := mkF 1 2 [] b_bare
noncomputable def b_counts_in_1 : M Fl := (Pm.ite (andT (tst (loc 4)) (tst (Pm.bin opEq (loc 5) (con (.str "("))))) (seq (asg (Pm.bin (on2I iAdd) (loc 3) (con (.int 1))) (gN 3))
    (asg (Pm.bin (on2I iAdd) (loc 2) (con (.int 1))) (gN 2))) (Pm.ite (andT (tst (loc 4)) (tst (Pm.bin opEq (loc 5) (con (.str "."))))) (asg (con (.bl false)) (gN 4)) (Pm.ite (andT (notT (tst (loc 4))) (andT (tst (Pm.bin opEq (loc 5) (con (.str ")")))) (tst (Pm.bin opGtA (loc 3) (con (.int 0)))))) (asg (Pm.bin (on2I iSub) (loc 3) (con (.int 1))) (gN 3)) (Pm.ite (andT (notT (tst (loc 4))) (tst (Pm.bin opIn (loc 5) (con (.str "abcdefghijklmnopqrstuvwxyz"))))) (seq (asg (Pm.bin (on2I iAdd) (loc 1) (con (.int 1))) (gN 1))
    (asg (con (.bl true)) (gN 4))) (rtn (con .non))))))
noncomputable def b_counts_in : M Fl := (seq (asg3 (con (.int 0)) (gN 1) (gN 2) (gN 3))
    (seq (asg (con (.bl true)) (gN 4))
    (seq (forS (srcA (loc 0)) (gN 5) b_counts_in_1)
    (rtn (ifE (orT (tst (loc 4)) (tst (Pm.bin opGtA (loc 3) (con (.int 0))))) (con .non) (disp false .tup (aCons (loc 1) (aCons (loc 2) aNil))))))))
noncomputable def x_counts_in : FSem := mkF 1 6 [] b_counts_in
noncomputable def b_is_expression : M Fl := (seq (asg (ifE (tst (app opIsi (aCons (loc 0) (aCons (con (.op (.ty "str"))) aNil)))) (callF x_counts_in (aCons (loc 0) aNil)) (con .non)) (gN 1))
    (rtn (andE (Pm.bin opNotN (loc 1) (con .non)) (andE (Pm.bin opLeA (idx (aCons (loc 1) (aCons (con (.int 0)) aNil))) (con (.int 200))) (Pm.bin opLeA (idx (aCons (loc 1) (aCons (con (.int 1)) aNil))) (con (.int 200)))))))
noncomputable def x_is_expression : FSem := mkF 1 2 [] b_is_expression
theorem mem_ABC (c : Nat) : decide (c ∈ ABC) = Ex.isL c := by
  unfold Ex.isL
  rw [← Bool.decide_and]
  refine decide_eq_decide.mpr ?_
  simp only [ABC, List.mem_cons, List.not_mem_nil, or_false]
  omega
def code (x : Str) : Nat := x.cps.toList.headD 0
theorem code_T (c : Nat) : code (T [c]) = c := rfl
theorem fm_sg (p : Nat → Bool) (l : List Nat) : (l.map sg).filterMap (fun d => match d with | .str x => if p (code x) = true then some (D.str x) else none | _ => none) = (l.filter p).map sg := by
  induction l with
  | nil => rfl
  | cons c l ih =>
    rw [List.map_cons, List.filterMap_cons, ih, List.filter_cons]
    have e : code (T [c]) = c := rfl
    cases h : p c with
    | true => simp [sg, e, h]
    | false => simp [sg, e, h]
theorem flat_sgs (l : List Nat) : (l.map fun c => [c]).flatten = l := by
  induction l with
  | nil => rfl
  | cons c l ih => simp [ih]
theorem join_sg (o : Bool) (l : List Nat) (h : l.length ≤ cap) : opJoin [.str (T []), .node o .lst (l.map sg)] = some (.str (T l)) := by
  have := join_ok o (l.map fun c => [c]) (by rw [flat_sgs]; exact h)
  rw [List.map_map, flat_sgs] at this
  exact this
theorem src_T {f : M EV} {ρ : Pm.Env} {l : List Nat} {j : Nat} (h : f ρ = .ok (.ref j) ρ) (h2 : ρ.getD j none = some (.str (T l))) (h3 : ρ.set j (some (.str (T l))) = ρ) : srcA f ρ = .ok (l.map sg) ρ := by
  simp only [srcA, bnd, h, use1, h2, D.frz, h3, signsD_T, Pm.ret]
theorem in_ABC (c : Nat) : opIn [sg c, .str ("abcdefghijklmnopqrstuvwxyz" : String)] = some (.bl (Ex.isL c)) := by
  rw [abc_T, in_T, mem_ABC]
theorem letters_ok (l : List Nat) (h : l.length ≤ 100000) : x_letters_in [.str (T l)] = .ret (.str (T (l.filter Ex.isL))) [.str (T l)] := by
  have hs : srcA (loc 0) [some (.str (T l)), none] = .ok (l.map sg) [some (.str (T l)), none] := src_T (j := 0) rfl rfl rfl
  have hc : c_letters_in_1 [some (.str (T l)), none] = .ok (.val (.lst true ((l.filter Ex.isL).map sg))) [some (.str (T l)), none] := by
    unfold c_letters_in_1
    rw [comp_fm _ hs rfl rfl (by rw [List.length_map]; show l.length ≤ 1000000; omega) fun d hd => ?_, fm_sg Ex.isL l]
    obtain ⟨c, hc, rfl⟩ := List.mem_map.mp hd
    refine ⟨_, rfl, ?_⟩
    refine Wp.of (a := Ex.isL c) (ρ' := [some (.str (T l)), some (sg c)]) (by simp [mkF, reFrz, seq, Pm.ite, rtn, mov, asg, drp, sNx, bnd, Pm.bin, Pm.un, app, aCons, aNil, idx, loc, con, Pm.ret, peek1, peeks, itemOf, on2I, iAdd, iSub, iGt, iGe, iLt, iLe, iDiv, iMod, use1, useL, gI, gN, tst, andT, orT, notT, andE, orE, notE, ifE, ixN, D.frz, D.plain, plainL, argsBack, opLen, opAbs, opInt1, opNeg, disp, cap, callF, takes, puts, selA, sel, aApp, par, gT, gsC, gs0, appF, opDivmod, frzL, plainL, in_ABC]) ⟨fun hL => ?_, fun hL => ⟨?_, rfl⟩⟩
    · refine Wp.of (a := .ref 1) (ρ' := [some (.str (T l)), some (sg c)]) rfl ⟨sg c, _, rfl, ?_, rfl⟩
      have e : code (T [c]) = c := rfl
      simp [e, hL]
    · have e : code (T [c]) = c := rfl
      show (if Ex.isL (code (T [c])) = true then _ else none) = none
      rw [e, hL]
      rfl
  have hj := join_sg true (l.filter Ex.isL) (by have := List.length_filter_le Ex.isL l; show _ ≤ 1000000; omega)
  unfold x_letters_in
  refine mkF_rt (ρ := [some (.str (T l)), none]) ?_ rfl
  unfold b_letters_in
  show rtn (smet1 opJoin (con (.str ("" : String))) c_letters_in_1) [some (.str (T l)), none] = _
  generalize c_letters_in_1 = C at hc
  simp [mkF, reFrz, seq, Pm.ite, rtn, mov, asg, drp, sNx, bnd, Pm.bin, Pm.un, app, aCons, aNil, idx, loc, con, Pm.ret, peek1, peeks, itemOf, on2I, iAdd, iSub, iGt, iGe, iLt, iLe, iDiv, iMod, use1, useL, gI, gN, tst, andT, orT, notT, andE, orE, notE, ifE, ixN, D.frz, D.plain, plainL, argsBack, opLen, opAbs, opInt1, opNeg, disp, cap, callF, takes, puts, selA, sel, aApp, par, gT, gsC, gs0, appF, opDivmod, frzL, plainL, smet1, hc, empty_T, hj]
theorem nin_par (c : Nat) : opNotIn [sg c, .node false .tup [.str ("(" : String), .str (")" : String)]] = some (.bl (Ex.nk c)) := by
  rw [opn_T, cls_T]
  show some (D.bl (!inV (.str (T [c])) [.str (T [40]), .str (T [41])])) = _
  have : inV (.str (T [c])) [.str (T [40]), .str (T [41])] = !Ex.nk c := by
    show ((T [40] == T [c]) || ((T [41] == T [c]) || false)) = !Ex.nk c
    rw [T_eq, T_eq]
    unfold Ex.nk
    by_cases h0 : c = 40
    · subst h0; rfl
    · by_cases h1 : c = 41
      · subst h1; rfl
      · simp [h0, h1, Ne.symm h0, Ne.symm h1]
  rw [this, Bool.not_not]
theorem bare_ok (l : List Nat) (h : l.length ≤ 100000) : x_bare [.str (T l)] = .ret (.str (T (l.filter Ex.nk))) [.str (T l)] := by
  have hs : srcA (loc 0) [some (.str (T l)), none] = .ok (l.map sg) [some (.str (T l)), none] := src_T (j := 0) rfl rfl rfl
  have hc : c_bare_1 [some (.str (T l)), none] = .ok (.val (.lst true ((l.filter Ex.nk).map sg))) [some (.str (T l)), none] := by
    unfold c_bare_1
    rw [comp_fm _ hs rfl rfl (by rw [List.length_map]; show l.length ≤ 1000000; omega) fun d hd => ?_, fm_sg Ex.nk l]
    obtain ⟨c, hc, rfl⟩ := List.mem_map.mp hd
    refine ⟨_, rfl, ?_⟩
    refine Wp.of (a := Ex.nk c) (ρ' := [some (.str (T l)), some (sg c)]) (by simp [mkF, reFrz, seq, Pm.ite, rtn, mov, asg, drp, sNx, bnd, Pm.bin, Pm.un, app, aCons, aNil, idx, loc, con, Pm.ret, peek1, peeks, itemOf, on2I, iAdd, iSub, iGt, iGe, iLt, iLe, iDiv, iMod, use1, useL, gI, gN, tst, andT, orT, notT, andE, orE, notE, ifE, ixN, D.frz, D.plain, plainL, argsBack, opLen, opAbs, opInt1, opNeg, disp, cap, callF, takes, puts, selA, sel, aApp, par, gT, gsC, gs0, appF, opDivmod, frzL, plainL, nin_par]) ⟨fun hL => ?_, fun hL => ⟨?_, rfl⟩⟩
    · refine Wp.of (a := .ref 1) (ρ' := [some (.str (T l)), some (sg c)]) rfl ⟨sg c, _, rfl, ?_, rfl⟩
      have e : code (T [c]) = c := rfl
      simp [e, hL]
    · have e : code (T [c]) = c := rfl
      show (if Ex.nk (code (T [c])) = true then _ else none) = none
      rw [e, hL]
      rfl
  have hj := join_sg true (l.filter Ex.nk) (by have := List.length_filter_le Ex.nk l; show _ ≤ 1000000; omega)
  unfold x_bare
  refine mkF_rt (ρ := [some (.str (T l)), none]) ?_ rfl
  unfold b_bare
  show rtn (smet1 opJoin (con (.str ("" : String))) c_bare_1) [some (.str (T l)), none] = _
  generalize c_bare_1 = C at hc
  simp [mkF, reFrz, seq, Pm.ite, rtn, mov, asg, drp, sNx, bnd, Pm.bin, Pm.un, app, aCons, aNil, idx, loc, con, Pm.ret, peek1, peeks, itemOf, on2I, iAdd, iSub, iGt, iGe, iLt, iLe, iDiv, iMod, use1, useL, gI, gN, tst, andT, orT, notT, andE, orE, notE, ifE, ixN, D.frz, D.plain, plainL, argsBack, opLen, opAbs, opInt1, opNeg, disp, cap, callF, takes, puts, selA, sel, aApp, par, gT, gsC, gs0, appF, opDivmod, frzL, plainL, smet1, hc, empty_T, hj]
theorem eq_sg (c : Nat) (k : Nat) : opEq [sg c, .str (T [k])] = some (.bl (decide (c = k))) := by
  rw [eq_T]
  congr 2
  simp
theorem ne_sg (c : Nat) (k : Nat) : opNe [sg c, .str (T [k])] = some (.bl (!decide (c = k))) := by
  rw [ne_TT]
  congr 2
  simp
theorem ints_len (ns : List Int) : (ns.map D.int).length = ns.length := List.length_map _
theorem levels_ok (l : List Nat) (h : l.length ≤ 100000) : x_levels [.str (T l)] = .ret (.tup ((Ex.lev 0 l).map D.int)) [.str (T l)] := by
  have hw : Wf x_levels [.str (T l)] fun d as => d = .tup ((Ex.lev 0 l).map D.int) ∧ as = [.str (T l)] := by
    unfold x_levels
    refine wf_mkF ?_
    unfold b_levels
    show Wp _ [some (.str (T l)), none, none, none] _
    refine wp_seq fun K k1 k2 k3 k4 => ?_
    simp [Wp, mkF, reFrz, seq, Pm.ite, rtn, mov, asg, drp, sNx, bnd, Pm.bin, Pm.un, app, aCons, aNil, idx, loc, con, Pm.ret, peek1, peeks, itemOf, on2I, iAdd, iSub, iGt, iGe, iLt, iLe, iDiv, iMod, use1, useL, gI, gN, tst, andT, orT, notT, andE, orE, notE, ifE, ixN, D.frz, D.plain, plainL, argsBack, opLen, opAbs, opInt1, opNeg, disp, cap, callF, takes, puts, selA, sel, aApp, par, gT, gsC, gs0, appF, opDivmod, frzL, plainL]
    refine k1 _ ?_
    clear k1 k2 k3 k4 K
    refine wp_seq fun K k1 k2 k3 k4 => ?_
    simp [Wp, mkF, reFrz, seq, Pm.ite, rtn, mov, asg, drp, sNx, bnd, Pm.bin, Pm.un, app, aCons, aNil, idx, loc, con, Pm.ret, peek1, peeks, itemOf, on2I, iAdd, iSub, iGt, iGe, iLt, iLe, iDiv, iMod, use1, useL, gI, gN, tst, andT, orT, notT, andE, orE, notE, ifE, ixN, D.frz, D.plain, plainL, argsBack, opLen, opAbs, opInt1, opNeg, disp, cap, callF, takes, puts, selA, sel, aApp, par, gT, gsC, gs0, appF, opDivmod, frzL, plainL]
    refine k1 _ ?_
    clear k1 k2 k3 k4 K
    refine wp_seq fun K k1 k2 k3 k4 => ?_
    have hs : srcA (loc 0) [some (.str (T l)), some (.node true .lst []), some (.int 0), none] = .ok (l.map sg) [some (.str (T l)), some (.node true .lst []), some (.int 0), none] := src_T (j := 0) rfl rfl rfl
    refine wp_for hs (fun j ρ => ∃ (acc : List Int) (d : Int) (x3 : Option D), ρ = [some (.str (T l)), some (.node true .lst (acc.map D.int)), some (.int d), x3] ∧ acc ++ Ex.lev d (l.drop j) = Ex.lev 0 l ∧ acc.length ≤ j) ⟨[], 0, none, rfl, rfl, Nat.le_refl _⟩ ?_ ?_
    · rintro j d ρ hd ⟨acc, dp, x3, rfl, hacc, hal⟩
      have hj : j < l.length := by
        have := (List.getElem?_eq_some_iff.mp hd).1
        simpa using this
      obtain rfl : sg l[j] = d := by rw [get_sg hj] at hd; exact Option.some.inj hd
      refine ⟨_, rfl, ?_⟩
      rw [List.drop_eq_getElem_cons hj] at hacc
      have hcap : (acc.map D.int).length < cap := by rw [List.length_map]; show _ < 1000000; omega
      generalize hc : l[j] = c at *
      unfold b_levels_1
      show Wp _ [some (.str (T l)), some (.node true .lst (acc.map D.int)), some (.int dp), some (sg c)] _
      rw [Ex.lev] at hacc
      by_cases h0 : c = 40
      · subst h0
        rw [if_pos rfl] at hacc
        refine wp_end fun K k1 k2 k3 k4 => ?_
        simp [Wp, mkF, reFrz, seq, Pm.ite, rtn, mov, asg, drp, sNx, bnd, Pm.bin, Pm.un, app, aCons, aNil, idx, loc, con, Pm.ret, peek1, peeks, itemOf, on2I, iAdd, iSub, iGt, iGe, iLt, iLe, iDiv, iMod, use1, useL, gI, gN, tst, andT, orT, notT, andE, orE, notE, ifE, ixN, D.frz, D.plain, plainL, argsBack, opLen, opAbs, opInt1, opNeg, disp, cap, callF, takes, puts, selA, sel, aApp, par, gT, gsC, gs0, appF, opDivmod, frzL, plainL, opn_T, cls_T, dot_T, eq_sg, ne_sg]
        exact k1 _ ⟨acc, _, _, rfl, hacc, by omega⟩
      · rw [if_neg h0] at hacc
        by_cases h1 : c = 41
        · subst h1
          rw [if_pos rfl] at hacc
          refine wp_end fun K k1 k2 k3 k4 => ?_
          simp [Wp, mkF, reFrz, seq, Pm.ite, rtn, mov, asg, drp, sNx, bnd, Pm.bin, Pm.un, app, aCons, aNil, idx, loc, con, Pm.ret, peek1, peeks, itemOf, on2I, iAdd, iSub, iGt, iGe, iLt, iLe, iDiv, iMod, use1, useL, gI, gN, tst, andT, orT, notT, andE, orE, notE, ifE, ixN, D.frz, D.plain, plainL, argsBack, opLen, opAbs, opInt1, opNeg, disp, cap, callF, takes, puts, selA, sel, aApp, par, gT, gsC, gs0, appF, opDivmod, frzL, plainL, opn_T, cls_T, dot_T, eq_sg, ne_sg]
          exact k1 _ ⟨acc, _, _, rfl, hacc, by omega⟩
        · rw [if_neg h1] at hacc
          by_cases h2 : c = 46
          · subst h2
            rw [if_pos rfl] at hacc
            refine wp_end fun K k1 k2 k3 k4 => ?_
            simp [Wp, mkF, reFrz, seq, Pm.ite, rtn, mov, asg, drp, sNx, bnd, Pm.bin, Pm.un, app, aCons, aNil, idx, loc, con, Pm.ret, peek1, peeks, itemOf, on2I, iAdd, iSub, iGt, iGe, iLt, iLe, iDiv, iMod, use1, useL, gI, gN, tst, andT, orT, notT, andE, orE, notE, ifE, ixN, D.frz, D.plain, plainL, argsBack, opLen, opAbs, opInt1, opNeg, disp, cap, callF, takes, puts, selA, sel, aApp, par, gT, gsC, gs0, appF, opDivmod, frzL, plainL, opn_T, cls_T, dot_T, eq_sg, ne_sg]
            exact k1 _ ⟨acc, _, _, rfl, hacc, by omega⟩
          · rw [if_neg h2] at hacc
            have hcap' : acc.length < cap := by rw [List.length_map] at hcap; exact hcap
            refine wp_end fun K k1 k2 k3 k4 => ?_
            simp [Wp, mkF, reFrz, seq, Pm.ite, rtn, mov, asg, drp, sNx, bnd, Pm.bin, Pm.un, app, aCons, aNil, idx, loc, con, Pm.ret, peek1, peeks, itemOf, on2I, iAdd, iSub, iGt, iGe, iLt, iLe, iDiv, iMod, use1, useL, gI, gN, tst, andT, orT, notT, andE, orE, notE, ifE, ixN, D.frz, D.plain, plainL, argsBack, opLen, opAbs, opInt1, opNeg, disp, cap, callF, takes, puts, selA, sel, aApp, par, gT, gsC, gs0, appF, opDivmod, frzL, plainL, opn_T, cls_T, dot_T, eq_sg, ne_sg, h0, h1, h2, appd, hcap']
            refine k1 _ ⟨acc ++ [dp], dp, _, by rw [List.map_append]; rfl, by rw [List.append_assoc]; exact hacc, ?_⟩
            rw [List.length_append, List.length_singleton]
            omega
    · rintro ρ ⟨acc, dp, x3, rfl, hacc, hal⟩
      rw [List.length_map, List.drop_length, Ex.lev, List.append_nil] at hacc
      subst hacc
      refine k1 _ ?_
      clear k1 k2 k3 k4 K
      have pl := plain_ints (Ex.lev 0 l)
      refine wp_end fun K k1 k2 k3 k4 => ?_
      simp [Wp, mkF, reFrz, seq, Pm.ite, rtn, mov, asg, drp, sNx, bnd, Pm.bin, Pm.un, app, aCons, aNil, idx, loc, con, Pm.ret, peek1, peeks, itemOf, on2I, iAdd, iSub, iGt, iGe, iLt, iLe, iDiv, iMod, use1, useL, gI, gN, tst, andT, orT, notT, andE, orE, notE, ifE, ixN, D.frz, D.plain, plainL, argsBack, opLen, opAbs, opInt1, opNeg, disp, cap, callF, takes, puts, selA, sel, aApp, par, gT, gsC, gs0, appF, opDivmod, frzL, plainL, opTuple, pl]
      exact k2 _ _ ⟨_, rfl, rfl, rfl⟩
  obtain ⟨d, as, e, rfl, rfl⟩ := hw
  exact e
def cntD : Option (Nat × Nat) → D
  | none => .non
  | some (o, p) => .tup [.int (o : Int), .int (p : Int)]
theorem counts_ok (l : List Nat) (h : l.length ≤ 100000) : x_counts_in [.str (T l)] = .ret (cntD (Ex.counts l)) [.str (T l)] := by
  have hw : Wf x_counts_in [.str (T l)] fun d as => d = cntD (Ex.counts l) ∧ as = [.str (T l)] := by
    unfold x_counts_in
    refine wf_mkF ?_
    unfold b_counts_in
    show Wp _ [some (.str (T l)), none, none, none, none, none] _
    refine wp_seq fun K k1 k2 k3 k4 => ?_
    simp [Wp, mkF, reFrz, seq, Pm.ite, rtn, mov, asg, drp, sNx, bnd, Pm.bin, Pm.un, app, aCons, aNil, idx, loc, con, Pm.ret, peek1, peeks, itemOf, on2I, iAdd, iSub, iGt, iGe, iLt, iLe, iDiv, iMod, use1, useL, gI, gN, tst, andT, orT, notT, andE, orE, notE, ifE, ixN, D.frz, D.plain, plainL, argsBack, opLen, opAbs, opInt1, opNeg, disp, cap, callF, takes, puts, selA, sel, aApp, par, gT, gsC, gs0, appF, opDivmod, frzL, plainL, asg3]
    refine k1 _ ?_
    clear k1 k2 k3 k4 K
    refine wp_seq fun K k1 k2 k3 k4 => ?_
    simp [Wp, mkF, reFrz, seq, Pm.ite, rtn, mov, asg, drp, sNx, bnd, Pm.bin, Pm.un, app, aCons, aNil, idx, loc, con, Pm.ret, peek1, peeks, itemOf, on2I, iAdd, iSub, iGt, iGe, iLt, iLe, iDiv, iMod, use1, useL, gI, gN, tst, andT, orT, notT, andE, orE, notE, ifE, ixN, D.frz, D.plain, plainL, argsBack, opLen, opAbs, opInt1, opNeg, disp, cap, callF, takes, puts, selA, sel, aApp, par, gT, gsC, gs0, appF, opDivmod, frzL, plainL]
    refine k1 _ ?_
    clear k1 k2 k3 k4 K
    refine wp_seq fun K0 j1 j2 j3 j4 => ?_
    have hs : srcA (loc 0) [some (.str (T l)), some (.int 0), some (.int 0), some (.int 0), some (.bl true), none] = .ok (l.map sg) [some (.str (T l)), some (.int 0), some (.int 0), some (.int 0), some (.bl true), none] := src_T (j := 0) rfl rfl rfl
    refine wp_for hs (fun j ρ => ∃ (o p d : Nat) (w : Bool) (x5 : Option D), ρ = [some (.str (T l)), some (.int (o : Int)), some (.int (p : Int)), some (.int (d : Int)), some (.bl w), x5] ∧ Ex.scan (o, p, d, w) (l.drop j) = Ex.scan (0, 0, 0, true) l) ⟨0, 0, 0, true, none, rfl, rfl⟩ ?_ ?_
    · rintro j d ρ hd ⟨o, p, dp, w, x5, rfl, hsc⟩
      have hj : j < l.length := by
        have := (List.getElem?_eq_some_iff.mp hd).1
        simpa using this
      obtain rfl : sg l[j] = d := by rw [get_sg hj] at hd; exact Option.some.inj hd
      refine ⟨_, rfl, ?_⟩
      rw [List.drop_eq_getElem_cons hj] at hsc
      generalize hc : l[j] = c at *
      have hbad : Ex.cstep (o, p, dp, w) c = none → Fin [] [.str (T l)] (fun d as => d = cntD (Ex.counts l) ∧ as = [.str (T l)]) (.rt .non) [some (.str (T l)), some (.int (o : Int)), some (.int (p : Int)), some (.int (dp : Int)), some (.bl w), some (sg c)] := fun q => by
        have e : Ex.counts l = none := by
          unfold Ex.counts
          rw [← hsc, Ex.scan, q]
        exact ⟨_, rfl, by rw [e]; rfl, rfl⟩
      have hgo : ∀ o' p' d' w', Ex.cstep (o, p, dp, w) c = some (o', p', d', w') → Ex.scan (o', p', d', w') (l.drop (j + 1)) = Ex.scan (0, 0, 0, true) l := fun o' p' d' w' q => by
        rw [← hsc, Ex.scan, q]
      clear hsc
      unfold b_counts_in_1
      show Wp _ [some (.str (T l)), some (.int (o : Int)), some (.int (p : Int)), some (.int (dp : Int)), some (.bl w), some (sg c)] _
      cases w with
      | true =>
        by_cases h0 : c = 40
        · subst h0
          refine wp_end fun K k1 k2 k3 k4 => ?_
          simp [Wp, mkF, reFrz, seq, Pm.ite, rtn, mov, asg, drp, sNx, bnd, Pm.bin, Pm.un, app, aCons, aNil, idx, loc, con, Pm.ret, peek1, peeks, itemOf, on2I, iAdd, iSub, iGt, iGe, iLt, iLe, iDiv, iMod, use1, useL, gI, gN, tst, andT, orT, notT, andE, orE, notE, ifE, ixN, D.frz, D.plain, plainL, argsBack, opLen, opAbs, opInt1, opNeg, disp, cap, callF, takes, puts, selA, sel, aApp, par, gT, gsC, gs0, appF, opDivmod, frzL, plainL, opn_T, cls_T, dot_T, eq_sg]
          exact k1 _ ⟨o, p + 1, dp + 1, true, _, rfl, hgo _ _ _ _ rfl⟩
        · by_cases h1 : c = 46
          · subst h1
            refine wp_end fun K k1 k2 k3 k4 => ?_
            simp [Wp, mkF, reFrz, seq, Pm.ite, rtn, mov, asg, drp, sNx, bnd, Pm.bin, Pm.un, app, aCons, aNil, idx, loc, con, Pm.ret, peek1, peeks, itemOf, on2I, iAdd, iSub, iGt, iGe, iLt, iLe, iDiv, iMod, use1, useL, gI, gN, tst, andT, orT, notT, andE, orE, notE, ifE, ixN, D.frz, D.plain, plainL, argsBack, opLen, opAbs, opInt1, opNeg, disp, cap, callF, takes, puts, selA, sel, aApp, par, gT, gsC, gs0, appF, opDivmod, frzL, plainL, opn_T, cls_T, dot_T, eq_sg]
            exact k1 _ ⟨o, p, dp, false, _, rfl, hgo _ _ _ _ rfl⟩
          · have hn : Ex.cstep (o, p, dp, true) c = none := by
              show (if c = 40 then some (o, p + 1, dp + 1, true) else if c = 46 then some (o, p, dp, false) else none) = none
              rw [if_neg h0, if_neg h1]
            refine wp_end fun K k1 k2 k3 k4 => ?_
            simp [Wp, mkF, reFrz, seq, Pm.ite, rtn, mov, asg, drp, sNx, bnd, Pm.bin, Pm.un, app, aCons, aNil, idx, loc, con, Pm.ret, peek1, peeks, itemOf, on2I, iAdd, iSub, iGt, iGe, iLt, iLe, iDiv, iMod, use1, useL, gI, gN, tst, andT, orT, notT, andE, orE, notE, ifE, ixN, D.frz, D.plain, plainL, argsBack, opLen, opAbs, opInt1, opNeg, disp, cap, callF, takes, puts, selA, sel, aApp, par, gT, gsC, gs0, appF, opDivmod, frzL, plainL, opn_T, cls_T, dot_T, eq_sg, h0, h1]
            exact k2 _ _ (j2 _ _ (hbad hn))
      | false =>
        by_cases h0 : c = 41
        · subst h0
          by_cases hd : 0 < dp
          · have hq : (dp : Int) - 1 = ((dp - 1 : Nat) : Int) := by omega
            refine wp_end fun K k1 k2 k3 k4 => ?_
            simp [Wp, mkF, reFrz, seq, Pm.ite, rtn, mov, asg, drp, sNx, bnd, Pm.bin, Pm.un, app, aCons, aNil, idx, loc, con, Pm.ret, peek1, peeks, itemOf, on2I, iAdd, iSub, iGt, iGe, iLt, iLe, iDiv, iMod, use1, useL, gI, gN, tst, andT, orT, notT, andE, orE, notE, ifE, ixN, D.frz, D.plain, plainL, argsBack, opLen, opAbs, opInt1, opNeg, disp, cap, callF, takes, puts, selA, sel, aApp, par, gT, gsC, gs0, appF, opDivmod, frzL, plainL, opn_T, cls_T, dot_T, eq_sg, opGtA_ii, hd]
            exact k1 _ ⟨o, p, dp - 1, false, _, by rw [hq], hgo _ _ _ _ (by show (if 41 = 41 ∧ 0 < dp then _ else _) = _; rw [if_pos ⟨rfl, hd⟩])⟩
          · have hn : Ex.cstep (o, p, dp, false) 41 = none := by
              show (if 41 = 41 ∧ 0 < dp then some (o, p, dp - 1, false) else if Ex.isL 41 = true then some (o + 1, p, dp, true) else none) = none
              rw [if_neg fun q => hd q.2]
              rfl
            have hi : opIn [sg 41, .str ("abcdefghijklmnopqrstuvwxyz" : String)] = some (.bl false) := in_ABC 41
            refine wp_end fun K k1 k2 k3 k4 => ?_
            simp [Wp, mkF, reFrz, seq, Pm.ite, rtn, mov, asg, drp, sNx, bnd, Pm.bin, Pm.un, app, aCons, aNil, idx, loc, con, Pm.ret, peek1, peeks, itemOf, on2I, iAdd, iSub, iGt, iGe, iLt, iLe, iDiv, iMod, use1, useL, gI, gN, tst, andT, orT, notT, andE, orE, notE, ifE, ixN, D.frz, D.plain, plainL, argsBack, opLen, opAbs, opInt1, opNeg, disp, cap, callF, takes, puts, selA, sel, aApp, par, gT, gsC, gs0, appF, opDivmod, frzL, plainL, opn_T, cls_T, dot_T, eq_sg, opGtA_ii, hd, hi]
            exact k2 _ _ (j2 _ _ (hbad hn))
        · cases hL : Ex.isL c with
          | true =>
            refine wp_end fun K k1 k2 k3 k4 => ?_
            simp [Wp, mkF, reFrz, seq, Pm.ite, rtn, mov, asg, drp, sNx, bnd, Pm.bin, Pm.un, app, aCons, aNil, idx, loc, con, Pm.ret, peek1, peeks, itemOf, on2I, iAdd, iSub, iGt, iGe, iLt, iLe, iDiv, iMod, use1, useL, gI, gN, tst, andT, orT, notT, andE, orE, notE, ifE, ixN, D.frz, D.plain, plainL, argsBack, opLen, opAbs, opInt1, opNeg, disp, cap, callF, takes, puts, selA, sel, aApp, par, gT, gsC, gs0, appF, opDivmod, frzL, plainL, opn_T, cls_T, dot_T, eq_sg, opGtA_ii, h0, in_ABC, hL]
            exact k1 _ ⟨o + 1, p, dp, true, _, rfl, hgo _ _ _ _ (by
              show (if c = 41 ∧ 0 < dp then some (o, p, dp - 1, false) else if Ex.isL c = true then some (o + 1, p, dp, true) else none) = _
              rw [if_neg fun q => h0 q.1, if_pos hL])⟩
          | false =>
            have hn : Ex.cstep (o, p, dp, false) c = none := by
              show (if c = 41 ∧ 0 < dp then some (o, p, dp - 1, false) else if Ex.isL c = true then some (o + 1, p, dp, true) else none) = none
              rw [if_neg fun q => h0 q.1, hL]
              rfl
            refine wp_end fun K k1 k2 k3 k4 => ?_
            simp [Wp, mkF, reFrz, seq, Pm.ite, rtn, mov, asg, drp, sNx, bnd, Pm.bin, Pm.un, app, aCons, aNil, idx, loc, con, Pm.ret, peek1, peeks, itemOf, on2I, iAdd, iSub, iGt, iGe, iLt, iLe, iDiv, iMod, use1, useL, gI, gN, tst, andT, orT, notT, andE, orE, notE, ifE, ixN, D.frz, D.plain, plainL, argsBack, opLen, opAbs, opInt1, opNeg, disp, cap, callF, takes, puts, selA, sel, aApp, par, gT, gsC, gs0, appF, opDivmod, frzL, plainL, opn_T, cls_T, dot_T, eq_sg, opGtA_ii, h0, in_ABC, hL]
            exact k2 _ _ (j2 _ _ (hbad hn))
    · rintro ρ ⟨o, p, d, w, x5, rfl, hsc⟩
      rw [List.length_map, List.drop_length, Ex.scan] at hsc
      refine j1 _ ?_
      clear j1 j2 j3 j4 K0
      have e : Ex.counts l = if w = true ∨ 0 < d then none else some (o, p) := by
        unfold Ex.counts
        rw [← hsc]
      rw [e]
      clear e hsc hs
      cases w with
      | true =>
        refine wp_end fun K k1 k2 k3 k4 => ?_
        simp [Wp, mkF, reFrz, seq, Pm.ite, rtn, mov, asg, drp, sNx, bnd, Pm.bin, Pm.un, app, aCons, aNil, idx, loc, con, Pm.ret, peek1, peeks, itemOf, on2I, iAdd, iSub, iGt, iGe, iLt, iLe, iDiv, iMod, use1, useL, gI, gN, tst, andT, orT, notT, andE, orE, notE, ifE, ixN, D.frz, D.plain, plainL, argsBack, opLen, opAbs, opInt1, opNeg, disp, cap, callF, takes, puts, selA, sel, aApp, par, gT, gsC, gs0, appF, opDivmod, frzL, plainL]
        exact k2 _ _ ⟨_, rfl, rfl, rfl⟩
      | false =>
        by_cases hd : 0 < d
        · refine wp_end fun K k1 k2 k3 k4 => ?_
          simp [Wp, mkF, reFrz, seq, Pm.ite, rtn, mov, asg, drp, sNx, bnd, Pm.bin, Pm.un, app, aCons, aNil, idx, loc, con, Pm.ret, peek1, peeks, itemOf, on2I, iAdd, iSub, iGt, iGe, iLt, iLe, iDiv, iMod, use1, useL, gI, gN, tst, andT, orT, notT, andE, orE, notE, ifE, ixN, D.frz, D.plain, plainL, argsBack, opLen, opAbs, opInt1, opNeg, disp, cap, callF, takes, puts, selA, sel, aApp, par, gT, gsC, gs0, appF, opDivmod, frzL, plainL, opGtA_ii, hd]
          exact k2 _ _ ⟨_, rfl, by simp [hd, cntD], rfl⟩
        · refine wp_end fun K k1 k2 k3 k4 => ?_
          simp [Wp, mkF, reFrz, seq, Pm.ite, rtn, mov, asg, drp, sNx, bnd, Pm.bin, Pm.un, app, aCons, aNil, idx, loc, con, Pm.ret, peek1, peeks, itemOf, on2I, iAdd, iSub, iGt, iGe, iLt, iLe, iDiv, iMod, use1, useL, gI, gN, tst, andT, orT, notT, andE, orE, notE, ifE, ixN, D.frz, D.plain, plainL, argsBack, opLen, opAbs, opInt1, opNeg, disp, cap, callF, takes, puts, selA, sel, aApp, par, gT, gsC, gs0, appF, opDivmod, frzL, plainL, opGtA_ii, hd]
          exact k2 _ _ ⟨_, rfl, by simp [hd, cntD], rfl⟩
  obtain ⟨d, as, e, rfl, rfl⟩ := hw
  exact e
def isEx (l : List Nat) : Bool := match Ex.counts l with
  | none => false
  | some (o, p) => decide (o ≤ 200) && decide (p ≤ 200)
theorem isexp_T (l : List Nat) (h : l.length ≤ 100000) : x_is_expression [.str (T l)] = .ret (.bl (isEx l)) [.str (T l)] := by
  have hc := counts_ok l h
  have t1 := isi_str (d := .str (T l)) rfl
  have hw : Wf x_is_expression [.str (T l)] fun d as => d = .bl (isEx l) ∧ as = [.str (T l)] := by
    unfold x_is_expression
    refine wf_mkF ?_
    unfold b_is_expression
    show Wp _ [some (.str (T l)), none] _
    unfold isEx
    generalize Ex.counts l = cn at *
    cases cn with
    | none =>
      refine wp_seq fun K k1 k2 k3 k4 => ?_
      simp [Wp, mkF, reFrz, seq, Pm.ite, rtn, mov, asg, drp, sNx, bnd, Pm.bin, Pm.un, app, aCons, aNil, idx, loc, con, Pm.ret, peek1, peeks, itemOf, on2I, iAdd, iSub, iGt, iGe, iLt, iLe, iDiv, iMod, use1, useL, gI, gN, tst, andT, orT, notT, andE, orE, notE, ifE, ixN, D.frz, D.plain, plainL, argsBack, opLen, opAbs, opInt1, opNeg, disp, cap, callF, takes, puts, selA, sel, aApp, par, gT, gsC, gs0, appF, opDivmod, frzL, plainL, t1, isStr, hc, cntD]
      refine k1 _ ?_
      clear k1 k2 k3 k4 K
      refine wp_end fun K k1 k2 k3 k4 => ?_
      simp [Wp, mkF, reFrz, seq, Pm.ite, rtn, mov, asg, drp, sNx, bnd, Pm.bin, Pm.un, app, aCons, aNil, idx, loc, con, Pm.ret, peek1, peeks, itemOf, on2I, iAdd, iSub, iGt, iGe, iLt, iLe, iDiv, iMod, use1, useL, gI, gN, tst, andT, orT, notT, andE, orE, notE, ifE, ixN, D.frz, D.plain, plainL, argsBack, opLen, opAbs, opInt1, opNeg, disp, cap, callF, takes, puts, selA, sel, aApp, par, gT, gsC, gs0, appF, opDivmod, frzL, plainL, notN_non]
      exact k2 _ _ ⟨_, rfl, rfl, rfl⟩
    | some q =>
      obtain ⟨o, p⟩ := q
      refine wp_seq fun K k1 k2 k3 k4 => ?_
      simp [Wp, mkF, reFrz, seq, Pm.ite, rtn, mov, asg, drp, sNx, bnd, Pm.bin, Pm.un, app, aCons, aNil, idx, loc, con, Pm.ret, peek1, peeks, itemOf, on2I, iAdd, iSub, iGt, iGe, iLt, iLe, iDiv, iMod, use1, useL, gI, gN, tst, andT, orT, notT, andE, orE, notE, ifE, ixN, D.frz, D.plain, plainL, argsBack, opLen, opAbs, opInt1, opNeg, disp, cap, callF, takes, puts, selA, sel, aApp, par, gT, gsC, gs0, appF, opDivmod, frzL, plainL, t1, isStr, hc, cntD]
      refine k1 _ ?_
      clear k1 k2 k3 k4 K
      have hn : opNotN [.node false .tup [.int (o : Int), .int (p : Int)], .non] = some (.bl true) := rfl
      by_cases ho : o ≤ 200
      · have ho' : (o : Int) ≤ 200 := by omega
        refine wp_end fun K k1 k2 k3 k4 => ?_
        simp [Wp, mkF, reFrz, seq, Pm.ite, rtn, mov, asg, drp, sNx, bnd, Pm.bin, Pm.un, app, aCons, aNil, idx, loc, con, Pm.ret, peek1, peeks, itemOf, on2I, iAdd, iSub, iGt, iGe, iLt, iLe, iDiv, iMod, use1, useL, gI, gN, tst, andT, orT, notT, andE, orE, notE, ifE, ixN, D.frz, D.plain, plainL, argsBack, opLen, opAbs, opInt1, opNeg, disp, cap, callF, takes, puts, selA, sel, aApp, par, gT, gsC, gs0, appF, opDivmod, frzL, plainL, hn, opLeA_ii, ho']
        exact k2 _ _ ⟨_, rfl, by simp [ho]; omega, rfl⟩
      · have ho' : ¬ (o : Int) ≤ 200 := by omega
        refine wp_end fun K k1 k2 k3 k4 => ?_
        simp [Wp, mkF, reFrz, seq, Pm.ite, rtn, mov, asg, drp, sNx, bnd, Pm.bin, Pm.un, app, aCons, aNil, idx, loc, con, Pm.ret, peek1, peeks, itemOf, on2I, iAdd, iSub, iGt, iGe, iLt, iLe, iDiv, iMod, use1, useL, gI, gN, tst, andT, orT, notT, andE, orE, notE, ifE, ixN, D.frz, D.plain, plainL, argsBack, opLen, opAbs, opInt1, opNeg, disp, cap, callF, takes, puts, selA, sel, aApp, par, gT, gsC, gs0, appF, opDivmod, frzL, plainL, hn, opLeA_ii, ho']
        exact k2 _ _ ⟨_, rfl, by simp [ho], rfl⟩
  obtain ⟨d, as, e, rfl, rfl⟩ := hw
  exact e
theorem isexp_non {d : D} (hp : d.plain = true) (ht : (tyN d).isSome = true) (hs : isStr d = false) : x_is_expression [d] = .ret (.bl false) [d] := by
  have t1 := isi_str ht
  rw [hs] at t1
  have hw : Wf x_is_expression [d] fun r as => r = .bl false ∧ as = [d] := by
    unfold x_is_expression
    refine wf_mkF ?_
    unfold b_is_expression
    show Wp _ [some d, none] _
    refine wp_seq fun K k1 k2 k3 k4 => ?_
    simp [Wp, mkF, reFrz, seq, Pm.ite, rtn, mov, asg, drp, sNx, bnd, Pm.bin, Pm.un, app, aCons, aNil, idx, loc, con, Pm.ret, peek1, peeks, itemOf, on2I, iAdd, iSub, iGt, iGe, iLt, iLe, iDiv, iMod, use1, useL, gI, gN, tst, andT, orT, notT, andE, orE, notE, ifE, ixN, D.frz, D.plain, plainL, argsBack, opLen, opAbs, opInt1, opNeg, disp, cap, callF, takes, puts, selA, sel, aApp, par, gT, gsC, gs0, appF, opDivmod, frzL, plainL, t1]
    refine k1 _ ?_
    clear k1 k2 k3 k4 K
    refine wp_end fun K k1 k2 k3 k4 => ?_
    simp [Wp, mkF, reFrz, seq, Pm.ite, rtn, mov, asg, drp, sNx, bnd, Pm.bin, Pm.un, app, aCons, aNil, idx, loc, con, Pm.ret, peek1, peeks, itemOf, on2I, iAdd, iSub, iGt, iGe, iLt, iLe, iDiv, iMod, use1, useL, gI, gN, tst, andT, orT, notT, andE, orE, notE, ifE, ixN, D.frz, D.plain, plainL, argsBack, opLen, opAbs, opInt1, opNeg, disp, cap, callF, takes, puts, selA, sel, aApp, par, gT, gsC, gs0, appF, opDivmod, frzL, plainL, notN_non]
    exact k2 _ _ ⟨[d], by simp [argsBack, reFrz, hp], rfl, rfl⟩
  obtain ⟨r, as, e, rfl, rfl⟩ := hw
  exact e
/-! ### texts that are shown -/
theorem strOk_T {l : List Nat} (h : ∀ c ∈ l, c < 1114112) : PyData.strOk (T l) = true := by
  unfold PyData.strOk
  rw [Array.all_eq_true']
  intro c hc
  exact decide_eq_true (h c (by simpa [T] using hc))
theorem okS_lt {c : Nat} (h : Ex.okS c) : c < 1114112 := by
  rcases h with h | rfl | rfl | rfl
  · unfold Ex.isL at h
    rw [Bool.and_eq_true, decide_eq_true_eq, decide_eq_true_eq] at h
    omega
  · decide
  · decide
  · decide
theorem cnt_T (l : List Nat) (c : Nat) : opCountS [.str (T l), .str (T [c])] = some (.int (l.count c : Nat)) := by
  show some (D.int (Txt.count (T l) (T [c]))) = _
  rw [count_T]
theorem take_T {l : List Nat} (h : l.length ≤ cap) (k : Nat) : gCut none (some (k : Int)) (.str (T l)) = some (.str (T (l.take k))) := by
  rw [gCut_T h, slL_to]
theorem drop_T {l : List Nat} (h : l.length ≤ cap) (k : Nat) : gCut (some (k : Int)) none (.str (T l)) = some (.str (T (l.drop k))) := by
  rw [gCut_T h, slL_from]
theorem low_ints {n : Nat} {xs : List Int} (h : ∀ x ∈ xs, Sm 199 x) : (xs.map D.int).all (low n) = true := by
  rw [List.all_eq_true]
  intro d hd
  obtain ⟨x, hx, rfl⟩ := List.mem_map.mp hd
  exact (h x hx).low (by decide) n
theorem mass_ints (xs : List Int) : massL (xs.map D.int) = xs.length := by
  induction xs with
  | nil => rfl
  | cons x xs ih => rw [List.map_cons, massL_cons, ih, mass_int, List.length_cons]; omega
theorem deqL_refl {xs : List D} (h : ∀ x ∈ xs, deq x x = true) : deqL xs xs = true := by
  induction xs with
  | nil => rfl
  | cons x xs ih => rw [deqL, h x (by simp), ih fun y hy => h y (by simp [hy])]; rfl
theorem deq_refl : ∀ (n : Nat) (d : D), shp n d = true → deq d d = true := by
  intro n
  induction n with
  | zero =>
    intro d h
    cases d with
    | node o k xs => cases k <;> simp [shp] at h
    | op v => simp [shp] at h
    | _ => simp [deq]
  | succ n ih =>
    intro d h
    cases d with
    | node o k xs =>
      cases k with
      | lst =>
        simp only [shp, List.all_eq_true] at h
        simp only [deq]
        exact deqL_refl fun x hx => ih x (h x hx)
      | tup =>
        simp only [shp, List.all_eq_true] at h
        simp only [deq]
        exact deqL_refl fun x hx => ih x (h x hx)
      | _ => simp [shp] at h
    | op v => simp [shp] at h
    | _ => simp [deq]
theorem eq_refl {d : D} (h : shp 60 d = true) : opEq [d, d] = some (.bl true) := by
  have h1 := deq_refl 60 d h
  have h2 : opEqD [d, d] = some (.bl true) := by
    show (if (shp 60 d && shp 60 d) = true then some (D.bl (deq d d)) else none) = _
    rw [h, h1]
    rfl
  cases d with
  | str x => rw [eq_ss]; simp
  | _ => exact h2
theorem eq_ints (o : Bool) (xs : List Int) : opEq [.node o .tup (xs.map D.int), .node o .tup (xs.map D.int)] = some (.bl true) := eq_refl (show (xs.map D.int).all (shp 59) = true from shp_ints 59 xs)
end Pg
/-! ExC: every text that scans is an expression's; redexes (plain law). -/
namespace Ex
/-! ### whatever scans is a text of an expression -/
abbrev Fr := List (Op × Nat)
def ft (F : Fr) : List Nat := F.flatMap fun p => p.1.text ++ [p.2]
def mk : Fr → Op → E
  | [], o => .one o
  | (p, c) :: F, o => .cons p c (mk F o)
theorem mk_text : ∀ (F : Fr) (o : Op), (mk F o).text = ft F ++ o.text
  | [], o => rfl
  | (p, c) :: F, o => by
    show p.text ++ c :: (mk F o).text = _
    rw [mk_text F o]
    simp [ft]
def stx : List Fr → List Nat
  | [] => []
  | F :: S => stx S ++ ft F ++ [40]
def lastT : Option Op → List Nat
  | none => []
  | some o => o.text
def gF (F : Fr) : Prop := ∀ p ∈ F, isL p.2 = true ∧ ∀ c ∈ p.1.lets, isL c = true
def gL : Option Op → Prop
  | none => True
  | some o => ∀ c ∈ o.lets, isL c = true
theorem mk_lets : ∀ (F : Fr) (o : Op), gF F → (∀ c ∈ o.lets, isL c = true) → ∀ c ∈ (mk F o).lets, isL c = true
  | [], o, _, ho, c, hc => ho c hc
  | (p, d) :: F, o, hF, ho, c, hc => by
    simp only [mk, E.lets, List.mem_append, List.mem_cons] at hc
    have h1 := hF (p, d) (by simp)
    rcases hc with hc | hc | hc
    · exact h1.2 c hc
    · rw [hc]; exact h1.1
    · exact mk_lets F o (fun q hq => hF q (by simp [hq])) ho c hc
theorem complete_st : ∀ (l : List Nat) (S : List Fr) (F : Fr) (la : Option Op) (o p : Nat) (s' : St), scan (o, p, S.length, la.isNone) l = some s' → (∀ G ∈ S, gF G) → gF F → gL la →
    ∃ S' F' la', gF F' ∧ gL la' ∧ s'.2.2.1 = S'.length ∧ s'.2.2.2 = la'.isNone ∧ stx S ++ ft F ++ lastT la ++ l = stx S' ++ ft F' ++ lastT la'
  | [], S, F, la, o, p, s', h, g1, g2, g3 => by
    simp only [scan, Option.some.injEq] at h
    subst h
    exact ⟨S, F, la, g2, g3, rfl, rfl, by simp⟩
  | c :: r, S, F, none, o, p, s', h, g1, g2, g3 => by
    rw [scan] at h
    have ec : cstep (o, p, S.length, (none : Option Op).isNone) c = if c = 40 then some (o, p + 1, S.length + 1, true) else if c = 46 then some (o, p, S.length, false) else none := rfl
    rw [ec] at h
    by_cases h0 : c = 40
    · subst h0
      rw [if_pos rfl] at h
      obtain ⟨S', F', la', b1, b2, a1, a2, a3⟩ := complete_st r (F :: S) [] none o (p + 1) s' h (fun G hG => (List.mem_cons.mp hG).elim (fun e => by rw [e]; exact g2) (g1 G)) (fun q hq => by simp at hq) trivial
      exact ⟨S', F', la', b1, b2, a1, a2, by rw [← a3]; simp [stx, ft, lastT]⟩
    · rw [if_neg h0] at h
      by_cases h1 : c = 46
      · subst h1
        rw [if_pos rfl] at h
        obtain ⟨S', F', la', b1, b2, a1, a2, a3⟩ := complete_st r S F (some .dot) o p s' h g1 g2 (fun q hq => by simp [Op.lets] at hq)
        exact ⟨S', F', la', b1, b2, a1, a2, by rw [← a3]; simp [lastT, Op.text]⟩
      · rw [if_neg h1] at h
        cases h
  | c :: r, S, F, some x, o, p, s', h, g1, g2, g3 => by
    rw [scan] at h
    have ec : cstep (o, p, S.length, (some x).isNone) c = if c = 41 ∧ 0 < S.length then some (o, p, S.length - 1, false) else if isL c = true then some (o + 1, p, S.length, true) else none := rfl
    rw [ec] at h
    by_cases h0 : c = 41 ∧ 0 < S.length
    · rw [if_pos h0] at h
      obtain ⟨rfl, hS⟩ := h0
      cases S with
      | nil => simp at hS
      | cons F0 S0 =>
        obtain ⟨S', F', la', b1, b2, a1, a2, a3⟩ := complete_st r S0 F0 (some (.par (mk F x))) o p s' h (fun G hG => g1 G (by simp [hG])) (g1 F0 (by simp)) (mk_lets F x g2 g3)
        exact ⟨S', F', la', b1, b2, a1, a2, by rw [← a3]; simp [stx, lastT, Op.text, mk_text]⟩
    · rw [if_neg h0] at h
      by_cases h1 : isL c = true
      · rw [if_pos h1] at h
        obtain ⟨S', F', la', b1, b2, a1, a2, a3⟩ := complete_st r S (F ++ [(x, c)]) none (o + 1) p s' h g1 (fun q hq => (List.mem_append.mp hq).elim (g2 q) fun q2 => by rw [List.mem_singleton.mp q2]; exact ⟨h1, g3⟩) trivial
        exact ⟨S', F', la', b1, b2, a1, a2, by rw [← a3]; simp [lastT, ft]⟩
      · rw [if_neg h1] at h
        cases h
/-- signs that scan -/
theorem scan_okS : ∀ (l : List Nat) (s s' : St), scan s l = some s' → ∀ c ∈ l, okS c
  | [], _, _, _, c, hc => by simp at hc
  | x :: r, (o, p, d, w), s', h, c, hc => by
    rw [scan] at h
    cases e : cstep (o, p, d, w) x with
    | none => rw [e] at h; cases h
    | some s1 =>
      rw [e] at h
      rcases List.mem_cons.mp hc with rfl | hc
      · cases w with
        | true =>
          have ec : cstep (o, p, d, true) c = if c = 40 then some (o, p + 1, d + 1, true) else if c = 46 then some (o, p, d, false) else none := rfl
          rw [ec] at e
          by_cases h0 : c = 40
          · exact .inr (.inl h0)
          · rw [if_neg h0] at e
            by_cases h1 : c = 46
            · exact .inr (.inr (.inr h1))
            · rw [if_neg h1] at e; cases e
        | false =>
          have ec : cstep (o, p, d, false) c = if c = 41 ∧ 0 < d then some (o, p, d - 1, false) else if isL c = true then some (o + 1, p, d, true) else none := rfl
          rw [ec] at e
          by_cases h0 : c = 41 ∧ 0 < d
          · exact .inr (.inr (.inl h0.1))
          · rw [if_neg h0] at e
            by_cases h1 : isL c = true
            · exact .inl h1
            · rw [if_neg h1] at e; cases e
      · exact scan_okS r s1 s' h c hc
mutual
theorem Op.lets_mem : ∀ (x : Op), ∀ c ∈ x.lets, c ∈ x.text
  | .dot, c, h => by simp [Op.lets] at h
  | .par e, c, h => by
    simp only [Op.text, List.mem_cons, List.mem_append]
    exact .inr (.inl (E.lets_mem e c h))
theorem E.lets_mem : ∀ (e : E), ∀ c ∈ e.lets, c ∈ e.text
  | .one x, c, h => Op.lets_mem x c h
  | .cons x d e, c, h => by
    simp only [E.lets, List.mem_append, List.mem_cons] at h
    simp only [E.text, List.mem_append, List.mem_cons]
    rcases h with h | h | h
    · exact .inl (Op.lets_mem x c h)
    · exact .inr (.inl h)
    · exact .inr (.inr (E.lets_mem e c h))
end
/-- letters that a scan met where it wants an operator -/
theorem counts_some {l : List Nat} {o p : Nat} (h : counts l = some (o, p)) : ∃ e : E, e.text = l ∧ (∀ c ∈ e.lets, isL c = true) ∧ o = e.lets.length ∧ p = e.prs := by
  have h' := h
  unfold counts at h
  cases e : scan (0, 0, 0, true) l with
  | none => rw [e] at h; cases h
  | some s =>
    obtain ⟨o', p', d, w⟩ := s
    rw [e] at h
    simp only at h
    split at h
    · cases h
    · rename_i hn
      obtain ⟨S', F', la', b1, b2, a1, a2, a3⟩ := complete_st l [] [] none 0 0 _ e (fun G hG => by simp at hG) (fun q hq => by simp at hq) trivial
      simp only at a1 a2
      have hd : d = 0 := by omega
      subst hd
      have hS : S' = [] := List.length_eq_zero_iff.mp a1.symm
      subst hS
      cases la' with
      | none => exact absurd (.inl a2) hn
      | some x =>
        have ht : (mk F' x).text = l := by
          rw [mk_text]
          have : stx [] ++ ft [] ++ lastT none ++ l = l := by simp [stx, ft, lastT]
          rw [this] at a3
          rw [a3]
          simp [stx, lastT]
        have hL := mk_lets F' x b1 b2
        have hc := counts_text hL
        rw [ht, h'] at hc
        cases hc
        exact ⟨mk F' x, ht, hL, rfl, rfl⟩
/-! ### signs that fold -/
def dstep : Nat × Bool → Nat → Option (Nat × Bool)
  | (d, true), c => if c = 40 then some (d + 1, true) else if c = 46 then some (d, false) else none
  | (d, false), c => if c = 41 ∧ 0 < d then some (d - 1, false) else if isL c = true then some (d, true) else none
def dscan : Nat × Bool → List Nat → Option (Nat × Bool)
  | s, [] => some s
  | s, c :: r => match dstep s c with
    | some s' => dscan s' r
    | none => none
theorem dscan_of : ∀ (l : List Nat) (o p d : Nat) (w : Bool), dscan (d, w) l = (scan (o, p, d, w) l).map fun s => (s.2.2.1, s.2.2.2)
  | [], _, _, _, _ => rfl
  | c :: r, o, p, d, w => by
    rw [dscan, scan]
    cases w with
    | true =>
      have e1 : dstep (d, true) c = if c = 40 then some (d + 1, true) else if c = 46 then some (d, false) else none := rfl
      have e2 : cstep (o, p, d, true) c = if c = 40 then some (o, p + 1, d + 1, true) else if c = 46 then some (o, p, d, false) else none := rfl
      rw [e1, e2]
      by_cases h0 : c = 40
      · rw [if_pos h0, if_pos h0]; exact dscan_of r _ _ _ _
      · rw [if_neg h0, if_neg h0]
        by_cases h1 : c = 46
        · rw [if_pos h1, if_pos h1]; exact dscan_of r _ _ _ _
        · rw [if_neg h1, if_neg h1]; rfl
    | false =>
      have e1 : dstep (d, false) c = if c = 41 ∧ 0 < d then some (d - 1, false) else if isL c = true then some (d, true) else none := rfl
      have e2 : cstep (o, p, d, false) c = if c = 41 ∧ 0 < d then some (o, p, d - 1, false) else if isL c = true then some (o + 1, p, d, true) else none := rfl
      rw [e1, e2]
      by_cases h0 : c = 41 ∧ 0 < d
      · rw [if_pos h0, if_pos h0]; exact dscan_of r _ _ _ _
      · rw [if_neg h0, if_neg h0]
        by_cases h1 : isL c = true
        · rw [if_pos h1, if_pos h1]; exact dscan_of r _ _ _ _
        · rw [if_neg h1, if_neg h1]; rfl
/-- the text is accepted -/
def acc (l : List Nat) : Bool := dscan (0, true) l == some (0, false)
theorem acc_counts (l : List Nat) : acc l = (counts l).isSome := by
  unfold acc counts
  rw [dscan_of l 0 0 0 true]
  cases scan (0, 0, 0, true) l with
  | none => rfl
  | some s =>
    obtain ⟨o, p, d, w⟩ := s
    show ((some (d, w) : Option (Nat × Bool)) == some (0, false)) = (if w = true ∨ 0 < d then none else some (o, p)).isSome
    cases w with
    | true => simp
    | false =>
      by_cases hd : 0 < d
      · rw [if_pos (Or.inr hd)]
        refine beq_false_of_ne fun q => ?_
        cases q
        omega
      · have : d = 0 := by omega
        subst this
        rfl
theorem fold1 (s : Nat × Bool) (r : List Nat) : dscan s (46 :: 97 :: 46 :: r) = dscan s (46 :: r) := by
  obtain ⟨d, w⟩ := s
  cases w with
  | true => rfl
  | false => rfl
theorem fold2 (s : Nat × Bool) (r : List Nat) : dscan s (40 :: 46 :: 41 :: r) = dscan s (46 :: r) := by
  obtain ⟨d, w⟩ := s
  cases w with
  | true =>
    show (match (if 41 = 41 ∧ 0 < d + 1 then some (d + 1 - 1, false) else if isL 41 = true then some (d + 1, true) else none) with | some s' => dscan s' r | none => none) = dscan (d, false) r
    rw [if_pos ⟨rfl, by omega⟩]
    rfl
  | false => rfl
/-- a text but the dot has something to fold -/
def hasFold (l : List Nat) : Prop := ∃ a b, l = a ++ [46, 97, 46] ++ b ∨ l = a ++ [40, 46, 41] ++ b
theorem hasFold.pre {l : List Nat} (h : hasFold l) (a b : List Nat) : hasFold (a ++ l ++ b) := by
  obtain ⟨x, y, h | h⟩ := h
  · exact ⟨a ++ x, y ++ b, .inl (by rw [h]; simp)⟩
  · exact ⟨a ++ x, y ++ b, .inr (by rw [h]; simp)⟩
theorem head46 : ∀ e : E, (∃ r, e.text = 46 :: r) ∨ ∃ r, e.text = 40 :: r
  | .one .dot => .inl ⟨[], rfl⟩
  | .one (.par e) => .inr ⟨_, rfl⟩
  | .cons .dot c e => .inl ⟨_, rfl⟩
  | .cons (.par e') c e => .inr ⟨_, rfl⟩
mutual
theorem Op.fold : ∀ (x : Op), (∀ c ∈ x.lets, c = 97) → x.text = [46] ∨ hasFold x.text
  | .dot, _ => .inl rfl
  | .par e, h => by
    rcases E.fold e h with q | q
    · exact .inr ⟨[], [], .inr (by show 40 :: (e.text ++ [41]) = _; rw [q]; rfl)⟩
    · refine .inr ?_
      have := q.pre [40] [41]
      exact this
theorem E.fold : ∀ (e : E), (∀ c ∈ e.lets, c = 97) → e.text = [46] ∨ hasFold e.text
  | .one x, h => Op.fold x h
  | .cons x c e, h => by
    have hx : ∀ k ∈ x.lets, k = 97 := fun k hk => h k (by simp [E.lets, hk])
    have he : ∀ k ∈ e.lets, k = 97 := fun k hk => h k (by simp [E.lets, hk])
    have hc : c = 97 := h c (by simp [E.lets])
    subst hc
    refine .inr ?_
    show hasFold (x.text ++ 97 :: e.text)
    rcases Op.fold x hx with q | q
    · rcases E.fold e he with q2 | q2
      · exact ⟨[], [], .inl (by rw [q, q2]; rfl)⟩
      · have := q2.pre (x.text ++ [97]) []
        simpa using this
    · have := q.pre [] (97 :: e.text)
      simpa using this
end
theorem nofold {l : List Nat} (hl : ∀ c ∈ l, isL c = true → c = 97) (ha : acc l = true) (hf : ¬ hasFold l) : l = [46] := by
  rw [acc_counts] at ha
  obtain ⟨q, hq⟩ := Option.isSome_iff_exists.mp ha
  obtain ⟨o, p⟩ := q
  obtain ⟨e, rfl, hL, _, _⟩ := counts_some hq
  rcases E.fold e (fun c hc => hl c (E.lets_mem e c hc) (hL c hc)) with h | h
  · exact h
  · exact absurd h hf
end Ex
/-! ExD: folding by replacement (plain law). -/
namespace Ex
open PySem.StrLaws (replL replL_hit replL_miss replL_nil)
def gsw (c : Nat) : Nat := if c = 97 then 43 else if c = 43 then 97 else c
theorem gsw_gsw (c : Nat) : gsw (gsw c) = c := by
  unfold gsw
  split
  · rename_i h; rw [h]; rfl
  · split
    · rename_i h; rw [h]; rfl
    · rename_i h1 h2; simp [h1, h2]
theorem gsw_inj {a b : Nat} (h : gsw a = gsw b) : a = b := by rw [← gsw_gsw a, h, gsw_gsw]
theorem map_inj : ∀ {a b : List Nat}, a.map gsw = b.map gsw → a = b
  | [], [], _ => rfl
  | [], _ :: _, h => by simp at h
  | _ :: _, [], h => by simp at h
  | x :: a, y :: b, h => by
    rw [List.map_cons, List.map_cons] at h
    have h1 := List.head_eq_of_cons_eq h
    have h2 := List.tail_eq_of_cons_eq h
    rw [gsw_inj h1, map_inj h2]
theorem repl_map {y z : List Nat} (hy : y ≠ []) : ∀ (n : Nat) (l : List Nat), l.length ≤ n → replL (y.map gsw) (z.map gsw) (l.map gsw) = (replL y z l).map gsw
  | n, [], _ => by rw [List.map_nil, replL_nil, replL_nil, List.map_nil]
  | 0, c :: r, h => by simp at h
  | n + 1, c :: r, h => by
    have hy' : y.map gsw ≠ [] := by simpa using hy
    by_cases q : (c :: r).take y.length = y
    · have q' : (gsw c :: r.map gsw).take (y.map gsw).length = y.map gsw := by
        rw [List.length_map, ← List.map_cons, ← List.map_take, q]
      rw [List.map_cons, replL_hit hy' q', replL_hit hy q, List.map_append, List.length_map, ← List.map_cons, ← List.map_drop]
      rw [repl_map hy n]
      rw [List.length_drop]
      have : 0 < y.length := List.length_pos_iff.mpr hy
      omega
    · have q' : ¬ (gsw c :: r.map gsw).take (y.map gsw).length = y.map gsw := fun e => q (by
        rw [List.length_map, ← List.map_cons, ← List.map_take] at e
        exact map_inj e)
      rw [List.map_cons, replL_miss q', replL_miss q, List.map_cons, repl_map hy n r (by simpa using h)]
theorem repl_len {y z : List Nat} (hz : z.length < y.length) : ∀ (n : Nat) (l : List Nat), l.length ≤ n → replL y z l = l ∧ (∀ a b, l ≠ a ++ y ++ b) ∨ (replL y z l).length < l.length
  | n, [], _ => .inl ⟨replL_nil, fun a b e => by
      have := congrArg List.length e
      simp at this
      omega⟩
  | 0, c :: r, h => by simp at h
  | n + 1, c :: r, h => by
    have hy : y ≠ [] := fun e => by rw [e] at hz; simp at hz
    by_cases q : (c :: r).take y.length = y
    · right
      rw [replL_hit hy q, List.length_append]
      have hl : y.length ≤ (c :: r).length := by
        have := congrArg List.length q
        rw [List.length_take] at this
        omega
      have hd : ((c :: r).drop y.length).length ≤ n := by rw [List.length_drop]; omega
      have hdl : ((c :: r).drop y.length).length = (c :: r).length - y.length := List.length_drop
      rcases repl_len hz n _ hd with ⟨e, _⟩ | e
      · rw [e]; omega
      · omega
    · rw [replL_miss q]
      rcases repl_len hz n r (by simpa using h) with ⟨e, no⟩ | e
      · left
        rw [e]
        refine ⟨rfl, fun a b ea => ?_⟩
        cases a with
        | nil => exact q (by rw [ea]; simp)
        | cons x a =>
          rw [List.cons_append, List.cons_append] at ea
          exact no a b (List.tail_eq_of_cons_eq ea)
      · right
        simp only [List.length_cons]
        omega
theorem repl_dscan {y z : List Nat} (hy : y ≠ []) (hf : ∀ s r, dscan s (y ++ r) = dscan s (z ++ r)) : ∀ (n : Nat) (l : List Nat), l.length ≤ n → ∀ s, dscan s (replL y z l) = dscan s l
  | n, [], _, s => by rw [replL_nil]
  | 0, c :: r, h, _ => by simp at h
  | n + 1, c :: r, h, s => by
    by_cases q : (c :: r).take y.length = y
    · rw [replL_hit hy q]
      have e1 : c :: r = y ++ (c :: r).drop y.length := by
        conv => lhs; rw [← List.take_append_drop y.length (c :: r), q]
      have hd : ((c :: r).drop y.length).length ≤ n := by
        rw [List.length_drop]
        have : 0 < y.length := List.length_pos_iff.mpr hy
        omega
      have key : ∀ (z' : List Nat) (s : Nat × Bool) (u v : List Nat), (∀ s, dscan s u = dscan s v) → dscan s (z' ++ u) = dscan s (z' ++ v) := by
        intro z'
        induction z' with
        | nil => exact fun s u v h => h s
        | cons x z' ih =>
          intro s u v h
          rw [List.cons_append, List.cons_append, dscan, dscan]
          cases dstep s x with
          | none => rfl
          | some s' => exact ih s' u v h
      rw [key z s _ _ (repl_dscan hy hf n _ hd), ← hf, ← e1]
    · rw [replL_miss q, dscan, dscan]
      cases dstep s c with
      | none => rfl
      | some s' => exact repl_dscan hy hf n r (by simpa using h) s'
/-- both folds, once through -/
def R1 (l : List Nat) : List Nat := replL [46, 97, 46] [46] l
def R2 (l : List Nat) : List Nat := replL [40, 46, 41] [46] l
def R (l : List Nat) : List Nat := R2 (R1 l)
theorem R_acc (l : List Nat) : acc (R l) = acc l := by
  unfold acc R R2
  rw [repl_dscan (by simp) fold2 _ _ (Nat.le_refl _)]
  unfold R1
  rw [repl_dscan (by simp) fold1 _ _ (Nat.le_refl _)]
theorem R1_len (l : List Nat) : (R1 l).length ≤ l.length := by
  rcases repl_len (y := [46, 97, 46]) (z := [46]) (by decide) _ l (Nat.le_refl _) with ⟨h, _⟩ | h
  · unfold R1; rw [h]; exact Nat.le_refl _
  · exact Nat.le_of_lt h
theorem R2_len (l : List Nat) : (R2 l).length ≤ l.length := by
  rcases repl_len (y := [40, 46, 41]) (z := [46]) (by decide) _ l (Nat.le_refl _) with ⟨h, _⟩ | h
  · unfold R2; rw [h]; exact Nat.le_refl _
  · exact Nat.le_of_lt h
theorem R_len (l : List Nat) : (R l).length ≤ l.length := Nat.le_trans (R2_len _) (R1_len l)
theorem R_fix {l : List Nat} (h : (R l).length = l.length) : R l = l ∧ ¬ hasFold l := by
  have h1 := R1_len l
  have h2 := R2_len (R1 l)
  unfold R at h
  rcases repl_len (y := [46, 97, 46]) (z := [46]) (by decide) _ l (Nat.le_refl _) with ⟨e1, n1⟩ | e1
  · have e1' : R1 l = l := e1
    rcases repl_len (y := [40, 46, 41]) (z := [46]) (by decide) _ l (Nat.le_refl _) with ⟨e2, n2⟩ | e2
    · have e2' : R2 l = l := e2
      refine ⟨by unfold R; rw [e1', e2'], ?_⟩
      rintro ⟨a, b, q | q⟩
      · exact n1 a b q
      · exact n2 a b q
    · have : (R2 l).length < l.length := e2
      rw [e1'] at h
      omega
  · have : (R1 l).length < l.length := e1
    omega
/-- letters made alike -/
def hl (c : Nat) : Nat := if isL c = true then 97 else c
theorem hl_dstep (s : Nat × Bool) (c : Nat) : dstep s (hl c) = dstep s c := by
  unfold hl
  split
  · rename_i h
    have hc := isL_40 h
    obtain ⟨d, w⟩ := s
    cases w with
    | true =>
      show none = (if c = 40 then some (d + 1, true) else if c = 46 then some (d, false) else none)
      rw [if_neg hc.1, if_neg hc.2.2]
    | false =>
      show some (d, true) = (if c = 41 ∧ 0 < d then some (d - 1, false) else if isL c = true then some (d, true) else none)
      rw [if_neg fun q => hc.2.1 q.1, if_pos h]
  · rfl
theorem hl_dscan : ∀ (l : List Nat) (s : Nat × Bool), dscan s (l.map hl) = dscan s l
  | [], _ => rfl
  | c :: r, s => by
    rw [List.map_cons, dscan, dscan, hl_dstep]
    cases dstep s c with
    | none => rfl
    | some s' => exact hl_dscan r s'
theorem hl_acc (l : List Nat) : acc (l.map hl) = acc l := by unfold acc; rw [hl_dscan]
theorem hl_L {l : List Nat} : ∀ c ∈ l.map hl, isL c = true → c = 97 := by
  intro c hc h
  obtain ⟨x, _, rfl⟩ := List.mem_map.mp hc
  unfold hl at *
  split
  · rfl
  · rename_i hn
    rw [if_neg hn] at h
    exact absurd h hn
theorem repl_mem {y z : List Nat} (hy : y ≠ []) : ∀ (n : Nat) (l : List Nat), l.length ≤ n → ∀ c ∈ replL y z l, c ∈ z ∨ c ∈ l
  | n, [], _, c, h => by rw [replL_nil] at h; simp at h
  | 0, x :: r, h, _, _ => by simp at h
  | n + 1, x :: r, h, c, hc => by
    by_cases q : (x :: r).take y.length = y
    · rw [replL_hit hy q] at hc
      have hd : ((x :: r).drop y.length).length ≤ n := by
        rw [List.length_drop]
        have : 0 < y.length := List.length_pos_iff.mpr hy
        omega
      rcases List.mem_append.mp hc with hc | hc
      · exact .inl hc
      · rcases repl_mem hy n _ hd c hc with h1 | h1
        · exact .inl h1
        · exact .inr (List.mem_of_mem_drop h1)
    · rw [replL_miss q] at hc
      rcases List.mem_cons.mp hc with hc | hc
      · exact .inr (by rw [hc]; simp)
      · rcases repl_mem hy n r (by simpa using h) c hc with h1 | h1
        · exact .inl h1
        · exact .inr (by simp [h1])
theorem R_L {l : List Nat} (h : ∀ c ∈ l, isL c = true → c = 97) : ∀ c ∈ R l, isL c = true → c = 97 := by
  intro c hc hL
  rcases repl_mem (y := [40, 46, 41]) (z := [46]) (by simp) _ _ (Nat.le_refl _) c hc with h1 | h1
  · rw [List.mem_singleton.mp h1] at hL
    exact absurd hL (by decide)
  · rcases repl_mem (y := [46, 97, 46]) (z := [46]) (by simp) _ _ (Nat.le_refl _) c h1 with h2 | h2
    · rw [List.mem_singleton.mp h2] at hL
      exact absurd hL (by decide)
    · exact h c h2 hL
theorem R_gsw (l : List Nat) : replL [40, 46, 41] [46] (replL [46, 43, 46] [46] (l.map gsw)) = (R l).map gsw := by
  have h1 := repl_map (y := [46, 97, 46]) (z := [46]) (by simp) _ l (Nat.le_refl _)
  have h2 := repl_map (y := [40, 46, 41]) (z := [46]) (by simp) _ (R1 l) (Nat.le_refl _)
  have e1 : replL [46, 43, 46] [46] (l.map gsw) = (R1 l).map gsw := h1
  rw [e1]
  exact h2
end Ex
/-! PmG: the law's end. -/
namespace Pm
open PySem PySem.Spec PyProof.Rows L2
/-- the script alone is tracked, at a, locked -/
noncomputable def scrH (K : PySem.W.Frag) (a : Addr) (ob : Obj) (ns : List Int) : Hp := fun b => open Classical in if b = a ∧ K.lookup a = none then some (.frz ob (.lst (ns.map V.int))) else none
theorem reps_ints {K : PySem.W.Frag} {Z H : Hp} {S : Fp} : ∀ ns : List Int, RepL K Z H (ns.map D.int) (ns.map V.int) S
  | [] => trivial
  | n :: ns => ⟨Fp0, S, fun _ x => x.elim, fun _ x => x, fun _ x _ => x, rfl, reps_ints ns⟩
/-- the law's call at the head's end -/
theorem end_call {P : Program} {w : World} {K : PySem.W.Frag} {mg mb : Str → Option Value} {k : Nat} {fa a : Addr} {fd : FuncData} {x : Str} {g : FSem} {s1 : Shared} {vs : List Value} {ns : List Int}
    (hK : K.In s1.heap) (hm : s1.heap.Ns mainGlobals mg) (hb : s1.heap.Ns builtinsNs mb) (hbb : ∀ x : Str, x ≠ "__name__" → mb x = bootBuiltins x) (hl : s1.heap.NoLimit) (hg : s1.gens = #[])
    (ha : s1.heap.get? a = some { cls := .type "list", data := .seq vs.toArray }) (hi : IntsAre vs ns) (hz : ns.length ≤ sizeLine) (hr : Room k callerA)
    (F : ∀ base : Heap, K.In base → base.Ns mainGlobals mg → FnG P w K mg base k fa fd [x] g) (bd : ∀ (s : Shared) (u : Value), BindsTo s fd ⟨[u], []⟩ [(x, u)])
    (ok : ∃ as, g [.scr (ns.map D.int)] = .ret (.bl true) as) :
    codeAny (model P w) callerA (.call (.ref fa) ⟨[.ref a], []⟩) (fun r s' => r = .ok (.ret (.bool true)) ∧ OldK s1.heap s'.heap ∧ s'.os = s1.os ∧ AllBare s'.gens) s1 := by
  have rv := vals_ints hi
  have nl := hi.length
  obtain ⟨H, hH⟩ : ∃ H : Hp, H = scrH K a { cls := .type "list", data := .seq vs.toArray } ns := ⟨_, rfl⟩
  have at1 : ∀ b o, H b = some o → b = a ∧ K.lookup a = none ∧ o = .frz { cls := .type "list", data := .seq vs.toArray } (.lst (ns.map V.int)) := fun b o e => by
    rw [hH] at e
    unfold scrH at e
    split at e
    · rename_i c
      exact ⟨c.1, c.2, (Option.some.inj e).symm⟩
    · cases e
  have hok : HOk P w H s1.heap := fun b o e => by
    obtain ⟨rfl, _, rfl⟩ := at1 b o e
    exact ⟨ha, by rw [List.length_map]; exact hz, vs, _, rv, ha⟩
  have sq : SqL K H a (ns.map V.int) := by
    cases e : K.lookup a with
    | none => exact .inl (.inr ⟨{ cls := .type "list", data := .seq vs.toArray }, by rw [hH]; exact if_pos ⟨rfl, e⟩⟩)
    | some o =>
      have q := hK a o e
      rw [ha] at q
      cases q
      exact .inr ⟨_, vs.toArray, 0, e, rfl, rfl, rfl, by rw [List.size_toArray, nl]; exact hz, by simpa using rv⟩
  have low : ∀ {b : Addr} {o : Obj}, s1.heap.get? b = some o → (b = a → False) → (hidT s1.heap H).get? b = some o := fun {b o} e n => hidT_get e (by
    cases q : H b with
    | none => rfl
    | some u => exact (n (at1 b u q).1).elim)
  have lowN : ∀ {b : Addr} {m : Str → Option Value}, s1.heap.Ns b m → (hidT s1.heap H).Ns b m := fun {b m} h => by
    obtain ⟨o, es, ep, e, d, r⟩ := h
    refine ⟨o, es, ep, low e fun q => ?_, d, r⟩
    rw [q, ha] at e
    cases e
    cases d
  have lowK : K.In (hidT s1.heap H) := fun b o e => hidT_get (hK b o e) (by
    cases q : H b with
    | none => rfl
    | some u =>
      obtain ⟨rfl, n, _⟩ := at1 b u q
      rw [n] at e
      cases e)
  have md : Mod K mg (hidT s1.heap H) := ⟨lowK, lowN hm, ⟨mb, lowN hb, hbb⟩, by
    obtain ⟨mc, p, q⟩ := hl
    exact ⟨mc, lowN p, q⟩⟩
  have e0 : Env0 P w K mg (hidT s1.heap H) callerA [] s1 H := ⟨rfl, md, fun _ _ e => of_hidT e, Nat.le_of_eq (hidT_size _ _), trivial, fun _ z => (nomatch z), hok, .of_eq hg⟩
  obtain ⟨as, eg⟩ := ok
  have sp : spG K mg g [.ref a] H (fun v _ => v = .bl true) (fun _ _ _ => False) := by
    refine ⟨H, Fp0, [.scr (ns.map D.int)], ⟨Same.refl H, fun _ x => x.elim, fun _ x => x.elim⟩, ⟨Fp0, Fp0, fun _ x => x, fun _ x => x, fun _ x _ => x, ⟨a, ns.map V.int, rfl, sq, reps_ints ns⟩, trivial⟩, ?_⟩
    rw [eg]
    exact fun v Z' H' S' Sd _ _ _ r => r
  refine codeAny_mono ((F _ lowK (lowN hm)).run callerA [] s1 H ⟨[.ref a], []⟩ [.ref a] [.ref a] _ _ rfl hr e0 (bd s1 (.ref a)) (.cons rfl .nil) sp) fun r s' h => ?_
  cases r with
  | error e =>
    obtain ⟨_, _, _, _, _, _, _, _, _, _, _, _, z⟩ := h
    exact z.elim
  | ok fl =>
    cases fl with
    | next => exact h.elim
    | brk => exact h.elim
    | cont => exact h.elim
    | ret u =>
      obtain ⟨v, H', os, bare, un, hok', r', q⟩ := h
      have q' : v = .bl true := q
      subst q'
      obtain rfl : u = Value.bool true := r'
      refine ⟨rfl, OldK.of_keep fun b o e => ?_, os, bare⟩
      cases t : H b with
      | none => exact un.keep b o e t (fun z => (nomatch z)) (fun z => (nomatch z))
      | some u =>
        obtain ⟨rfl, n, rfl⟩ := at1 b u t
        obtain ⟨e2, _⟩ := hok' b _ (un.frzs b _ _ t)
        rw [ha] at e
        rw [← e]
        exact e2
theorem walkG {l : PySem.W.OpenLaw} {n k : Nat} {q : Program} {loose : List Str} {XP : (Str → Option Value) → Heap → Prop} {YP : World → Heap → Prop} {d : DefRec} {K : Params → PySem.W.Frag} {g : FSem} {x : Str}
    (hn : l.most = some n) (hn2 : n ≤ sizeLine) (hdf : d.params.defaults = []) (hr : Room k callerA) (hY : ∀ (w : World) (h : Heap), YP w h → (K w.params).In h)
    (F : ∀ (w : World) (mg : Str → Option Value) (fa : Addr) (h : Heap), (K w.params).In h → h.Ns mainGlobals mg → mg d.name = some (.ref fa) →
      ∃ fd : FuncData, (∀ (s : Shared) (u : Value), BindsTo s fd ⟨[u], []⟩ [(x, u)]) ∧ ∀ base : Heap, (K w.params).In base → base.Ns mainGlobals mg → FnG l.prog w (K w.params) mg base k fa fd [x] g)
    (ok : ∀ ns : List Int, ns.length ≤ n → ∃ as, g [.scr (ns.map D.int)] = .ret (.bl true) as) : PySem.W.WalkO q loose XP YP l.row.toRowW d [] (fun f vs => PySem.call f vs) := by
  refine Att.attach_call hn hdf fun w s0 s1 mg mb fa o pm cd doc a vs ns G Y ho hd hcd hmg hobj hints hlen hg => ?_
  have KX := hY w _ Y
  obtain ⟨fd, hb, hF⟩ := F w mg fa _ KX G.T.g hmg
  exact end_call KX G.T.g G.T.b G.T.builtins G.T.nolimit hg hobj hints (Nat.le_trans hlen hn2) hr hF hb (ok ns hlen)
end Pm
/-! the walk of wearbinds_k04_expressions_recognized -/
namespace Pk04
open PySem PySem.Spec PyProof.Rows L2 Pm
def topS (i : Nat) : Stmt := PySem.Challenge.pw_wearbinds_k04_expressions_recognized.main.body.getD i (.Pass ⟨0, 0, 0, 0⟩)
abbrev s__law_pen : Stmt := topS 10
theorem sc__law_pen : FnScope ["_law_script"] ["_law_script"] (defScope s__law_pen) := ⟨rfl, rfl, rfl, by decide +kernel, rfl, by decide +kernel, by decide +kernel⟩
noncomputable def b__law_pen : M Fl := (rtn (disp true .lst (aCons (app opList (aCons (cut (loc 0) none (some (con (.int 63)))) aNil)) (aCons (con (.int 0)) (aCons (con (.int 0)) aNil)))))
noncomputable def S__law_pen : FSem := mkF 1 1 [] b__law_pen
abbrev s__law_draw : Stmt := topS 11
theorem sc__law_draw : FnScope ["_law_pen_here", "_law_many", "_law_digit", "_law_at", "_law_cell", "_law_large", "_law_mixed"] ["_law_pen_here", "_law_many"] (defScope s__law_draw) := ⟨rfl, rfl, rfl, by decide +kernel, rfl, by decide +kernel, by decide +kernel⟩
noncomputable def b__law_draw : M Fl := (seq (ite (tst (bin (on2I iGt) (idx (aCons (loc 0) (aCons (con (.int 2)) aNil))) (con (.int 0)))) (seq (asg (bin (on2I iMod) (idx (aCons (loc 0) (aCons (con (.int 2)) aNil))) (loc 1)) (gN 2))
    (seq (asg (bin (on2I iDiv) (idx (aCons (loc 0) (aCons (con (.int 2)) aNil))) (loc 1)) (gI 0 (con (.int 2))))
    (rtn (mov 2)))) sNx)
    (seq (asg (idx (aCons (loc 0) (aCons (con (.int 1)) aNil))) (gN 3))
    (seq (asg (bin (on2I iAdd) (loc 3) (con (.int 1))) (gI 0 (con (.int 1))))
    (seq (asg (bin (on2I iAdd) (bin (on2I iMul) (con (.int 40433)) (loc 3)) (con (.int 59))) (gN 4))
    (seq (ite (tst (bin opNe (idx (aCons (loc 0) (aCons (con (.int 0)) aNil))) (disp true .lst aNil))) (asg (idx (aCons (idx (aCons (loc 0) (aCons (con (.int 0)) aNil))) (aCons (bin (on2I iMod) (loc 3) (app opLen (aCons (idx (aCons (loc 0) (aCons (con (.int 0)) aNil))) aNil))) aNil))) (gN 4)) sNx)
    (seq (ite (andT (tst (bin (on2I iLt) (loc 3) (app opLen (aCons (idx (aCons (loc 0) (aCons (con (.int 0)) aNil))) aNil)))) (tst (bin (on2I iGe) (app opAbs (aCons (loc 4) aNil)) (bin (on2I iPow) (con (.int 10)) (con (.int 18)))))) (seq (asg (bin (on2I iAdd) (bin (on2I iMul) (con (.int 2)) (app opAbs (aCons (loc 4) aNil))) (app opInt1 (aCons (bin (on2I iLt) (loc 4) (con (.int 0))) aNil))) (gN 5))
    (seq (asg (bin (on2I iDiv) (loc 5) (loc 1)) (gI 0 (con (.int 2))))
    (rtn (bin (on2I iMod) (loc 5) (loc 1))))) sNx)
    (seq (asg (bin (on2I iMod) (bin (on2I iPow) (bin (on2I iAdd) (bin (on2I iAdd) (bin (on2I iMod) (loc 4) (con (.int 2147483549))) (bin (on2I iMul) (con (.int 50047)) (loc 3))) (con (.int 41))) (con (.int 5))) (con (.int 2147483579))) (gN 6))
    (seq (asg (bin (on2I iMod) (bin (on2I iPow) (bin (on2I iAdd) (bin (on2I iAdd) (bin (on2I iMul) (loc 6) (bin (on2I iAdd) (bin (on2I iMul) (con (.int 2)) (loc 3)) (con (.int 23)))) (bin (on2I iMul) (bin (on2I iMul) (con (.int 70003)) (loc 3)) (loc 3))) (con (.int 7))) (con (.int 3))) (con (.int 2147483629))) (gN 6))
    (rtn (bin (on2I iMod) (bin (on2I iDiv) (loc 6) (con (.int 16))) (loc 1)))))))))))
noncomputable def S__law_draw : FSem := mkF 2 7 [] b__law_draw
abbrev s__law_signs : Stmt := topS 13
theorem sc__law_signs : FnScope ["_law_pen_here", "_law_rules_here", "_law_many", "_law_marks", "_law_way", "_law_some", "_law_found", "_law_turn", "_law_mark", "_law_row"] ["_law_pen_here", "_law_rules_here", "_law_many"] (defScope s__law_signs) := ⟨rfl, rfl, rfl, by decide +kernel, rfl, by decide +kernel, by decide +kernel⟩
noncomputable def b__law_signs : M Fl := (seq (asg (comp [9] (srcA (loc 1)) (gN 9) yesT (idx (aCons (loc 9) (aCons (con (.int 0)) aNil)))) (gN 3))
    (seq (asg (callF S__law_draw (aCons (loc 0) (aCons (con (.int 3)) aNil))) (gN 4))
    (seq (asg (comp [7] (srcR1 (aCons (con (.int 2)) aNil)) (gN 7) yesT (idx (aCons (loc 3) (aCons (callF S__law_draw (aCons (loc 0) (aCons (app opLen (aCons (loc 3) aNil)) aNil))) aNil)))) (gN 5))
    (seq (asg (con (.str "")) (gN 6))
    (seq (forS (srcR1 (aCons (loc 2) aNil)) (gN 7) (seq (asg (idx (aCons (loc 3) (aCons (callF S__law_draw (aCons (loc 0) (aCons (app opLen (aCons (loc 3) aNil)) aNil))) aNil))) (gN 8))
    (seq (ite (andT (tst (bin opEq (loc 4) (con (.int 1)))) (tst (bin opGtA (callF S__law_draw (aCons (loc 0) (aCons (con (.int 4)) aNil))) (con (.int 0))))) (asg (idx (aCons (loc 5) (aCons (con (.int 0)) aNil))) (gN 8)) sNx)
    (asg (bin hAdd (loc 6) (idx (aCons (disp true .lst (aCons (loc 8) (aCons (idx (aCons (loc 5) (aCons (bin (on2I iMod) (loc 7) (con (.int 2))) aNil))) aNil))) (aCons (app opInt (aCons (bin opEq (loc 4) (con (.int 2))) aNil)) aNil)))) (gN 6)))))
    (rtn (mov 6)))))))
noncomputable def S__law_signs : FSem := mkF 3 10 [] b__law_signs
abbrev s__law_line : Stmt := topS 14
theorem sc__law_line : FnScope ["_law_pen_here", "_law_rules_here", "_law_most", "_law_many", "_law_items", "_law_mark", "_law_turn", "_law_size", "_law_first", "_law_rest", "_law_far", "_law_inner"] ["_law_pen_here", "_law_rules_here", "_law_most"] (defScope s__law_line) := ⟨rfl, rfl, rfl, by decide +kernel, rfl, by decide +kernel, by decide +kernel⟩
noncomputable def b__law_line : M Fl := (seq (asg (idx (aCons (disp true .lst (aCons (callF S__law_draw (aCons (loc 0) (aCons (bin hAdd (loc 2) (con (.int 1))) aNil))) (aCons (callF S__law_draw (aCons (loc 0) (aCons (con (.int 7)) aNil))) (aCons (callF S__law_draw (aCons (loc 0) (aCons (con (.int 7)) aNil))) aNil)))) (aCons (callF S__law_draw (aCons (loc 0) (aCons (con (.int 3)) aNil))) aNil))) (gN 3))
    (seq (asg (disp true .lst (aCons (con (.str ".")) aNil)) (gN 4))
    (seq (forS (srcA (callF S__law_signs (aCons (loc 0) (aCons (loc 1) (aCons (loc 3) aNil))))) (gN 5) (asg (bin hAdd (loc 4) (disp true .lst (aCons (loc 5) (aCons (con (.str ".")) aNil)))) (gN 4)))
    (seq (forS (srcR1 (aCons (idx (aCons (disp true .lst (aCons (con (.int 0)) (aCons (callF S__law_draw (aCons (loc 0) (aCons (con (.int 4)) aNil))) (aCons (callF S__law_draw (aCons (loc 0) (aCons (app opMin2 (aCons (con (.int 199)) (aCons (bin hAdd (loc 3) (con (.int 3))) aNil))) aNil))) aNil)))) (aCons (callF S__law_draw (aCons (loc 0) (aCons (con (.int 3)) aNil))) aNil))) aNil)) (gN 6) (seq (asg (bin (on2I iDiv) (bin hAdd (app opLen (aCons (loc 4) aNil)) (con (.int 1))) (con (.int 2))) (gN 7))
    (seq (asg (callF S__law_draw (aCons (loc 0) (aCons (loc 7) aNil))) (gN 8))
    (seq (asg (bin (on2I iSub) (bin (on2I iSub) (loc 7) (loc 8)) (con (.int 1))) (gN 9))
    (seq (asg (idx (aCons (disp true .lst (aCons (con (.int 0)) (aCons (callF S__law_draw (aCons (loc 0) (aCons (bin hAdd (loc 9) (con (.int 1))) aNil))) (aCons (app opMin2 (aCons (con (.int 1)) (aCons (loc 9) aNil))) (aCons (app opMin2 (aCons (con (.int 2)) (aCons (loc 9) aNil))) aNil))))) (aCons (callF S__law_draw (aCons (loc 0) (aCons (con (.int 4)) aNil))) aNil))) (gN 10))
    (seq (asg (smet1 opJoin (con (.str "")) (cut (loc 4) (some (bin hMulT (con (.int 2)) (loc 8))) (some (bin hAdd (bin hAdd (bin hMulT (con (.int 2)) (loc 8)) (bin hMulT (con (.int 2)) (loc 10))) (con (.int 1)))))) (gN 11))
    (seq (asg (cut (loc 4) (some (bin hAdd (bin hAdd (bin hMulT (con (.int 2)) (loc 8)) (bin hMulT (con (.int 2)) (loc 10))) (con (.int 1)))) none) (gN 9))
    (asg (bin hAdd (bin hAdd (cut (loc 4) none (some (bin hMulT (con (.int 2)) (loc 8)))) (disp true .lst (aCons (bin hAdd (bin hAdd (con (.str "(")) (loc 11)) (con (.str ")"))) aNil))) (loc 9)) (gN 4)))))))))
    (rtn (smet1 opJoin (con (.str "")) (loc 4)))))))
noncomputable def S__law_line : FSem := mkF 3 12 [] b__law_line
abbrev s__law_due : Stmt := topS 15
theorem sc__law_due : FnScope ["_law_thing", "_law_text", "_law_sign", "_law_before"] ["_law_thing"] (defScope s__law_due) := ⟨rfl, rfl, rfl, by decide +kernel, rfl, by decide +kernel, by decide +kernel⟩
noncomputable def b__law_due : M Fl := (seq (ite (notT (tst (app opIsi (aCons (loc 0) (aCons (con (.op (.ty "str"))) aNil))))) (rtn (con (.bl false))) sNx)
    (seq (asg (con (.str "")) (gN 1))
    (seq (forS (srcA (loc 0)) (gN 2) (seq (ite (tst (bin opNotIn (loc 2) (con (.str "().abcdefghijklmnopqrstuvwxyz")))) (rtn (con (.bl false))) sNx)
    (asg (bin hAdd (loc 1) (idx (aCons (disp true .lst (aCons (loc 2) (aCons (con (.str "+")) aNil))) (aCons (app opInt (aCons (chS dLe dLe (con (.str "a")) (loc 2) (con (.str "z"))) aNil)) aNil)))) (gN 1))))
    (seq (ite (orT (tst (bin opGtA (smet1 opCountS (loc 1) (con (.str "+"))) (con (.int 200)))) (tst (bin opGtA (smet1 opCountS (loc 1) (con (.str "("))) (con (.int 200))))) (rtn (con (.bl false))) sNx)
    (seq (asg (con (.str "")) (gN 3))
    (seq (whl (tst (bin opNe (loc 3) (loc 1))) (seq (asg (loc 1) (gN 3))
    (asg (un (opRepl "(.)" ".") (un (opRepl ".+." ".") (loc 1))) (gN 1))))
    (rtn (bin opEq (loc 1) (con (.str "."))))))))))
noncomputable def S__law_due : FSem := mkF 1 4 [] b__law_due
abbrev s_counts_in : Stmt := topS 7
theorem sc_counts_in : FnScope ["text", "operators", "pairs", "depth", "wants_operand", "sign"] ["text"] (defScope s_counts_in) := ⟨rfl, rfl, rfl, by decide +kernel, rfl, by decide +kernel, by decide +kernel⟩
noncomputable def b_counts_in : M Fl := (seq (asg3 (con (.int 0)) (gN 1) (gN 2) (gN 3))
    (seq (asg (con (.bl true)) (gN 4))
    (seq (forS (srcA (loc 0)) (gN 5) (ite (andT (tst (loc 4)) (tst (bin opEq (loc 5) (con (.str "("))))) (seq (asg (bin (on2I iAdd) (loc 3) (con (.int 1))) (gN 3))
    (asg (bin (on2I iAdd) (loc 2) (con (.int 1))) (gN 2))) (ite (andT (tst (loc 4)) (tst (bin opEq (loc 5) (con (.str "."))))) (asg (con (.bl false)) (gN 4)) (ite (andT (notT (tst (loc 4))) (andT (tst (bin opEq (loc 5) (con (.str ")")))) (tst (bin opGtA (loc 3) (con (.int 0)))))) (asg (bin (on2I iSub) (loc 3) (con (.int 1))) (gN 3)) (ite (andT (notT (tst (loc 4))) (tst (bin opIn (loc 5) (con (.str "abcdefghijklmnopqrstuvwxyz"))))) (seq (asg (bin (on2I iAdd) (loc 1) (con (.int 1))) (gN 1))
    (asg (con (.bl true)) (gN 4))) (rtn (con .non)))))))
    (rtn (ifE (orT (tst (loc 4)) (tst (bin opGtA (loc 3) (con (.int 0))))) (con .non) (disp false .tup (aCons (loc 1) (aCons (loc 2) aNil))))))))
noncomputable def S_counts_in : FSem := mkF 1 6 [] b_counts_in
abbrev s_is_expression : Stmt := topS 8
theorem sc_is_expression : FnScope ["value", "counts"] ["value"] (defScope s_is_expression) := ⟨rfl, rfl, rfl, by decide +kernel, rfl, by decide +kernel, by decide +kernel⟩
noncomputable def b_is_expression : M Fl := (seq (asg (ifE (tst (app opIsi (aCons (loc 0) (aCons (con (.op (.ty "str"))) aNil)))) (callF S_counts_in (aCons (loc 0) aNil)) (con .non)) (gN 1))
    (rtn (andE (bin opNotN (loc 1) (con .non)) (andE (bin opLeA (idx (aCons (loc 1) (aCons (con (.int 0)) aNil))) (con (.int 200))) (bin opLeA (idx (aCons (loc 1) (aCons (con (.int 1)) aNil))) (con (.int 200)))))))
noncomputable def S_is_expression : FSem := mkF 1 2 [] b_is_expression
abbrev s__law_right : Stmt := topS 16
theorem sc__law_right : FnScope ["_law_thing", "_law_due_here"] ["_law_thing"] (defScope s__law_right) := ⟨rfl, rfl, rfl, by decide +kernel, rfl, by decide +kernel, by decide +kernel⟩
noncomputable def b__law_right : M Fl := (seq (asg (app opReprA (aCons (callF S__law_due (aCons (loc 0) aNil)) aNil)) (gN 1))
    (rtn (andE (bin opEq (app opReprA (aCons (callF S_is_expression (aCons (loc 0) aNil)) aNil)) (loc 1)) (bin opEq (app opReprA (aCons (callF S_is_expression (selA 1 [0] (aCons (loc 0) aNil))) aNil)) (loc 1)))))
noncomputable def S__law_right : FSem := mkF 1 2 [] b__law_right
abbrev s__law_bounds_right : Stmt := topS 18
theorem sc__law_bounds_right : FnScope ["_law_size", "_law_some", "_law_line_here"] [] (defScope s__law_bounds_right) := ⟨rfl, rfl, rfl, by decide +kernel, rfl, by decide +kernel, by decide +kernel⟩
noncomputable def b__law_bounds_right : M Fl := (seq (forS (srcA (disp false .tup (aCons (con (.int 199)) (aCons (con (.int 200)) (aCons (con (.int 201)) aNil))))) (gN 0) (seq (asg (disp true .lst (aCons (bin hAdd (bin hMulT (con (.str ".a")) (loc 0)) (con (.str "."))) (aCons (bin hAdd (bin hAdd (bin hMulT (con (.str "(")) (loc 0)) (con (.str "."))) (bin hMulT (con (.str ")")) (loc 0))) aNil))) (gN 1))
    (seq (drp (appd 1 (bin hAdd (bin hAdd (bin hMulT (con (.str "(")) (loc 0)) (con (.str ".a."))) (bin hMulT (con (.str ")")) (loc 0)))))
    (seq (drp (appd 1 (bin hAdd (bin hMulT (con (.str "(.)a")) (loc 0)) (con (.str "(.)")))))
    (seq (drp (appd 1 (bin hAdd (bin hAdd (bin hMulT (con (.str "(.a")) (loc 0)) (con (.str "."))) (bin hMulT (con (.str ")")) (loc 0)))))
    (ite (tst (bin opNe (comp [2] (srcA (loc 1)) (gN 2) (notT (tst (callF S__law_right (aCons (loc 2) aNil)))) (loc 2)) (disp true .lst aNil))) (rtn (con (.bl false))) sNx))))))
    (rtn (con (.bl true))))
noncomputable def S__law_bounds_right : FSem := mkF 0 3 [] b__law_bounds_right
abbrev s__law_rules : Stmt := topS 12
theorem sc__law_rules : FnScope ["_law_pen_here", "_law_left", "_law_marks", "_law_high", "_law_steep", "_law_rows", "_law_mark", "_law_first", "_law_turn"] ["_law_pen_here"] (defScope s__law_rules) := ⟨rfl, rfl, rfl, by decide +kernel, rfl, by decide +kernel, by decide +kernel⟩
noncomputable def b__law_rules : M Fl := (seq (asg (app opListA (aCons (con (.str "abcdefghijklmnopqrstuvwxyz")) aNil)) (gN 1))
    (seq (asg (app opSorted (aCons (comp [8] (srcR1 (aCons (bin hAdd (con (.int 1)) (callF S__law_draw (aCons (loc 0) (aCons (con (.int 6)) aNil)))) aNil)) (gN 8) yesT (popi 1 (callF S__law_draw (aCons (loc 0) (aCons (app opLen (aCons (loc 1) aNil)) aNil))))) aNil)) (gN 2))
    (seq (asg (idx (aCons (disp true .lst (aCons (con (.int 1)) (aCons (con (.int 3)) (aCons (con (.int 12)) (aCons (con (.int 300)) (aCons (bin (on2I iPow) (con (.int 10)) (con (.int 12))) aNil)))))) (aCons (callF S__law_draw (aCons (loc 0) (aCons (con (.int 5)) aNil))) aNil))) (gN 3))
    (seq (asg (idx (aCons (disp true .lst (aCons (con (.int 0)) (aCons (con (.int 1)) (aCons (con (.int 2)) (aCons (con (.int 9)) (aCons (bin (on2I iPow) (con (.int 10)) (con (.int 12))) aNil)))))) (aCons (callF S__law_draw (aCons (loc 0) (aCons (con (.int 5)) aNil))) aNil))) (gN 4))
    (seq (asg (disp true .lst aNil) (gN 5))
    (seq (forS (srcA (loc 2)) (gN 6) (seq (asg (bin (on2I iSub) (callF S__law_draw (aCons (loc 0) (aCons (bin hAdd (bin hMulT (con (.int 2)) (loc 3)) (con (.int 1))) aNil))) (loc 3)) (gN 7))
    (drp (appd 5 (disp false .tup (aCons (loc 6) (aCons (loc 7) (aCons (bin (on2I iSub) (callF S__law_draw (aCons (loc 0) (aCons (bin hAdd (bin hMulT (con (.int 2)) (loc 4)) (con (.int 1))) aNil))) (loc 4)) aNil))))))))
    (rtn (app opTuple (aCons (loc 5) aNil)))))))))
noncomputable def S__law_rules : FSem := mkF 1 9 [] b__law_rules
abbrev s__law_bent : Stmt := topS 17
theorem sc__law_bent : FnScope ["_law_pen_here", "_law_line_here", "_law_way", "_law_at", "_law_sign", "_law_some", "_law_turned"] ["_law_pen_here", "_law_line_here"] (defScope s__law_bent) := ⟨rfl, rfl, rfl, by decide +kernel, rfl, by decide +kernel, by decide +kernel⟩
noncomputable def b__law_bent : M Fl := (seq (asg (callF S__law_draw (aCons (loc 0) (aCons (con (.int 4)) aNil))) (gN 2))
    (seq (asg (callF S__law_draw (aCons (loc 0) (aCons (bin hAdd (app opLen (aCons (loc 1) aNil)) (con (.int 1))) aNil))) (gN 3))
    (seq (asg (idx (aCons (con (.str "..()()abz A+-0\n")) (aCons (callF S__law_draw (aCons (loc 0) (aCons (con (.int 15)) aNil))) aNil))) (gN 4))
    (seq (asg (disp true .lst (aCons (bin hAdd (cut (loc 1) none (some (loc 3))) (cut (loc 1) (some (bin hAdd (loc 3) (con (.int 1)))) none)) (aCons (bin hAdd (cut (loc 1) none (some (bin hAdd (loc 3) (con (.int 1))))) (cut (loc 1) (some (loc 3)) none)) aNil))) (gN 5))
    (seq (drp (appd 5 (bin hAdd (bin hAdd (cut (loc 1) none (some (loc 3))) (loc 4)) (cut (loc 1) (some (loc 3)) none))))
    (seq (asg (un opRev (cut (loc 1) (some (loc 3)) (some (bin hAdd (loc 3) (con (.int 2)))))) (gN 6))
    (seq (drp (appd 5 (bin hAdd (bin hAdd (cut (loc 1) none (some (loc 3))) (loc 6)) (cut (loc 1) (some (bin hAdd (loc 3) (con (.int 2)))) none))))
    (rtn (idx (aCons (loc 5) (aCons (loc 2) aNil)))))))))))
noncomputable def S__law_bent : FSem := mkF 2 7 [] b__law_bent
abbrev s_law : Stmt := topS 19
theorem sc_law : FnScope ["_law_script", "_law_pen_here", "_law_turn", "_law_line_here", "_law_again", "_law_once", "_law_things", "_law_thing"] ["_law_script"] (defScope s_law) := ⟨rfl, rfl, rfl, by decide +kernel, rfl, by decide +kernel, by decide +kernel⟩
noncomputable def b_law : M Fl := (seq (asg (callF S__law_pen (aCons (loc 0) aNil)) (gN 1))
    (seq (forS (srcR1 (aCons (con (.int 3)) aNil)) (gN 2) (seq (asg (callF S__law_line (aCons (loc 1) (aCons (callF S__law_rules (aCons (loc 1) aNil)) (aCons (idx (aCons (disp true .lst (aCons (con (.int 200)) (aCons (con (.int 30)) (aCons (con (.int 8)) aNil)))) (aCons (loc 2) aNil))) aNil)))) (gN 3))
    (seq (ite (tst (bin opNotB (callF S_is_expression (aCons (loc 3) aNil)) (con (.bl true)))) (rtn (con (.bl false))) sNx)
    (forS (srcR1 (aCons (con (.int 8)) aNil)) (gN 4) (seq (asg (callF S__law_bent (aCons (loc 1) (aCons (loc 3) aNil))) (gN 5))
    (ite (orT (notT (tst (callF S__law_right (aCons (loc 5) aNil)))) (notT (tst (callF S__law_right (aCons (callF S__law_bent (aCons (loc 1) (aCons (loc 5) aNil))) aNil))))) (rtn (con (.bl false))) sNx))))))
    (seq (asg (disp true .lst (aCons (con .non) (aCons (con (.bl true)) (aCons (con (.int 0)) (aCons (disp false .tup aNil) (aCons (disp true .lst aNil) (aCons newD (aCons (con (.str ".")) (aCons (disp false .tup (aCons (con (.str ".")) aNil)) (aCons (disp true .lst (aCons (con (.str ".a.")) aNil)) (aCons (con (.str "")) (aCons (con (.str ".")) (aCons (con (.str "()")) (aCons (con (.str "(.)")) (aCons (con (.str "..")) (aCons (con (.str "a")) (aCons (con (.str ".a")) (aCons (con (.str "a.")) (aCons (con (.str ".aa.")) aNil))))))))))))))))))) (gN 6))
    (seq (asg (binF hAdd (loc 6) (disp true .lst (aCons (con (.str ".(.)")) (aCons (con (.str "(.).")) (aCons (con (.str ".a(.b.)")) (aCons (con (.str ").(")) (aCons (con (.str "(.")) (aCons (con (.str ".)")) (aCons (con (.str ". a .")) (aCons (con (.str ".A.")) (aCons (con (.str ".a.\n")) (aCons (con (.str "(.a.)b.")) (aCons (con (.str "(.a).")) aNil))))))))))))) (gN 6))
    (rtn (andE (bin opEq (comp [7] (srcA (loc 6)) (gN 7) (notT (tst (callF S__law_right (aCons (loc 7) aNil)))) (loc 7)) (disp true .lst aNil)) (callF S__law_bounds_right aNil)))))))
noncomputable def S_law : FSem := mkF 1 8 [] b_law
section
variable {P : Program} {w : World} {K : PySem.W.Frag} {mg : Str → Option Value} {base : Heap}
theorem ok__law_pen {f : Addr} {fd : FuncData} (F : Fun K "_law_pen" "_law_pen" s__law_pen f fd) (z_list : mg "list" = none) : FnG P w K mg base 1 f fd ["_law_script"] S__law_pen :=
  fnG (k := 0) (m := 1) F sc__law_pen rfl fun cdv A outer s H E hgd hr => by
    have ft : Fit (cxG P w K mg base ["_law_script"] "_law_pen" (defScope s__law_pen) f cdv A outer s H E) (fun cls d _ H => E cls d H) 0 := ⟨hgd, hr, takes_of rfl rfl rfl rfl⟩
    have hp : PassesOwn (model P w) (cxG P w K mg base ["_law_script"] "_law_pen" (defScope s__law_pen) f cdv A outer s H E).A (cxG P w K mg base ["_law_script"] "_law_pen" (defScope s__law_pen) f cdv A outer s H E).env (cxG P w K mg base ["_law_script"] "_law_pen" (defScope s__law_pen) f cdv A outer s H E).xe := passes_of rfl
    exact (B_1 (S_ret (E_L (A_c (E_ty snd_list call_list_of z_list (A_c (E_cut (E_loc 0) O_0 (O_1 E_int)) A_0)) (A_c E_int (A_c E_int A_0))))))
theorem ok__law_draw {f : Addr} {fd : FuncData} (F : Fun K "_law_draw" "_law_draw" s__law_draw f fd) (z_abs : mg "abs" = none) (z_int : mg "int" = none) (z_len : mg "len" = none) : FnG P w K mg base 1 f fd ["_law_pen_here", "_law_many"] S__law_draw :=
  fnG (k := 0) (m := 7) F sc__law_draw rfl fun cdv A outer s H E hgd hr => by
    have ft : Fit (cxG P w K mg base ["_law_pen_here", "_law_many", "_law_digit", "_law_at", "_law_cell", "_law_large", "_law_mixed"] "_law_draw" (defScope s__law_draw) f cdv A outer s H E) (fun cls d _ H => E cls d H) 0 := ⟨hgd, hr, takes_of rfl rfl rfl rfl⟩
    have hp : PassesOwn (model P w) (cxG P w K mg base ["_law_pen_here", "_law_many", "_law_digit", "_law_at", "_law_cell", "_law_large", "_law_mixed"] "_law_draw" (defScope s__law_draw) f cdv A outer s H E).A (cxG P w K mg base ["_law_pen_here", "_law_many", "_law_digit", "_law_at", "_law_cell", "_law_large", "_law_mixed"] "_law_draw" (defScope s__law_draw) f cdv A outer s H E).env (cxG P w K mg base ["_law_pen_here", "_law_many", "_law_digit", "_law_at", "_law_cell", "_law_large", "_law_mixed"] "_law_draw" (defScope s__law_draw) f cdv A outer s H E).xe := passes_of rfl
    exact (B_c (S_if (T_cmp opd_gtI (E_idx (E_loc 0) E_int) E_int) (B_c (S_set (i := 2) (E_op opd_modI (E_idx (E_loc 0) E_int) (E_loc 1)) sc__law_draw.nd)
    (B_c (S_tg (E_op opd_divI (E_idx (E_loc 0) E_int) (E_loc 1)) (G_i (j := 0) E_int))
    (B_1 (S_ret (E_mov 2))))) B_0)
    (B_c (S_set (i := 3) (E_idx (E_loc 0) E_int) sc__law_draw.nd)
    (B_c (S_tg (E_op opd_addI (E_loc 3) E_int) (G_i (j := 0) E_int))
    (B_c (S_set (i := 4) (E_op opd_addI (E_op opd_mulI E_int (E_loc 3)) E_int) sc__law_draw.nd)
    (B_c (S_if (T_cmp (opd_ne ft.room.units) (E_idx (E_loc 0) E_int) (E_L A_0)) (B_1 (S_set (i := 4) (E_idx (E_idx (E_loc 0) E_int) (E_op opd_modI (E_loc 3) (E_blF snd_len call_lenA z_len (A_c (E_idx (E_loc 0) E_int) A_0)))) sc__law_draw.nd)) B_0)
    (B_c (S_if (W_and (T_cmp opd_ltI (E_loc 3) (E_blF snd_len call_lenA z_len (A_c (E_idx (E_loc 0) E_int) A_0))) (W_and1 (T_cmp opd_geI (E_blF snd_abs call_abs z_abs (A_c (E_loc 4) A_0)) (E_op opd_powI E_int E_int)))).pt (B_c (S_set (i := 5) (E_op opd_addI (E_op opd_mulI E_int (E_blF snd_abs call_abs z_abs (A_c (E_loc 4) A_0))) (E_ty snd_int1 call_int1 z_int (A_c (E_cmp opd_ltI (E_loc 4) E_int) A_0))) sc__law_draw.nd)
    (B_c (S_tg (E_op opd_divI (E_loc 5) (E_loc 1)) (G_i (j := 0) E_int))
    (B_1 (S_ret (E_op opd_modI (E_loc 5) (E_loc 1)))))) B_0)
    (B_c (S_set (i := 6) (E_op opd_modI (E_op opd_powI (E_op opd_addI (E_op opd_addI (E_op opd_modI (E_loc 4) E_int) (E_op opd_mulI E_int (E_loc 3))) E_int) E_int) E_int) sc__law_draw.nd)
    (B_c (S_set (i := 6) (E_op opd_modI (E_op opd_powI (E_op opd_addI (E_op opd_addI (E_op opd_mulI (E_loc 6) (E_op opd_addI (E_op opd_mulI E_int (E_loc 3)) E_int)) (E_op opd_mulI (E_op opd_mulI E_int (E_loc 3)) (E_loc 3))) E_int) E_int) E_int) sc__law_draw.nd)
    (B_1 (S_ret (E_op opd_modI (E_op opd_divI (E_loc 6) E_int) (E_loc 1))))))))))))
theorem ok__law_signs {f : Addr} {fd : FuncData} (F : Fun K "_law_signs" "_law_signs" s__law_signs f fd) (z_int : mg "int" = none) (z_len : mg "len" = none) (z_range : mg "range" = none) {f__law_draw : Addr} {fd__law_draw : FuncData} (D__law_draw : Def P w K mg base 1 "_law_draw" f__law_draw fd__law_draw ["_law_pen_here", "_law_many"] S__law_draw) : FnG P w K mg base 2 f fd ["_law_pen_here", "_law_rules_here", "_law_many"] S__law_signs :=
  fnG (k := 1) (m := 10) F sc__law_signs rfl fun cdv A outer s H E hgd hr => by
    have ft : Fit (cxG P w K mg base ["_law_pen_here", "_law_rules_here", "_law_many", "_law_marks", "_law_way", "_law_some", "_law_found", "_law_turn", "_law_mark", "_law_row"] "_law_signs" (defScope s__law_signs) f cdv A outer s H E) (fun cls d _ H => E cls d H) 1 := ⟨hgd, hr, takes_of rfl rfl rfl rfl⟩
    have hp : PassesOwn (model P w) (cxG P w K mg base ["_law_pen_here", "_law_rules_here", "_law_many", "_law_marks", "_law_way", "_law_some", "_law_found", "_law_turn", "_law_mark", "_law_row"] "_law_signs" (defScope s__law_signs) f cdv A outer s H E).A (cxG P w K mg base ["_law_pen_here", "_law_rules_here", "_law_many", "_law_marks", "_law_way", "_law_some", "_law_found", "_law_turn", "_law_mark", "_law_row"] "_law_signs" (defScope s__law_signs) f cdv A outer s H E).env (cxG P w K mg base ["_law_pen_here", "_law_rules_here", "_law_many", "_law_marks", "_law_way", "_law_some", "_law_found", "_law_turn", "_law_mark", "_law_row"] "_law_signs" (defScope s__law_signs) f cdv A outer s H E).xe := passes_of rfl
    exact (B_c (S_set (i := 3) (E_lc (own := [("_law_row", 9)]) sc__law_signs.nd (I_a (E_loc 1)) (show BlkOk ["_law_pen_here", "_law_rules_here", "_law_many", "_law_marks", "_law_way", "_law_some", "_law_found", "_law_turn", "_law_mark", "_law_row"] (defScope s__law_signs) _ [("_law_row", 9)] from ⟨rfl, by decide +kernel, by decide +kernel, by decide +kernel, by decide +kernel⟩) (fun _ _ _ _ _ => (G_n (i := 9) sc__law_signs.nd)) (fun _ _ _ _ _ => Ts_0) (fun _ _ _ _ _ => (E_idx (E_loc 9) E_int))) sc__law_signs.nd)
    (B_c (S_set (i := 4) (E_call D__law_draw ft (A_c (E_loc 0) (A_c E_int A_0))) sc__law_signs.nd)
    (B_c (S_lc (i := 5) (own := [("_law_turn", 7)]) sc__law_signs.nd (I_r1 z_range E_int) (show BlkOk ["_law_pen_here", "_law_rules_here", "_law_many", "_law_marks", "_law_way", "_law_some", "_law_found", "_law_turn", "_law_mark", "_law_row"] (defScope s__law_signs) _ [("_law_turn", 7)] from ⟨rfl, by decide +kernel, by decide +kernel, by decide +kernel, by decide +kernel⟩) (fun _ _ _ _ _ => (G_n (i := 7) sc__law_signs.nd)) (fun _ _ _ _ _ => Ts_0) (fun _ _ _ _ _ => (E_idx (E_loc 3) (E_call D__law_draw (Fit.blk ft) (A_c (E_loc 0) (A_c (E_blF snd_len call_lenA z_len (A_c (E_loc 3) A_0)) A_0))))))
    (B_c (S_set (i := 6) E_str sc__law_signs.nd)
    (B_c (S_for hp (I_r1 z_range (E_loc 2)) (G_n (i := 7) sc__law_signs.nd) (B_c (S_set (i := 8) (E_idx (E_loc 3) (E_call D__law_draw ft (A_c (E_loc 0) (A_c (E_blF snd_len call_lenA z_len (A_c (E_loc 3) A_0)) A_0)))) sc__law_signs.nd)
    (B_c (S_if (W_and (T_cmp (opd_eq ft.room.units) (E_loc 4) E_int) (W_and1 (T_cmp opd_gtA (E_call D__law_draw ft (A_c (E_loc 0) (A_c E_int A_0))) E_int))).pt (B_1 (S_set (i := 8) (E_idx (E_loc 5) E_int) sc__law_signs.nd)) B_0)
    (B_1 (S_set (i := 6) (E_op opd_hAdd (E_loc 6) (E_idx (E_L (A_c (E_loc 8) (A_c (E_idx (E_loc 5) (E_op opd_modI (E_loc 7) E_int)) A_0))) (E_ty snd_int call_intA z_int (A_c (E_cmp (opd_eq ft.room.units) (E_loc 4) E_int) A_0)))) sc__law_signs.nd)))))
    (B_1 (S_ret (E_mov 6))))))))
theorem ok__law_line {f : Addr} {fd : FuncData} (F : Fun K "_law_line" "_law_line" s__law_line f fd) (z_len : mg "len" = none) (z_min : mg "min" = none) (z_range : mg "range" = none) {f__law_signs : Addr} {fd__law_signs : FuncData} (D__law_signs : Def P w K mg base 2 "_law_signs" f__law_signs fd__law_signs ["_law_pen_here", "_law_rules_here", "_law_many"] S__law_signs) {f__law_draw : Addr} {fd__law_draw : FuncData} (D__law_draw : Def P w K mg base 1 "_law_draw" f__law_draw fd__law_draw ["_law_pen_here", "_law_many"] S__law_draw) : FnG P w K mg base 3 f fd ["_law_pen_here", "_law_rules_here", "_law_most"] S__law_line :=
  fnG (k := 2) (m := 12) F sc__law_line rfl fun cdv A outer s H E hgd hr => by
    have ft : Fit (cxG P w K mg base ["_law_pen_here", "_law_rules_here", "_law_most", "_law_many", "_law_items", "_law_mark", "_law_turn", "_law_size", "_law_first", "_law_rest", "_law_far", "_law_inner"] "_law_line" (defScope s__law_line) f cdv A outer s H E) (fun cls d _ H => E cls d H) 2 := ⟨hgd, hr, takes_of rfl rfl rfl rfl⟩
    have hp : PassesOwn (model P w) (cxG P w K mg base ["_law_pen_here", "_law_rules_here", "_law_most", "_law_many", "_law_items", "_law_mark", "_law_turn", "_law_size", "_law_first", "_law_rest", "_law_far", "_law_inner"] "_law_line" (defScope s__law_line) f cdv A outer s H E).A (cxG P w K mg base ["_law_pen_here", "_law_rules_here", "_law_most", "_law_many", "_law_items", "_law_mark", "_law_turn", "_law_size", "_law_first", "_law_rest", "_law_far", "_law_inner"] "_law_line" (defScope s__law_line) f cdv A outer s H E).env (cxG P w K mg base ["_law_pen_here", "_law_rules_here", "_law_most", "_law_many", "_law_items", "_law_mark", "_law_turn", "_law_size", "_law_first", "_law_rest", "_law_far", "_law_inner"] "_law_line" (defScope s__law_line) f cdv A outer s H E).xe := passes_of rfl
    exact (B_c (S_set (i := 3) (E_idx (E_L (A_c (E_call D__law_draw ft (A_c (E_loc 0) (A_c (E_op opd_hAdd (E_loc 2) E_int) A_0))) (A_c (E_call D__law_draw ft (A_c (E_loc 0) (A_c E_int A_0))) (A_c (E_call D__law_draw ft (A_c (E_loc 0) (A_c E_int A_0))) A_0)))) (E_call D__law_draw ft (A_c (E_loc 0) (A_c E_int A_0)))) sc__law_line.nd)
    (B_c (S_set (i := 4) (E_L (A_c E_str A_0)) sc__law_line.nd)
    (B_c (S_for hp (I_a (E_call D__law_signs ft (A_c (E_loc 0) (A_c (E_loc 1) (A_c (E_loc 3) A_0))))) (G_n (i := 5) sc__law_line.nd) (B_1 (S_set (i := 4) (E_op opd_hAdd (E_loc 4) (E_L (A_c (E_loc 5) (A_c E_str A_0)))) sc__law_line.nd)))
    (B_c (S_for hp (I_r1 z_range (E_idx (E_L (A_c E_int (A_c (E_call D__law_draw ft (A_c (E_loc 0) (A_c E_int A_0))) (A_c (E_call D__law_draw ft (A_c (E_loc 0) (A_c (E_blF snd_min2 (call_min2 rfl) z_min (A_c E_int (A_c (E_op opd_hAdd (E_loc 3) E_int) A_0))) A_0))) A_0)))) (E_call D__law_draw ft (A_c (E_loc 0) (A_c E_int A_0))))) (G_n (i := 6) sc__law_line.nd) (B_c (S_set (i := 7) (E_op opd_divI (E_op opd_hAdd (E_blF snd_len call_lenA z_len (A_c (E_loc 4) A_0)) E_int) E_int) sc__law_line.nd)
    (B_c (S_set (i := 8) (E_call D__law_draw ft (A_c (E_loc 0) (A_c (E_loc 7) A_0))) sc__law_line.nd)
    (B_c (S_set (i := 9) (E_op opd_subI (E_op opd_subI (E_loc 7) (E_loc 8)) E_int) sc__law_line.nd)
    (B_c (S_set (i := 10) (E_idx (E_L (A_c E_int (A_c (E_call D__law_draw ft (A_c (E_loc 0) (A_c (E_op opd_hAdd (E_loc 9) E_int) A_0))) (A_c (E_blF snd_min2 (call_min2 rfl) z_min (A_c E_int (A_c (E_loc 9) A_0))) (A_c (E_blF snd_min2 (call_min2 rfl) z_min (A_c E_int (A_c (E_loc 9) A_0))) A_0))))) (E_call D__law_draw ft (A_c (E_loc 0) (A_c E_int A_0)))) sc__law_line.nd)
    (B_c (S_set (i := 11) (E_join E_str (E_cut (E_loc 4) (O_1 (E_op opd_hMulT E_int (E_loc 8))) (O_1 (E_op opd_hAdd (E_op opd_hAdd (E_op opd_hMulT E_int (E_loc 8)) (E_op opd_hMulT E_int (E_loc 10))) E_int)))) sc__law_line.nd)
    (B_c (S_set (i := 9) (E_cut (E_loc 4) (O_1 (E_op opd_hAdd (E_op opd_hAdd (E_op opd_hMulT E_int (E_loc 8)) (E_op opd_hMulT E_int (E_loc 10))) E_int)) O_0) sc__law_line.nd)
    (B_1 (S_set (i := 4) (E_op opd_hAdd (E_op opd_hAdd (E_cut (E_loc 4) O_0 (O_1 (E_op opd_hMulT E_int (E_loc 8)))) (E_L (A_c (E_op opd_hAdd (E_op opd_hAdd E_str (E_loc 11)) E_str) A_0))) (E_loc 9)) sc__law_line.nd)))))))))
    (B_1 (S_ret (E_join E_str (E_loc 4))))))))
theorem ok__law_due {f : Addr} {fd : FuncData} (F : Fun K "_law_due" "_law_due" s__law_due f fd) (z_int : mg "int" = none) (z_isinstance : mg "isinstance" = none) (z_str : mg "str" = none) : FnG P w K mg base 1 f fd ["_law_thing"] S__law_due :=
  fnG (k := 0) (m := 4) F sc__law_due rfl fun cdv A outer s H E hgd hr => by
    have ft : Fit (cxG P w K mg base ["_law_thing", "_law_text", "_law_sign", "_law_before"] "_law_due" (defScope s__law_due) f cdv A outer s H E) (fun cls d _ H => E cls d H) 0 := ⟨hgd, hr, takes_of rfl rfl rfl rfl⟩
    have hp : PassesOwn (model P w) (cxG P w K mg base ["_law_thing", "_law_text", "_law_sign", "_law_before"] "_law_due" (defScope s__law_due) f cdv A outer s H E).A (cxG P w K mg base ["_law_thing", "_law_text", "_law_sign", "_law_before"] "_law_due" (defScope s__law_due) f cdv A outer s H E).env (cxG P w K mg base ["_law_thing", "_law_text", "_law_sign", "_law_before"] "_law_due" (defScope s__law_due) f cdv A outer s H E).xe := passes_of rfl
    exact (B_c (S_if (T_not (T_v (E_blF snd_isi L2.call_isi z_isinstance (A_c (E_loc 0) (A_c (E_ty1 z_str) A_0))))) (B_1 (S_ret E_bl)) B_0)
    (B_str (i := 1) (BT_c (ST_of (S_for hp (I_a (E_loc 0)) (G_n (i := 2) sc__law_due.nd) (B_c (S_if (T_cmp opd_notIn (E_loc 2) E_str) (B_1 (S_ret E_bl)) B_0)
    (B_1 (S_set (i := 1) (E_op opd_hAdd (E_loc 1) (E_idx (E_L (A_c (E_loc 2) (A_c E_str A_0))) (E_ty snd_int call_intA z_int (A_c (E_chS od_le od_le E_str (E_loc 2) E_str) A_0)))) sc__law_due.nd)))))
    (BT_c (ST_of (S_if (W_or (T_cmp opd_gtA (E_count (E_loc 1) E_str) E_int) (W_or1 (T_cmp opd_gtA (E_count (E_loc 1) E_str) E_int))).pt (B_1 (S_ret E_bl)) B_0))
    (BT_c (ST_of (S_set (i := 3) E_str sc__law_due.nd))
    (BT_c (ST_while hp (T_cmp (opd_ne ft.room.units) (E_loc 3) (E_loc 1)) (BT_c (ST_of (S_set (i := 3) (E_loc 1) sc__law_due.nd))
    (BT_1 (ST_set (i := 1) (ET_repl (ET_repl (ET_of (E_loc 1)))) sc__law_due.nd))))
    (BT_1 (ST_of (S_ret (E_cmp (opd_eq ft.room.units) (E_loc 1) E_str)))))))) sc__law_due.nd))
theorem ok_counts_in {f : Addr} {fd : FuncData} (F : Fun K "counts_in" "counts_in" s_counts_in f fd) {t_CLOSES : Tok} (g_CLOSES : mg "CLOSES" = some (.str ")" t_CLOSES)) {t_DOT : Tok} (g_DOT : mg "DOT" = some (.str "." t_DOT)) {t_LETTERS : Tok} (g_LETTERS : mg "LETTERS" = some (.str "abcdefghijklmnopqrstuvwxyz" t_LETTERS)) {t_OPENS : Tok} (g_OPENS : mg "OPENS" = some (.str "(" t_OPENS)) : FnG P w K mg base 1 f fd ["text"] S_counts_in :=
  fnG (k := 0) (m := 6) F sc_counts_in rfl fun cdv A outer s H E hgd hr => by
    have ft : Fit (cxG P w K mg base ["text", "operators", "pairs", "depth", "wants_operand", "sign"] "counts_in" (defScope s_counts_in) f cdv A outer s H E) (fun cls d _ H => E cls d H) 0 := ⟨hgd, hr, takes_of rfl rfl rfl rfl⟩
    have hp : PassesOwn (model P w) (cxG P w K mg base ["text", "operators", "pairs", "depth", "wants_operand", "sign"] "counts_in" (defScope s_counts_in) f cdv A outer s H E).A (cxG P w K mg base ["text", "operators", "pairs", "depth", "wants_operand", "sign"] "counts_in" (defScope s_counts_in) f cdv A outer s H E).env (cxG P w K mg base ["text", "operators", "pairs", "depth", "wants_operand", "sign"] "counts_in" (defScope s_counts_in) f cdv A outer s H E).xe := passes_of rfl
    exact (B_c (S_as3 E_int (G_n (i := 1) sc_counts_in.nd) (G_n (i := 2) sc_counts_in.nd) (G_n (i := 3) sc_counts_in.nd))
    (B_c (S_set (i := 4) E_bl sc_counts_in.nd)
    (B_c (S_for hp (I_a (E_loc 0)) (G_n (i := 5) sc_counts_in.nd) (B_1 (S_if (W_and (T_v (E_loc 4)) (W_and1 (T_cmp (opd_eq ft.room.units) (E_loc 5) (E_gs g_OPENS)))).pt (B_c (S_aug (i := 3) iopd_addI E_int sc_counts_in.nd)
    (B_1 (S_aug (i := 2) iopd_addI E_int sc_counts_in.nd))) (B_1 (S_if (W_and (T_v (E_loc 4)) (W_and1 (T_cmp (opd_eq ft.room.units) (E_loc 5) (E_gs g_DOT)))).pt (B_1 (S_set (i := 4) E_bl sc_counts_in.nd)) (B_1 (S_if (W_and (T_not (T_v (E_loc 4))) (W_and (T_cmp (opd_eq ft.room.units) (E_loc 5) (E_gs g_CLOSES)) (W_and1 (T_cmp opd_gtA (E_loc 3) E_int)))).pt (B_1 (S_aug (i := 3) iopd_subI E_int sc_counts_in.nd)) (B_1 (S_if (W_and (T_not (T_v (E_loc 4))) (W_and1 (T_cmp opd_in (E_loc 5) (E_gs g_LETTERS)))).pt (B_c (S_aug (i := 1) iopd_addI E_int sc_counts_in.nd)
    (B_1 (S_set (i := 4) E_bl sc_counts_in.nd))) (B_1 (S_ret E_non)))))))))))
    (B_1 (S_ret (E_if (W_or (T_v (E_loc 4)) (W_or1 (T_cmp opd_gtA (E_loc 3) E_int))).pt E_non (E_T (A_c (E_loc 1) (A_c (E_loc 2) A_0)))))))))
theorem ok_is_expression {f : Addr} {fd : FuncData} (F : Fun K "is_expression" "is_expression" s_is_expression f fd) (z_isinstance : mg "isinstance" = none) (z_str : mg "str" = none) {t_MOST_OPERATORS : Tok} (g_MOST_OPERATORS : mg "MOST_OPERATORS" = some (.int 200 t_MOST_OPERATORS)) {t_MOST_PAIRS : Tok} (g_MOST_PAIRS : mg "MOST_PAIRS" = some (.int 200 t_MOST_PAIRS)) {f_counts_in : Addr} {fd_counts_in : FuncData} (D_counts_in : Def P w K mg base 1 "counts_in" f_counts_in fd_counts_in ["text"] S_counts_in) : FnG P w K mg base 2 f fd ["value"] S_is_expression :=
  fnG (k := 1) (m := 2) F sc_is_expression rfl fun cdv A outer s H E hgd hr => by
    have ft : Fit (cxG P w K mg base ["value", "counts"] "is_expression" (defScope s_is_expression) f cdv A outer s H E) (fun cls d _ H => E cls d H) 1 := ⟨hgd, hr, takes_of rfl rfl rfl rfl⟩
    have hp : PassesOwn (model P w) (cxG P w K mg base ["value", "counts"] "is_expression" (defScope s_is_expression) f cdv A outer s H E).A (cxG P w K mg base ["value", "counts"] "is_expression" (defScope s_is_expression) f cdv A outer s H E).env (cxG P w K mg base ["value", "counts"] "is_expression" (defScope s_is_expression) f cdv A outer s H E).xe := passes_of rfl
    exact (B_c (S_set (i := 1) (E_if (T_v (E_blF snd_isi L2.call_isi z_isinstance (A_c (E_loc 0) (A_c (E_ty1 z_str) A_0)))) (E_call D_counts_in ft (A_c (E_loc 0) A_0)) E_non) sc_is_expression.nd)
    (B_1 (S_ret (E_and (E_cmp opd_notN (E_loc 1) E_non) (E_and (E_cmp opd_leA (E_idx (E_loc 1) E_int) (E_gi g_MOST_OPERATORS)) (E_one (E_cmp opd_leA (E_idx (E_loc 1) E_int) (E_gi g_MOST_PAIRS))))))))
theorem ok__law_right {f : Addr} {fd : FuncData} (F : Fun K "_law_right" "_law_right" s__law_right f fd) (z_repr : mg "repr" = none) {f__law_due : Addr} {fd__law_due : FuncData} (D__law_due : Def P w K mg base 1 "_law_due" f__law_due fd__law_due ["_law_thing"] S__law_due) {f_is_expression : Addr} {fd_is_expression : FuncData} (D_is_expression : Def P w K mg base 2 "is_expression" f_is_expression fd_is_expression ["value"] S_is_expression) (kb_is_expression_0_value : KwB K fd_is_expression ["value"] ["value"] 0 [0]) : FnG P w K mg base 3 f fd ["_law_thing"] S__law_right :=
  fnG (k := 2) (m := 2) F sc__law_right rfl fun cdv A outer s H E hgd hr => by
    have ft : Fit (cxG P w K mg base ["_law_thing", "_law_due_here"] "_law_right" (defScope s__law_right) f cdv A outer s H E) (fun cls d _ H => E cls d H) 2 := ⟨hgd, hr, takes_of rfl rfl rfl rfl⟩
    have hp : PassesOwn (model P w) (cxG P w K mg base ["_law_thing", "_law_due_here"] "_law_right" (defScope s__law_right) f cdv A outer s H E).A (cxG P w K mg base ["_law_thing", "_law_due_here"] "_law_right" (defScope s__law_right) f cdv A outer s H E).env (cxG P w K mg base ["_law_thing", "_law_due_here"] "_law_right" (defScope s__law_right) f cdv A outer s H E).xe := passes_of rfl
    exact (B_c (S_set (i := 1) (E_blF snd_reprA (call_reprB ft.gd ft.room.units) z_repr (A_c (E_call D__law_due ft (A_c (E_loc 0) A_0)) A_0)) sc__law_right.nd)
    (B_1 (S_ret (E_and (E_cmp (opd_eq ft.room.units) (E_blF snd_reprA (call_reprB ft.gd ft.room.units) z_repr (A_c (E_call D_is_expression ft (A_c (E_loc 0) A_0)) A_0)) (E_loc 1)) (E_one (E_cmp (opd_eq ft.room.units) (E_blF snd_reprA (call_reprB ft.gd ft.room.units) z_repr (A_c (E_callK0 D_is_expression ft kb_is_expression_0_value (K_c (E_loc 0) K_0)) A_0)) (E_loc 1)))))))
theorem ok__law_bounds_right {f : Addr} {fd : FuncData} (F : Fun K "_law_bounds_right" "_law_bounds_right" s__law_bounds_right f fd) {f__law_right : Addr} {fd__law_right : FuncData} (D__law_right : Def P w K mg base 3 "_law_right" f__law_right fd__law_right ["_law_thing"] S__law_right) : FnG P w K mg base 4 f fd [] S__law_bounds_right :=
  fnG (k := 3) (m := 3) F sc__law_bounds_right rfl fun cdv A outer s H E hgd hr => by
    have ft : Fit (cxG P w K mg base ["_law_size", "_law_some", "_law_line_here"] "_law_bounds_right" (defScope s__law_bounds_right) f cdv A outer s H E) (fun cls d _ H => E cls d H) 3 := ⟨hgd, hr, takes_of rfl rfl rfl rfl⟩
    have hp : PassesOwn (model P w) (cxG P w K mg base ["_law_size", "_law_some", "_law_line_here"] "_law_bounds_right" (defScope s__law_bounds_right) f cdv A outer s H E).A (cxG P w K mg base ["_law_size", "_law_some", "_law_line_here"] "_law_bounds_right" (defScope s__law_bounds_right) f cdv A outer s H E).env (cxG P w K mg base ["_law_size", "_law_some", "_law_line_here"] "_law_bounds_right" (defScope s__law_bounds_right) f cdv A outer s H E).xe := passes_of rfl
    exact (B_c (S_for hp (I_a (E_T (A_c E_int (A_c E_int (A_c E_int A_0))))) (G_n (i := 0) sc__law_bounds_right.nd) (B_c (S_set (i := 1) (E_L (A_c (E_op opd_hAdd (E_op opd_hMulT E_str (E_loc 0)) E_str) (A_c (E_op opd_hAdd (E_op opd_hAdd (E_op opd_hMulT E_str (E_loc 0)) E_str) (E_op opd_hMulT E_str (E_loc 0))) A_0))) sc__law_bounds_right.nd)
    (B_c (S_ex (E_app (j := 1) (E_op opd_hAdd (E_op opd_hAdd (E_op opd_hMulT E_str (E_loc 0)) E_str) (E_op opd_hMulT E_str (E_loc 0)))))
    (B_c (S_ex (E_app (j := 1) (E_op opd_hAdd (E_op opd_hMulT E_str (E_loc 0)) E_str)))
    (B_c (S_ex (E_app (j := 1) (E_op opd_hAdd (E_op opd_hAdd (E_op opd_hMulT E_str (E_loc 0)) E_str) (E_op opd_hMulT E_str (E_loc 0)))))
    (B_1 (S_if (T_cmp (opd_ne ft.room.units) (E_lc (own := [("_law_line_here", 2)]) sc__law_bounds_right.nd (I_a (E_loc 1)) (show BlkOk ["_law_size", "_law_some", "_law_line_here"] (defScope s__law_bounds_right) _ [("_law_line_here", 2)] from ⟨rfl, by decide +kernel, by decide +kernel, by decide +kernel, by decide +kernel⟩) (fun _ _ _ _ _ => (G_n (i := 2) sc__law_bounds_right.nd)) (fun _ _ _ _ _ => (Ts_1 (T_not (T_v (E_call D__law_right (Fit.blk ft) (A_c (E_loc 2) A_0)))))) (fun _ _ _ _ _ => (E_loc 2))) (E_L A_0)) (B_1 (S_ret E_bl)) B_0)))))))
    (B_1 (S_ret E_bl)))
theorem ok__law_rules {f : Addr} {fd : FuncData} (F : Fun K "_law_rules" "_law_rules" s__law_rules f fd) (z_len : mg "len" = none) (z_list : mg "list" = none) (z_range : mg "range" = none) (z_sorted : mg "sorted" = none) (z_tuple : mg "tuple" = none) {f__law_draw : Addr} {fd__law_draw : FuncData} (D__law_draw : Def P w K mg base 1 "_law_draw" f__law_draw fd__law_draw ["_law_pen_here", "_law_many"] S__law_draw) : FnG P w K mg base 2 f fd ["_law_pen_here"] S__law_rules :=
  fnG (k := 1) (m := 9) F sc__law_rules rfl fun cdv A outer s H E hgd hr => by
    have ft : Fit (cxG P w K mg base ["_law_pen_here", "_law_left", "_law_marks", "_law_high", "_law_steep", "_law_rows", "_law_mark", "_law_first", "_law_turn"] "_law_rules" (defScope s__law_rules) f cdv A outer s H E) (fun cls d _ H => E cls d H) 1 := ⟨hgd, hr, takes_of rfl rfl rfl rfl⟩
    have hp : PassesOwn (model P w) (cxG P w K mg base ["_law_pen_here", "_law_left", "_law_marks", "_law_high", "_law_steep", "_law_rows", "_law_mark", "_law_first", "_law_turn"] "_law_rules" (defScope s__law_rules) f cdv A outer s H E).A (cxG P w K mg base ["_law_pen_here", "_law_left", "_law_marks", "_law_high", "_law_steep", "_law_rows", "_law_mark", "_law_first", "_law_turn"] "_law_rules" (defScope s__law_rules) f cdv A outer s H E).env (cxG P w K mg base ["_law_pen_here", "_law_left", "_law_marks", "_law_high", "_law_steep", "_law_rows", "_law_mark", "_law_first", "_law_turn"] "_law_rules" (defScope s__law_rules) f cdv A outer s H E).xe := passes_of rfl
    exact (B_c (S_set (i := 1) (E_ty snd_listA (call_listA rfl) z_list (A_c E_str A_0)) sc__law_rules.nd)
    (B_c (S_set (i := 2) (E_blF snd_sorted call_sortedA z_sorted (A_c (E_lc (own := [("_law_turn", 8)]) sc__law_rules.nd (I_r1 z_range (E_op opd_hAdd E_int (E_call D__law_draw ft (A_c (E_loc 0) (A_c E_int A_0))))) (show BlkOk ["_law_pen_here", "_law_left", "_law_marks", "_law_high", "_law_steep", "_law_rows", "_law_mark", "_law_first", "_law_turn"] (defScope s__law_rules) _ [("_law_turn", 8)] from ⟨rfl, by decide +kernel, by decide +kernel, by decide +kernel, by decide +kernel⟩) (fun _ _ _ _ _ => (G_n (i := 8) sc__law_rules.nd)) (fun _ _ _ _ _ => Ts_0) (fun _ _ _ _ _ => (E_popi (j := 1) (E_call D__law_draw (Fit.blk ft) (A_c (E_loc 0) (A_c (E_blF snd_len call_lenA z_len (A_c (E_loc 1) A_0)) A_0)))))) A_0)) sc__law_rules.nd)
    (B_c (S_set (i := 3) (E_idx (E_L (A_c E_int (A_c E_int (A_c E_int (A_c E_int (A_c (E_op opd_powI E_int E_int) A_0)))))) (E_call D__law_draw ft (A_c (E_loc 0) (A_c E_int A_0)))) sc__law_rules.nd)
    (B_c (S_set (i := 4) (E_idx (E_L (A_c E_int (A_c E_int (A_c E_int (A_c E_int (A_c (E_op opd_powI E_int E_int) A_0)))))) (E_call D__law_draw ft (A_c (E_loc 0) (A_c E_int A_0)))) sc__law_rules.nd)
    (B_c (S_set (i := 5) (E_L A_0) sc__law_rules.nd)
    (B_c (S_for hp (I_a (E_loc 2)) (G_n (i := 6) sc__law_rules.nd) (B_c (S_set (i := 7) (E_op opd_subI (E_call D__law_draw ft (A_c (E_loc 0) (A_c (E_op opd_hAdd (E_op opd_hMulT E_int (E_loc 3)) E_int) A_0))) (E_loc 3)) sc__law_rules.nd)
    (B_1 (S_ex (E_app (j := 5) (E_T (A_c (E_loc 6) (A_c (E_loc 7) (A_c (E_op opd_subI (E_call D__law_draw ft (A_c (E_loc 0) (A_c (E_op opd_hAdd (E_op opd_hMulT E_int (E_loc 4)) E_int) A_0))) (E_loc 4)) A_0)))))))))
    (B_1 (S_ret (E_ty snd_tuple call_tuple_of z_tuple (A_c (E_loc 5) A_0))))))))))
theorem ok__law_bent {f : Addr} {fd : FuncData} (F : Fun K "_law_bent" "_law_bent" s__law_bent f fd) (z_len : mg "len" = none) {f__law_draw : Addr} {fd__law_draw : FuncData} (D__law_draw : Def P w K mg base 1 "_law_draw" f__law_draw fd__law_draw ["_law_pen_here", "_law_many"] S__law_draw) : FnG P w K mg base 2 f fd ["_law_pen_here", "_law_line_here"] S__law_bent :=
  fnG (k := 1) (m := 7) F sc__law_bent rfl fun cdv A outer s H E hgd hr => by
    have ft : Fit (cxG P w K mg base ["_law_pen_here", "_law_line_here", "_law_way", "_law_at", "_law_sign", "_law_some", "_law_turned"] "_law_bent" (defScope s__law_bent) f cdv A outer s H E) (fun cls d _ H => E cls d H) 1 := ⟨hgd, hr, takes_of rfl rfl rfl rfl⟩
    have hp : PassesOwn (model P w) (cxG P w K mg base ["_law_pen_here", "_law_line_here", "_law_way", "_law_at", "_law_sign", "_law_some", "_law_turned"] "_law_bent" (defScope s__law_bent) f cdv A outer s H E).A (cxG P w K mg base ["_law_pen_here", "_law_line_here", "_law_way", "_law_at", "_law_sign", "_law_some", "_law_turned"] "_law_bent" (defScope s__law_bent) f cdv A outer s H E).env (cxG P w K mg base ["_law_pen_here", "_law_line_here", "_law_way", "_law_at", "_law_sign", "_law_some", "_law_turned"] "_law_bent" (defScope s__law_bent) f cdv A outer s H E).xe := passes_of rfl
    exact (B_c (S_set (i := 2) (E_call D__law_draw ft (A_c (E_loc 0) (A_c E_int A_0))) sc__law_bent.nd)
    (B_c (S_set (i := 3) (E_call D__law_draw ft (A_c (E_loc 0) (A_c (E_op opd_hAdd (E_blF snd_len call_lenA z_len (A_c (E_loc 1) A_0)) E_int) A_0))) sc__law_bent.nd)
    (B_c (S_set (i := 4) (E_idx E_str (E_call D__law_draw ft (A_c (E_loc 0) (A_c E_int A_0)))) sc__law_bent.nd)
    (B_c (S_set (i := 5) (E_L (A_c (E_op opd_hAdd (E_cut (E_loc 1) O_0 (O_1 (E_loc 3))) (E_cut (E_loc 1) (O_1 (E_op opd_hAdd (E_loc 3) E_int)) O_0)) (A_c (E_op opd_hAdd (E_cut (E_loc 1) O_0 (O_1 (E_op opd_hAdd (E_loc 3) E_int))) (E_cut (E_loc 1) (O_1 (E_loc 3)) O_0)) A_0))) sc__law_bent.nd)
    (B_c (S_ex (E_app (j := 5) (E_op opd_hAdd (E_op opd_hAdd (E_cut (E_loc 1) O_0 (O_1 (E_loc 3))) (E_loc 4)) (E_cut (E_loc 1) (O_1 (E_loc 3)) O_0))))
    (B_c (S_set (i := 6) (E_rev (E_cut (E_loc 1) (O_1 (E_loc 3)) (O_1 (E_op opd_hAdd (E_loc 3) E_int)))) sc__law_bent.nd)
    (B_c (S_ex (E_app (j := 5) (E_op opd_hAdd (E_op opd_hAdd (E_cut (E_loc 1) O_0 (O_1 (E_loc 3))) (E_loc 6)) (E_cut (E_loc 1) (O_1 (E_op opd_hAdd (E_loc 3) E_int)) O_0))))
    (B_1 (S_ret (E_idx (E_loc 5) (E_loc 2)))))))))))
theorem ok_law {f : Addr} {fd : FuncData} (F : Fun K "law" "law" s_law f fd) (z_range : mg "range" = none) {f__law_pen : Addr} {fd__law_pen : FuncData} (D__law_pen : Def P w K mg base 1 "_law_pen" f__law_pen fd__law_pen ["_law_script"] S__law_pen) {f__law_line : Addr} {fd__law_line : FuncData} (D__law_line : Def P w K mg base 3 "_law_line" f__law_line fd__law_line ["_law_pen_here", "_law_rules_here", "_law_most"] S__law_line) {f__law_bounds_right : Addr} {fd__law_bounds_right : FuncData} (D__law_bounds_right : Def P w K mg base 4 "_law_bounds_right" f__law_bounds_right fd__law_bounds_right [] S__law_bounds_right) {f__law_rules : Addr} {fd__law_rules : FuncData} (D__law_rules : Def P w K mg base 2 "_law_rules" f__law_rules fd__law_rules ["_law_pen_here"] S__law_rules) {f_is_expression : Addr} {fd_is_expression : FuncData} (D_is_expression : Def P w K mg base 2 "is_expression" f_is_expression fd_is_expression ["value"] S_is_expression) {f__law_bent : Addr} {fd__law_bent : FuncData} (D__law_bent : Def P w K mg base 2 "_law_bent" f__law_bent fd__law_bent ["_law_pen_here", "_law_line_here"] S__law_bent) {f__law_right : Addr} {fd__law_right : FuncData} (D__law_right : Def P w K mg base 3 "_law_right" f__law_right fd__law_right ["_law_thing"] S__law_right) : FnG P w K mg base 5 f fd ["_law_script"] S_law :=
  fnG (k := 4) (m := 8) F sc_law rfl fun cdv A outer s H E hgd hr => by
    have ft : Fit (cxG P w K mg base ["_law_script", "_law_pen_here", "_law_turn", "_law_line_here", "_law_again", "_law_once", "_law_things", "_law_thing"] "law" (defScope s_law) f cdv A outer s H E) (fun cls d _ H => E cls d H) 4 := ⟨hgd, hr, takes_of rfl rfl rfl rfl⟩
    have hp : PassesOwn (model P w) (cxG P w K mg base ["_law_script", "_law_pen_here", "_law_turn", "_law_line_here", "_law_again", "_law_once", "_law_things", "_law_thing"] "law" (defScope s_law) f cdv A outer s H E).A (cxG P w K mg base ["_law_script", "_law_pen_here", "_law_turn", "_law_line_here", "_law_again", "_law_once", "_law_things", "_law_thing"] "law" (defScope s_law) f cdv A outer s H E).env (cxG P w K mg base ["_law_script", "_law_pen_here", "_law_turn", "_law_line_here", "_law_again", "_law_once", "_law_things", "_law_thing"] "law" (defScope s_law) f cdv A outer s H E).xe := passes_of rfl
    exact (B_c (S_set (i := 1) (E_call D__law_pen ft (A_c (E_loc 0) A_0)) sc_law.nd)
    (B_c (S_for hp (I_r1 z_range E_int) (G_n (i := 2) sc_law.nd) (B_c (S_set (i := 3) (E_call D__law_line ft (A_c (E_loc 1) (A_c (E_call D__law_rules ft (A_c (E_loc 1) A_0)) (A_c (E_idx (E_L (A_c E_int (A_c E_int (A_c E_int A_0)))) (E_loc 2)) A_0)))) sc_law.nd)
    (B_c (S_if (T_cmp opd_notB (E_call D_is_expression ft (A_c (E_loc 3) A_0)) E_bl) (B_1 (S_ret E_bl)) B_0)
    (B_1 (S_for hp (I_r1 z_range E_int) (G_n (i := 4) sc_law.nd) (B_c (S_set (i := 5) (E_call D__law_bent ft (A_c (E_loc 1) (A_c (E_loc 3) A_0))) sc_law.nd)
    (B_1 (S_if (W_or (T_not (T_v (E_call D__law_right ft (A_c (E_loc 5) A_0)))) (W_or1 (T_not (T_v (E_call D__law_right ft (A_c (E_call D__law_bent ft (A_c (E_loc 1) (A_c (E_loc 5) A_0))) A_0)))))).pt (B_1 (S_ret E_bl)) B_0))))))))
    (B_c (S_set (i := 6) (E_L (A_c E_non (A_c E_bl (A_c E_int (A_c (E_T A_0) (A_c (E_L A_0) (A_c E_D0 (A_c E_str (A_c (E_T (A_c E_str A_0)) (A_c (E_L (A_c E_str A_0)) (A_c E_str (A_c E_str (A_c E_str (A_c E_str (A_c E_str (A_c E_str (A_c E_str (A_c E_str (A_c E_str A_0))))))))))))))))))) sc_law.nd)
    (B_c (S_set (i := 6) (E_opF opd_hAdd (E_loc 6) (E_L (A_c E_str (A_c E_str (A_c E_str (A_c E_str (A_c E_str (A_c E_str (A_c E_str (A_c E_str (A_c E_str (A_c E_str (A_c E_str A_0))))))))))))) sc_law.nd)
    (B_1 (S_ret (E_and (E_cmp (opd_eq ft.room.units) (E_lc (own := [("_law_thing", 7)]) sc_law.nd (I_a (E_loc 6)) (show BlkOk ["_law_script", "_law_pen_here", "_law_turn", "_law_line_here", "_law_again", "_law_once", "_law_things", "_law_thing"] (defScope s_law) _ [("_law_thing", 7)] from ⟨rfl, by decide +kernel, by decide +kernel, by decide +kernel, by decide +kernel⟩) (fun _ _ _ _ _ => (G_n (i := 7) sc_law.nd)) (fun _ _ _ _ _ => (Ts_1 (T_not (T_v (E_call D__law_right (Fit.blk ft) (A_c (E_loc 7) A_0)))))) (fun _ _ _ _ _ => (E_loc 7))) (E_L A_0)) (E_one (E_call0 D__law_bounds_right ft)))))))))
theorem all_mk {P : Program} {w : World} {K : PySem.W.Frag} {h : Heap} {mg : Str → Option Value} {fa f0 f1 f2 f3 f4 f5 f6 f7 f8 f9 f10 f11 : Addr} (KX : K.In h) (G : h.Ns mainGlobals mg) (hfa : mg "law" = some (.ref fa))
    {od0 an0 : Option Addr} {sl0 : Array (Option Value)} {oc0 kV0 dc0 pm0 cd0 ct0 : Value} (a0 : PySem.W.nsIn K mainGlobals "_law_pen" = some (some (.ref f0))) (l0 : K.lookup f0 = some ⟨oc0, od0, .func (PySem.W.fnOf "_law_pen" "_law_pen" (defArgs s__law_pen) (defBody s__law_pen) (defScope s__law_pen) .none kV0 dc0 pm0 an0 cd0 ct0), sl0⟩) (c0 : PySem.W.codeIn K cd0 "_law_pen" = true) (k0 : PySem.W.keepIn K (.ref f0) = true)
    {od1 an1 : Option Addr} {sl1 : Array (Option Value)} {oc1 kV1 dc1 pm1 cd1 ct1 : Value} (a1 : PySem.W.nsIn K mainGlobals "_law_draw" = some (some (.ref f1))) (l1 : K.lookup f1 = some ⟨oc1, od1, .func (PySem.W.fnOf "_law_draw" "_law_draw" (defArgs s__law_draw) (defBody s__law_draw) (defScope s__law_draw) .none kV1 dc1 pm1 an1 cd1 ct1), sl1⟩) (c1 : PySem.W.codeIn K cd1 "_law_draw" = true) (k1 : PySem.W.keepIn K (.ref f1) = true)
    {od2 an2 : Option Addr} {sl2 : Array (Option Value)} {oc2 kV2 dc2 pm2 cd2 ct2 : Value} (a2 : PySem.W.nsIn K mainGlobals "_law_signs" = some (some (.ref f2))) (l2 : K.lookup f2 = some ⟨oc2, od2, .func (PySem.W.fnOf "_law_signs" "_law_signs" (defArgs s__law_signs) (defBody s__law_signs) (defScope s__law_signs) .none kV2 dc2 pm2 an2 cd2 ct2), sl2⟩) (c2 : PySem.W.codeIn K cd2 "_law_signs" = true) (k2 : PySem.W.keepIn K (.ref f2) = true)
    {od3 an3 : Option Addr} {sl3 : Array (Option Value)} {oc3 kV3 dc3 pm3 cd3 ct3 : Value} (a3 : PySem.W.nsIn K mainGlobals "_law_line" = some (some (.ref f3))) (l3 : K.lookup f3 = some ⟨oc3, od3, .func (PySem.W.fnOf "_law_line" "_law_line" (defArgs s__law_line) (defBody s__law_line) (defScope s__law_line) .none kV3 dc3 pm3 an3 cd3 ct3), sl3⟩) (c3 : PySem.W.codeIn K cd3 "_law_line" = true) (k3 : PySem.W.keepIn K (.ref f3) = true)
    {od4 an4 : Option Addr} {sl4 : Array (Option Value)} {oc4 kV4 dc4 pm4 cd4 ct4 : Value} (a4 : PySem.W.nsIn K mainGlobals "_law_due" = some (some (.ref f4))) (l4 : K.lookup f4 = some ⟨oc4, od4, .func (PySem.W.fnOf "_law_due" "_law_due" (defArgs s__law_due) (defBody s__law_due) (defScope s__law_due) .none kV4 dc4 pm4 an4 cd4 ct4), sl4⟩) (c4 : PySem.W.codeIn K cd4 "_law_due" = true) (k4 : PySem.W.keepIn K (.ref f4) = true)
    {od5 an5 : Option Addr} {sl5 : Array (Option Value)} {oc5 kV5 dc5 pm5 cd5 ct5 : Value} (a5 : PySem.W.nsIn K mainGlobals "counts_in" = some (some (.ref f5))) (l5 : K.lookup f5 = some ⟨oc5, od5, .func (PySem.W.fnOf "counts_in" "counts_in" (defArgs s_counts_in) (defBody s_counts_in) (defScope s_counts_in) .none kV5 dc5 pm5 an5 cd5 ct5), sl5⟩) (c5 : PySem.W.codeIn K cd5 "counts_in" = true) (k5 : PySem.W.keepIn K (.ref f5) = true)
    {od6 an6 : Option Addr} {sl6 : Array (Option Value)} {oc6 kV6 dc6 pm6 cd6 ct6 : Value} (a6 : PySem.W.nsIn K mainGlobals "is_expression" = some (some (.ref f6))) (l6 : K.lookup f6 = some ⟨oc6, od6, .func (PySem.W.fnOf "is_expression" "is_expression" (defArgs s_is_expression) (defBody s_is_expression) (defScope s_is_expression) .none kV6 dc6 pm6 an6 cd6 ct6), sl6⟩) (c6 : PySem.W.codeIn K cd6 "is_expression" = true) (k6 : PySem.W.keepIn K (.ref f6) = true)
    {od7 an7 : Option Addr} {sl7 : Array (Option Value)} {oc7 kV7 dc7 pm7 cd7 ct7 : Value} (a7 : PySem.W.nsIn K mainGlobals "_law_right" = some (some (.ref f7))) (l7 : K.lookup f7 = some ⟨oc7, od7, .func (PySem.W.fnOf "_law_right" "_law_right" (defArgs s__law_right) (defBody s__law_right) (defScope s__law_right) .none kV7 dc7 pm7 an7 cd7 ct7), sl7⟩) (c7 : PySem.W.codeIn K cd7 "_law_right" = true) (k7 : PySem.W.keepIn K (.ref f7) = true)
    {od8 an8 : Option Addr} {sl8 : Array (Option Value)} {oc8 kV8 dc8 pm8 cd8 ct8 : Value} (a8 : PySem.W.nsIn K mainGlobals "_law_bounds_right" = some (some (.ref f8))) (l8 : K.lookup f8 = some ⟨oc8, od8, .func (PySem.W.fnOf "_law_bounds_right" "_law_bounds_right" (defArgs s__law_bounds_right) (defBody s__law_bounds_right) (defScope s__law_bounds_right) .none kV8 dc8 pm8 an8 cd8 ct8), sl8⟩) (c8 : PySem.W.codeIn K cd8 "_law_bounds_right" = true) (k8 : PySem.W.keepIn K (.ref f8) = true)
    {od9 an9 : Option Addr} {sl9 : Array (Option Value)} {oc9 kV9 dc9 pm9 cd9 ct9 : Value} (a9 : PySem.W.nsIn K mainGlobals "_law_rules" = some (some (.ref f9))) (l9 : K.lookup f9 = some ⟨oc9, od9, .func (PySem.W.fnOf "_law_rules" "_law_rules" (defArgs s__law_rules) (defBody s__law_rules) (defScope s__law_rules) .none kV9 dc9 pm9 an9 cd9 ct9), sl9⟩) (c9 : PySem.W.codeIn K cd9 "_law_rules" = true) (k9 : PySem.W.keepIn K (.ref f9) = true)
    {od10 an10 : Option Addr} {sl10 : Array (Option Value)} {oc10 kV10 dc10 pm10 cd10 ct10 : Value} (a10 : PySem.W.nsIn K mainGlobals "_law_bent" = some (some (.ref f10))) (l10 : K.lookup f10 = some ⟨oc10, od10, .func (PySem.W.fnOf "_law_bent" "_law_bent" (defArgs s__law_bent) (defBody s__law_bent) (defScope s__law_bent) .none kV10 dc10 pm10 an10 cd10 ct10), sl10⟩) (c10 : PySem.W.codeIn K cd10 "_law_bent" = true) (k10 : PySem.W.keepIn K (.ref f10) = true)
    {od11 an11 : Option Addr} {sl11 : Array (Option Value)} {oc11 kV11 dc11 pm11 cd11 ct11 : Value} (a11 : PySem.W.nsIn K mainGlobals "law" = some (some (.ref f11))) (l11 : K.lookup f11 = some ⟨oc11, od11, .func (PySem.W.fnOf "law" "law" (defArgs s_law) (defBody s_law) (defScope s_law) .none kV11 dc11 pm11 an11 cd11 ct11), sl11⟩) (c11 : PySem.W.codeIn K cd11 "law" = true) (k11 : PySem.W.keepIn K (.ref f11) = true)
    (z_abs : PySem.W.nsIn K mainGlobals "abs" = some none)
    (z_int : PySem.W.nsIn K mainGlobals "int" = some none)
    (z_isinstance : PySem.W.nsIn K mainGlobals "isinstance" = some none)
    (z_len : PySem.W.nsIn K mainGlobals "len" = some none)
    (z_list : PySem.W.nsIn K mainGlobals "list" = some none)
    (z_min : PySem.W.nsIn K mainGlobals "min" = some none)
    (z_range : PySem.W.nsIn K mainGlobals "range" = some none)
    (z_repr : PySem.W.nsIn K mainGlobals "repr" = some none)
    (z_sorted : PySem.W.nsIn K mainGlobals "sorted" = some none)
    (z_str : PySem.W.nsIn K mainGlobals "str" = some none)
    (z_tuple : PySem.W.nsIn K mainGlobals "tuple" = some none)
    {t_CLOSES : Tok} (g_CLOSES : PySem.W.nsIn K mainGlobals "CLOSES" = some (some (.str ")" t_CLOSES)))
    {t_DOT : Tok} (g_DOT : PySem.W.nsIn K mainGlobals "DOT" = some (some (.str "." t_DOT)))
    {t_LETTERS : Tok} (g_LETTERS : PySem.W.nsIn K mainGlobals "LETTERS" = some (some (.str "abcdefghijklmnopqrstuvwxyz" t_LETTERS)))
    {t_MOST_OPERATORS : Tok} (g_MOST_OPERATORS : PySem.W.nsIn K mainGlobals "MOST_OPERATORS" = some (some (.int 200 t_MOST_OPERATORS)))
    {t_MOST_PAIRS : Tok} (g_MOST_PAIRS : PySem.W.nsIn K mainGlobals "MOST_PAIRS" = some (some (.int 200 t_MOST_PAIRS)))
    {t_OPENS : Tok} (g_OPENS : PySem.W.nsIn K mainGlobals "OPENS" = some (some (.str "(" t_OPENS))) :
    ∃ fd : FuncData, (∀ (s : Shared) (u : Value), BindsTo s fd ⟨[u], []⟩ [("_law_script", u)]) ∧ ∀ base : Heap, K.In base → base.Ns mainGlobals mg → FnG P w K mg base 5 fa fd ["_law_script"] S_law := by
  have e := hfa.symm.trans (PySem.W.mg_of KX G a11)
  cases e
  have F0 := fun_mk (st := s__law_pen) l0 c0 k0
  have F1 := fun_mk (st := s__law_draw) l1 c1 k1
  have F2 := fun_mk (st := s__law_signs) l2 c2 k2
  have F3 := fun_mk (st := s__law_line) l3 c3 k3
  have F4 := fun_mk (st := s__law_due) l4 c4 k4
  have F5 := fun_mk (st := s_counts_in) l5 c5 k5
  have F6 := fun_mk (st := s_is_expression) l6 c6 k6
  have F7 := fun_mk (st := s__law_right) l7 c7 k7
  have F8 := fun_mk (st := s__law_bounds_right) l8 c8 k8
  have F9 := fun_mk (st := s__law_rules) l9 c9 k9
  have F10 := fun_mk (st := s__law_bent) l10 c10 k10
  have F11 := fun_mk (st := s_law) l11 c11 k11
  refine ⟨PySem.W.fnOf "law" "law" (defArgs s_law) (defBody s_law) (defScope s_law) .none kV11 dc11 pm11 an11 cd11 ct11, fun s v => .of_eq rfl, fun base _ _ => ?_⟩
  have D__law_pen : Def P w K mg base 1 "_law_pen" f0 _ ["_law_script"] S__law_pen := ⟨ok__law_pen F0 (PySem.W.mg_none_of KX G z_list), PySem.W.mg_of KX G a0, k0, F0.binds fun _ _ _ _ _ _ us hl => match us, hl with | [_], _ => rfl⟩
  have D__law_draw : Def P w K mg base 1 "_law_draw" f1 _ ["_law_pen_here", "_law_many"] S__law_draw := ⟨ok__law_draw F1 (PySem.W.mg_none_of KX G z_abs) (PySem.W.mg_none_of KX G z_int) (PySem.W.mg_none_of KX G z_len), PySem.W.mg_of KX G a1, k1, F1.binds fun _ _ _ _ _ _ us hl => match us, hl with | [_, _], _ => rfl⟩
  have D__law_signs : Def P w K mg base 2 "_law_signs" f2 _ ["_law_pen_here", "_law_rules_here", "_law_many"] S__law_signs := ⟨ok__law_signs F2 (PySem.W.mg_none_of KX G z_int) (PySem.W.mg_none_of KX G z_len) (PySem.W.mg_none_of KX G z_range) D__law_draw, PySem.W.mg_of KX G a2, k2, F2.binds fun _ _ _ _ _ _ us hl => match us, hl with | [_, _, _], _ => rfl⟩
  have D__law_line : Def P w K mg base 3 "_law_line" f3 _ ["_law_pen_here", "_law_rules_here", "_law_most"] S__law_line := ⟨ok__law_line F3 (PySem.W.mg_none_of KX G z_len) (PySem.W.mg_none_of KX G z_min) (PySem.W.mg_none_of KX G z_range) D__law_signs D__law_draw, PySem.W.mg_of KX G a3, k3, F3.binds fun _ _ _ _ _ _ us hl => match us, hl with | [_, _, _], _ => rfl⟩
  have D__law_due : Def P w K mg base 1 "_law_due" f4 _ ["_law_thing"] S__law_due := ⟨ok__law_due F4 (PySem.W.mg_none_of KX G z_int) (PySem.W.mg_none_of KX G z_isinstance) (PySem.W.mg_none_of KX G z_str), PySem.W.mg_of KX G a4, k4, F4.binds fun _ _ _ _ _ _ us hl => match us, hl with | [_], _ => rfl⟩
  have D_counts_in : Def P w K mg base 1 "counts_in" f5 _ ["text"] S_counts_in := ⟨ok_counts_in F5 (PySem.W.mg_of KX G g_CLOSES) (PySem.W.mg_of KX G g_DOT) (PySem.W.mg_of KX G g_LETTERS) (PySem.W.mg_of KX G g_OPENS), PySem.W.mg_of KX G a5, k5, F5.binds fun _ _ _ _ _ _ us hl => match us, hl with | [_], _ => rfl⟩
  have D_is_expression : Def P w K mg base 2 "is_expression" f6 _ ["value"] S_is_expression := ⟨ok_is_expression F6 (PySem.W.mg_none_of KX G z_isinstance) (PySem.W.mg_none_of KX G z_str) (PySem.W.mg_of KX G g_MOST_OPERATORS) (PySem.W.mg_of KX G g_MOST_PAIRS) D_counts_in, PySem.W.mg_of KX G a6, k6, F6.binds fun _ _ _ _ _ _ us hl => match us, hl with | [_], _ => rfl⟩
  have kb_is_expression_0_value : KwB K _ ["value"] ["value"] 0 [0] := KwB.of (fd := PySem.W.fnOf "is_expression" "is_expression" (defArgs s_is_expression) (defBody s_is_expression) (defScope s_is_expression) .none kV6 dc6 pm6 an6 cd6 ct6) fun us ws h1 h2 => match us, ws, h1, h2 with | [], [_], _, _ => rfl
  have D__law_right : Def P w K mg base 3 "_law_right" f7 _ ["_law_thing"] S__law_right := ⟨ok__law_right F7 (PySem.W.mg_none_of KX G z_repr) D__law_due D_is_expression kb_is_expression_0_value, PySem.W.mg_of KX G a7, k7, F7.binds fun _ _ _ _ _ _ us hl => match us, hl with | [_], _ => rfl⟩
  have D__law_bounds_right : Def P w K mg base 4 "_law_bounds_right" f8 _ [] S__law_bounds_right := ⟨ok__law_bounds_right F8 D__law_right, PySem.W.mg_of KX G a8, k8, F8.binds fun _ _ _ _ _ _ us hl => match us, hl with | [], _ => rfl⟩
  have D__law_rules : Def P w K mg base 2 "_law_rules" f9 _ ["_law_pen_here"] S__law_rules := ⟨ok__law_rules F9 (PySem.W.mg_none_of KX G z_len) (PySem.W.mg_none_of KX G z_list) (PySem.W.mg_none_of KX G z_range) (PySem.W.mg_none_of KX G z_sorted) (PySem.W.mg_none_of KX G z_tuple) D__law_draw, PySem.W.mg_of KX G a9, k9, F9.binds fun _ _ _ _ _ _ us hl => match us, hl with | [_], _ => rfl⟩
  have D__law_bent : Def P w K mg base 2 "_law_bent" f10 _ ["_law_pen_here", "_law_line_here"] S__law_bent := ⟨ok__law_bent F10 (PySem.W.mg_none_of KX G z_len) D__law_draw, PySem.W.mg_of KX G a10, k10, F10.binds fun _ _ _ _ _ _ us hl => match us, hl with | [_, _], _ => rfl⟩
  exact ok_law F11 (PySem.W.mg_none_of KX G z_range) D__law_pen D__law_line D__law_bounds_right D__law_rules D_is_expression D__law_bent D__law_right
end
end Pk04
/-! Lk04: what law k04 computes. -/
namespace Pk04
open PySem PySem.Spec PyProof.Rows L2 Pm Pg
theorem hS : Pm.Draws S__law_draw := drawsA ⟨40433, 59, 2147483549, 50047, 41, 2147483579, 23, 70003, 2147483629⟩ (by unfold DK.ok; decide)
theorem e_pen : S__law_pen = penS := rfl
theorem e_lrules : S__law_rules = x_lrules S__law_draw := rfl
theorem e_lsigns : S__law_signs = x_lsigns S__law_draw := rfl
theorem e_lline : S__law_line = x_lline S__law_draw := rfl
theorem e_counts_in : S_counts_in = x_counts_in := rfl
theorem e_is_expression : S_is_expression = x_is_expression := rfl
noncomputable def b_oldue_1 : M Fl := (seq (Pm.ite (tst (Pm.bin opNotIn (loc 2) (con (.str "().abcdefghijklmnopqrstuvwxyz")))) (rtn (con (.bl false))) sNx)
    (asg (Pm.bin hAdd (loc 1) (idx (aCons (disp true .lst (aCons (loc 2) (aCons (con (.str "+")) aNil))) (aCons (app opInt (aCons (chS dLe dLe (con (.str "a")) (loc 2) (con (.str "z"))) aNil)) aNil)))) (gN 1)))
noncomputable def t_oldue_1 : M Bool := (tst (Pm.bin opNe (loc 3) (loc 1)))
noncomputable def b_oldue_2 : M Fl := (seq (asg (loc 1) (gN 3))
    (asg (Pm.un (opRepl "(.)" ".") (Pm.un (opRepl ".+." ".") (loc 1))) (gN 1)))
theorem bq_ldue : b__law_due = (seq (Pm.ite (notT (tst (app opIsi (aCons (loc 0) (aCons (con (.op (.ty "str"))) aNil))))) (rtn (con (.bl false))) sNx)
    (seq (asg (con (.str "")) (gN 1))
    (seq (forS (srcA (loc 0)) (gN 2) b_oldue_1)
    (seq (Pm.ite (orT (tst (Pm.bin opGtA (smet1 opCountS (loc 1) (con (.str "+"))) (con (.int 200)))) (tst (Pm.bin opGtA (smet1 opCountS (loc 1) (con (.str "("))) (con (.int 200))))) (rtn (con (.bl false))) sNx)
    (seq (asg (con (.str "")) (gN 3))
    (seq (whl t_oldue_1 b_oldue_2)
    (rtn (Pm.bin opEq (loc 1) (con (.str ".")))))))))) := rfl
theorem bq_lright : b__law_right = (seq (asg (app opReprA (aCons (callF S__law_due (aCons (loc 0) aNil)) aNil)) (gN 1))
    (rtn (andE (Pm.bin opEq (app opReprA (aCons (callF S_is_expression (aCons (loc 0) aNil)) aNil)) (loc 1)) (Pm.bin opEq (app opReprA (aCons (callF S_is_expression (selA 1 [0] (aCons (loc 0) aNil))) aNil)) (loc 1))))) := rfl
theorem bq_lbent : b__law_bent = (seq (asg (callF S__law_draw (aCons (loc 0) (aCons (con (.int 4)) aNil))) (gN 2))
    (seq (asg (callF S__law_draw (aCons (loc 0) (aCons (Pm.bin hAdd (app opLen (aCons (loc 1) aNil)) (con (.int 1))) aNil))) (gN 3))
    (seq (asg (idx (aCons (con (.str "..()()abz A+-0\n")) (aCons (callF S__law_draw (aCons (loc 0) (aCons (con (.int 15)) aNil))) aNil))) (gN 4))
    (seq (asg (disp true .lst (aCons (Pm.bin hAdd (cut (loc 1) none (some (loc 3))) (cut (loc 1) (some (Pm.bin hAdd (loc 3) (con (.int 1)))) none)) (aCons (Pm.bin hAdd (cut (loc 1) none (some (Pm.bin hAdd (loc 3) (con (.int 1))))) (cut (loc 1) (some (loc 3)) none)) aNil))) (gN 5))
    (seq (drp (appd 5 (Pm.bin hAdd (Pm.bin hAdd (cut (loc 1) none (some (loc 3))) (loc 4)) (cut (loc 1) (some (loc 3)) none))))
    (seq (asg (Pm.un opRev (cut (loc 1) (some (loc 3)) (some (Pm.bin hAdd (loc 3) (con (.int 2)))))) (gN 6))
    (seq (drp (appd 5 (Pm.bin hAdd (Pm.bin hAdd (cut (loc 1) none (some (loc 3))) (loc 6)) (cut (loc 1) (some (Pm.bin hAdd (loc 3) (con (.int 2)))) none))))
    (rtn (idx (aCons (loc 5) (aCons (loc 2) aNil))))))))))) := rfl
noncomputable def c_olbounds_right_1 : M EV := comp [2] (srcA (loc 1)) (gN 2) (notT (tst (callF S__law_right (aCons (loc 2) aNil)))) (loc 2)
noncomputable def b_olbounds_right_1 : M Fl := (seq (asg (disp true .lst (aCons (Pm.bin hAdd (Pm.bin hMulT (con (.str ".a")) (loc 0)) (con (.str "."))) (aCons (Pm.bin hAdd (Pm.bin hAdd (Pm.bin hMulT (con (.str "(")) (loc 0)) (con (.str "."))) (Pm.bin hMulT (con (.str ")")) (loc 0))) aNil))) (gN 1))
    (seq (drp (appd 1 (Pm.bin hAdd (Pm.bin hAdd (Pm.bin hMulT (con (.str "(")) (loc 0)) (con (.str ".a."))) (Pm.bin hMulT (con (.str ")")) (loc 0)))))
    (seq (drp (appd 1 (Pm.bin hAdd (Pm.bin hMulT (con (.str "(.)a")) (loc 0)) (con (.str "(.)")))))
    (seq (drp (appd 1 (Pm.bin hAdd (Pm.bin hAdd (Pm.bin hMulT (con (.str "(.a")) (loc 0)) (con (.str "."))) (Pm.bin hMulT (con (.str ")")) (loc 0)))))
    (Pm.ite (tst (Pm.bin opNe c_olbounds_right_1 (disp true .lst aNil))) (rtn (con (.bl false))) sNx)))))
theorem bq_lbounds_right : b__law_bounds_right = (seq (forS (srcA (disp false .tup (aCons (con (.int 199)) (aCons (con (.int 200)) (aCons (con (.int 201)) aNil))))) (gN 0) b_olbounds_right_1)
    (rtn (con (.bl true)))) := rfl
noncomputable def b_olaw_1 : M Fl := (seq (asg (callF S__law_bent (aCons (loc 1) (aCons (loc 3) aNil))) (gN 5))
    (Pm.ite (orT (notT (tst (callF S__law_right (aCons (loc 5) aNil)))) (notT (tst (callF S__law_right (aCons (callF S__law_bent (aCons (loc 1) (aCons (loc 5) aNil))) aNil))))) (rtn (con (.bl false))) sNx))
noncomputable def b_olaw_2 : M Fl := (seq (asg (callF S__law_line (aCons (loc 1) (aCons (callF S__law_rules (aCons (loc 1) aNil)) (aCons (idx (aCons (disp true .lst (aCons (con (.int 200)) (aCons (con (.int 30)) (aCons (con (.int 8)) aNil)))) (aCons (loc 2) aNil))) aNil)))) (gN 3))
    (seq (Pm.ite (tst (Pm.bin opNotB (callF S_is_expression (aCons (loc 3) aNil)) (con (.bl true)))) (rtn (con (.bl false))) sNx)
    (forS (srcR1 (aCons (con (.int 8)) aNil)) (gN 4) b_olaw_1)))
noncomputable def d_olaw_1 : M EV := (disp true .lst (aCons (con .non) (aCons (con (.bl true)) (aCons (con (.int 0)) (aCons (disp false .tup aNil) (aCons (disp true .lst aNil) (aCons newD (aCons (con (.str ".")) (aCons (disp false .tup (aCons (con (.str ".")) aNil)) (aCons (disp true .lst (aCons (con (.str ".a.")) aNil)) (aCons (con (.str "")) (aCons (con (.str ".")) (aCons (con (.str "()")) (aCons (con (.str "(.)")) (aCons (con (.str "..")) (aCons (con (.str "a")) (aCons (con (.str ".a")) (aCons (con (.str "a.")) (aCons (con (.str ".aa.")) aNil)))))))))))))))))))
noncomputable def d_olaw_2 : M EV := (disp true .lst (aCons (con (.str ".(.)")) (aCons (con (.str "(.).")) (aCons (con (.str ".a(.b.)")) (aCons (con (.str ").(")) (aCons (con (.str "(.")) (aCons (con (.str ".)")) (aCons (con (.str ". a .")) (aCons (con (.str ".A.")) (aCons (con (.str ".a.\n")) (aCons (con (.str "(.a.)b.")) (aCons (con (.str "(.a).")) aNil))))))))))))
noncomputable def c_olaw_1 : M EV := comp [7] (srcA (loc 6)) (gN 7) (notT (tst (callF S__law_right (aCons (loc 7) aNil)))) (loc 7)
theorem bq_law : b_law = (seq (asg (callF S__law_pen (aCons (loc 0) aNil)) (gN 1))
    (seq (forS (srcR1 (aCons (con (.int 3)) aNil)) (gN 2) b_olaw_2)
    (seq (asg d_olaw_1 (gN 6))
    (seq (asg (binF hAdd (loc 6) d_olaw_2) (gN 6))
    (rtn (andE (Pm.bin opEq c_olaw_1 (disp true .lst aNil)) (callF S__law_bounds_right aNil))))))) := rfl
/-! ### texts of the law -/
theorem lit {s : String} {l : List Nat} (h : s.toList.map Char.toNat = l) : ((s : String) : Str) = T l := by rw [show ((s : String) : Str) = Str.ofString s from rfl, T_lit, h]
theorem plus_T : (("+" : String) : Str) = T [43] := lit rfl
theorem alpha_T : (("().abcdefghijklmnopqrstuvwxyz" : String) : Str) = T ([40, 41, 46] ++ ABC) := lit rfl
theorem fold1_T : ((".+." : String) : Str) = T [46, 43, 46] := lit rfl
theorem fold2_T : (("(.)" : String) : Str) = T [40, 46, 41] := lit rfl
theorem a_T : (("a" : String) : Str) = T [97] := lit rfl
theorem z_T : (("z" : String) : Str) = T [122] := lit rfl
instance (c : Nat) : Decidable (Ex.okS c) := inferInstanceAs (Decidable (_ ∨ _))
theorem nin_alpha (c : Nat) : opNotIn [sg c, .str ("().abcdefghijklmnopqrstuvwxyz" : String)] = some (.bl (!decide (Ex.okS c))) := by
  rw [alpha_T, notIn_T]
  congr 3
  refine decide_eq_decide.mpr ?_
  have := mem_ABC c
  unfold Ex.okS
  rw [List.mem_append, ← this, decide_eq_true_eq]
  simp only [List.mem_cons, List.not_mem_nil, or_false]
  omega
theorem le_a (c : Nat) : dLe (T [97]) (T [c]) = decide (97 ≤ c) := leS_sg 97 c
theorem le_z (c : Nat) : dLe (T [c]) (T [122]) = decide (c ≤ 122) := leS_sg c 122
def fo (l : List Nat) : List Nat := (l.map Ex.hl).map Ex.gsw
theorem fo_len (l : List Nat) : (fo l).length = l.length := by simp [fo]
theorem fo_sign {c : Nat} (h : Ex.okS c) : Ex.gsw (Ex.hl c) = if Ex.isL c = true then 43 else c := by
  unfold Ex.hl
  by_cases hL : Ex.isL c = true
  · rw [if_pos hL, if_pos hL]; rfl
  · rw [if_neg hL, if_neg hL]
    rcases h with h | rfl | rfl | rfl
    · exact absurd h hL
    · rfl
    · rfl
    · rfl
theorem isEx_bad {l : List Nat} {c : Nat} (hc : c ∈ l) (h : ¬ Ex.okS c) : isEx l = false := by
  unfold isEx Ex.counts
  cases e : Ex.scan (0, 0, 0, true) l with
  | none => rfl
  | some s => exact absurd (Ex.scan_okS l _ s e c hc) h
mutual
theorem Op.prs_count : ∀ (x : Ex.Op), (∀ c ∈ x.lets, Ex.isL c = true) → x.text.count 40 = x.prs
  | .dot, _ => rfl
  | .par e, h => by
    show List.count 40 (40 :: (e.text ++ [41])) = e.prs + 1
    rw [List.count_cons_self, List.count_append, E.prs_count e h]
    rfl
theorem E.prs_count : ∀ (e : Ex.E), (∀ c ∈ e.lets, Ex.isL c = true) → e.text.count 40 = e.prs
  | .one x, h => Op.prs_count x h
  | .cons x d e, h => by
    have hd := Ex.isL_40 (h d (by simp [Ex.E.lets]))
    show List.count 40 (x.text ++ d :: e.text) = x.prs + e.prs
    rw [List.count_append, List.count_cons_of_ne hd.1, Op.prs_count x (fun k hk => h k (by simp [Ex.E.lets, hk])), E.prs_count e (fun k hk => h k (by simp [Ex.E.lets, hk]))]
end
theorem isEx_acc {l : List Nat} : isEx l = (Ex.acc l && (decide ((l.filter Ex.isL).length ≤ 200) && decide (l.count 40 ≤ 200))) := by
  rw [Ex.acc_counts]
  unfold isEx
  cases h : Ex.counts l with
  | none => rfl
  | some q =>
    obtain ⟨o, p⟩ := q
    obtain ⟨e, rfl, hL, rfl, rfl⟩ := Ex.counts_some h
    rw [Ex.E.letters e hL, E.prs_count e hL]
    rfl
theorem count43 {l : List Nat} (h : ∀ c ∈ l, Ex.okS c) : (fo l).count 43 = (l.filter Ex.isL).length := by
  unfold fo
  induction l with
  | nil => rfl
  | cons c l ih =>
    rw [List.map_cons, List.map_cons, fo_sign (h c (by simp)), List.filter_cons]
    have ih' := ih fun k hk => h k (by simp [hk])
    by_cases hL : Ex.isL c = true
    · rw [if_pos hL, if_pos hL, List.count_cons_self, ih', List.length_cons]
    · rw [if_neg hL, if_neg hL, List.count_cons_of_ne, ih']
      rcases h c (by simp) with q | rfl | rfl | rfl
      · exact absurd q hL
      · decide
      · decide
      · decide
theorem count40 {l : List Nat} (h : ∀ c ∈ l, Ex.okS c) : (fo l).count 40 = l.count 40 := by
  unfold fo
  induction l with
  | nil => rfl
  | cons c l ih =>
    rw [List.map_cons, List.map_cons, fo_sign (h c (by simp)), List.count_cons, List.count_cons, ih fun k hk => h k (by simp [hk])]
    by_cases hL : Ex.isL c = true
    · have := Ex.isL_40 hL
      rw [if_pos hL]
      simp [this.1]
    · rw [if_neg hL]
theorem fin_ok {v : List Nat} (hL : ∀ c ∈ v, Ex.isL c = true → c = 97) (h : v = [] ∨ Ex.R v = v) : decide (v.map Ex.gsw = [46]) = Ex.acc v := by
  cases ha : Ex.acc v with
  | true =>
    rcases h with rfl | h
    · exact absurd ha (by decide)
    · have := Ex.nofold hL ha (Ex.R_fix (congrArg List.length h)).2
      rw [this]
      rfl
  | false =>
    refine decide_eq_false fun q => ?_
    have : v = [46] := Ex.map_inj q
    rw [this] at ha
    exact absurd ha (by decide)
/-! ### the law's own look -/
theorem due_ok (l : List Nat) (hl : l.length ≤ 4000) : S__law_due [.str (T l)] = .ret (.bl (isEx l)) [.str (T l)] := by
  have t1 := isi_str (d := .str (T l)) rfl
  have hw : Wf S__law_due [.str (T l)] fun d as => d = .bl (isEx l) ∧ as = [.str (T l)] := by
    unfold S__law_due
    refine wf_mkF ?_
    rw [bq_ldue]
    show Wp _ [some (.str (T l)), none, none, none] _
    refine wp_seq fun K k1 k2 k3 k4 => ?_
    simp [Wp, mkF, reFrz, seq, Pm.ite, rtn, mov, asg, drp, sNx, bnd, Pm.bin, Pm.un, app, aCons, aNil, idx, loc, con, Pm.ret, peek1, peeks, itemOf, on2I, iAdd, iSub, iGt, iGe, iLt, iLe, iDiv, iMod, use1, useL, gI, gN, tst, andT, orT, notT, andE, orE, notE, ifE, ixN, D.frz, D.plain, plainL, argsBack, opLen, opAbs, opInt1, opNeg, disp, cap, callF, takes, puts, selA, sel, aApp, par, gT, gsC, gs0, appF, opDivmod, frzL, plainL, t1, isStr]
    refine k1 _ ?_
    clear k1 k2 k3 k4 K
    refine wp_seq fun K k1 k2 k3 k4 => ?_
    simp [Wp, mkF, reFrz, seq, Pm.ite, rtn, mov, asg, drp, sNx, bnd, Pm.bin, Pm.un, app, aCons, aNil, idx, loc, con, Pm.ret, peek1, peeks, itemOf, on2I, iAdd, iSub, iGt, iGe, iLt, iLe, iDiv, iMod, use1, useL, gI, gN, tst, andT, orT, notT, andE, orE, notE, ifE, ixN, D.frz, D.plain, plainL, argsBack, opLen, opAbs, opInt1, opNeg, disp, cap, callF, takes, puts, selA, sel, aApp, par, gT, gsC, gs0, appF, opDivmod, frzL, plainL, empty_T]
    refine k1 _ ?_
    clear k1 k2 k3 k4 K
    refine wp_seq fun K0 j1 j2 j3 j4 => ?_
    have hs : srcA (loc 0) [some (.str (T l)), some (.str (T [])), none, none] = .ok (l.map sg) [some (.str (T l)), some (.str (T [])), none, none] := src_T (j := 0) rfl rfl rfl
    refine wp_for hs (fun j ρ => ∃ x2 : Option D, ρ = [some (.str (T l)), some (.str (T (fo (l.take j)))), x2, none] ∧ ∀ c ∈ l.take j, Ex.okS c) ⟨none, rfl, fun c hc => by simp at hc⟩ ?_ ?_
    · rintro j d ρ hd ⟨x2, rfl, hok⟩
      have hj : j < l.length := by
        have := (List.getElem?_eq_some_iff.mp hd).1
        simpa using this
      obtain rfl : sg l[j] = d := by rw [get_sg hj] at hd; exact Option.some.inj hd
      refine ⟨_, rfl, ?_⟩
      have hmem : l[j] ∈ l := List.getElem_mem hj
      have tk : l.take (j + 1) = l.take j ++ [l[j]] := by rw [List.take_add_one, List.getElem?_eq_getElem hj]; rfl
      have fl := fo_len (l.take j)
      rw [List.length_take] at fl
      generalize l[j] = c at *
      unfold b_oldue_1
      show Wp _ [some (.str (T l)), some (.str (T (fo (l.take j)))), some (sg c), none] _
      by_cases hc : Ex.okS c
      · refine wp_seq fun K k1 k2 k3 k4 => ?_
        simp [Wp, mkF, reFrz, seq, Pm.ite, rtn, mov, asg, drp, sNx, bnd, Pm.bin, Pm.un, app, aCons, aNil, idx, loc, con, Pm.ret, peek1, peeks, itemOf, on2I, iAdd, iSub, iGt, iGe, iLt, iLe, iDiv, iMod, use1, useL, gI, gN, tst, andT, orT, notT, andE, orE, notE, ifE, ixN, D.frz, D.plain, plainL, argsBack, opLen, opAbs, opInt1, opNeg, disp, cap, callF, takes, puts, selA, sel, aApp, par, gT, gsC, gs0, appF, opDivmod, frzL, plainL, nin_alpha, hc]
        refine k1 _ ?_
        clear k1 k2 k3 k4 K
        have hat : atI [sg c, .str (T [43])] (if Ex.isL c = true then 1 else 0) = some (sg (Ex.gsw (Ex.hl c))) := by
          rw [fo_sign hc]
          by_cases hL : Ex.isL c = true
          · rw [if_pos hL, if_pos hL]; rfl
          · rw [if_neg hL, if_neg hL]; rfl
        have hadd : hAdd [.str (T (fo (l.take j))), sg (Ex.gsw (Ex.hl c))] = some (.str (T (fo (l.take (j + 1))))) := by
          rw [add_T (by show _ + 1 ≤ 1000000; omega), tk]
          unfold fo
          rw [List.map_append, List.map_append]
          rfl
        have hch : chS dLe dLe (con (.str (T [97]))) (loc 2) (con (.str (T [122]))) [some (.str (T l)), some (.str (T (fo (l.take j)))), some (sg c), none] = .ok (.val (.bl (Ex.isL c))) [some (.str (T l)), some (.str (T (fo (l.take j)))), some (sg c), none] := by
          unfold Ex.isL
          by_cases h1 : 97 ≤ c
          · simp [chS, mkF, reFrz, seq, Pm.ite, rtn, mov, asg, drp, sNx, bnd, Pm.bin, Pm.un, app, aCons, aNil, idx, loc, con, Pm.ret, peek1, peeks, itemOf, on2I, iAdd, iSub, iGt, iGe, iLt, iLe, iDiv, iMod, use1, useL, gI, gN, tst, andT, orT, notT, andE, orE, notE, ifE, ixN, D.frz, D.plain, plainL, argsBack, opLen, opAbs, opInt1, opNeg, disp, cap, callF, takes, puts, selA, sel, aApp, par, gT, gsC, gs0, appF, opDivmod, frzL, plainL, le_a, le_z, h1]
          · simp [chS, mkF, reFrz, seq, Pm.ite, rtn, mov, asg, drp, sNx, bnd, Pm.bin, Pm.un, app, aCons, aNil, idx, loc, con, Pm.ret, peek1, peeks, itemOf, on2I, iAdd, iSub, iGt, iGe, iLt, iLe, iDiv, iMod, use1, useL, gI, gN, tst, andT, orT, notT, andE, orE, notE, ifE, ixN, D.frz, D.plain, plainL, argsBack, opLen, opAbs, opInt1, opNeg, disp, cap, callF, takes, puts, selA, sel, aApp, par, gT, gsC, gs0, appF, opDivmod, frzL, plainL, le_a, le_z, h1]
        generalize hF : fo (l.take j) = f at *
        rw [a_T, z_T]
        generalize chS dLe dLe (con (.str (T [97]))) (loc 2) (con (.str (T [122]))) = CH at hch ⊢
        refine wp_end fun K k1 k2 k3 k4 => ?_
        simp [Wp, mkF, reFrz, seq, Pm.ite, rtn, mov, asg, drp, sNx, bnd, Pm.bin, Pm.un, app, aCons, aNil, idx, loc, con, Pm.ret, peek1, peeks, itemOf, on2I, iAdd, iSub, iGt, iGe, iLt, iLe, iDiv, iMod, use1, useL, gI, gN, tst, andT, orT, notT, andE, orE, notE, ifE, ixN, D.frz, D.plain, plainL, argsBack, opLen, opAbs, opInt1, opNeg, disp, cap, callF, takes, puts, selA, sel, aApp, par, gT, gsC, gs0, appF, opDivmod, frzL, plainL, hch, plus_T, opInt_bl, hat, hadd]
        refine k1 _ ⟨_, rfl, fun k hk => ?_⟩
        rw [tk] at hk
        rcases List.mem_append.mp hk with hk | hk
        · exact hok k hk
        · rw [List.mem_singleton.mp hk]; exact hc
      · have hb := isEx_bad hmem hc
        refine wp_seq fun K k1 k2 k3 k4 => ?_
        simp [Wp, mkF, reFrz, seq, Pm.ite, rtn, mov, asg, drp, sNx, bnd, Pm.bin, Pm.un, app, aCons, aNil, idx, loc, con, Pm.ret, peek1, peeks, itemOf, on2I, iAdd, iSub, iGt, iGe, iLt, iLe, iDiv, iMod, use1, useL, gI, gN, tst, andT, orT, notT, andE, orE, notE, ifE, ixN, D.frz, D.plain, plainL, argsBack, opLen, opAbs, opInt1, opNeg, disp, cap, callF, takes, puts, selA, sel, aApp, par, gT, gsC, gs0, appF, opDivmod, frzL, plainL, nin_alpha, hc]
        exact k2 _ _ (j2 _ _ ⟨_, rfl, by rw [hb], rfl⟩)
    · rintro ρ ⟨x2, rfl, hok⟩
      rw [List.length_map, List.take_length] at hok
      rw [List.length_map, List.take_length]
      refine j1 _ ?_
      clear j1 j2 j3 j4 K0
      have c43 := cnt_T (fo l) 43
      have c40 := cnt_T (fo l) 40
      rw [count43 hok] at c43
      rw [count40 hok] at c40
      have hia := isEx_acc (l := l)
      by_cases h1 : (l.filter Ex.isL).length ≤ 200
      · by_cases h2 : l.count 40 ≤ 200
        · have h1' : ¬ 200 < ((l.filter Ex.isL).length : Int) := by omega
          have h2' : ¬ 200 < (l.count 40 : Int) := by omega
          rw [decide_eq_true h1, decide_eq_true h2, Bool.and_true, Bool.and_true] at hia
          generalize hN : ((l.filter Ex.isL).length : Int) = N1 at *
          generalize hM : ((l.count 40 : Nat) : Int) = N2 at *
          have fl := fo_len l
          refine wp_seq fun K k1 k2 k3 k4 => ?_
          simp [Wp, mkF, reFrz, seq, Pm.ite, rtn, mov, asg, drp, sNx, bnd, Pm.bin, Pm.un, app, aCons, aNil, idx, loc, con, Pm.ret, peek1, peeks, itemOf, on2I, iAdd, iSub, iGt, iGe, iLt, iLe, iDiv, iMod, use1, useL, gI, gN, tst, andT, orT, notT, andE, orE, notE, ifE, ixN, D.frz, D.plain, plainL, argsBack, opLen, opAbs, opInt1, opNeg, disp, cap, callF, takes, puts, selA, sel, aApp, par, gT, gsC, gs0, appF, opDivmod, frzL, plainL, smet1, plus_T, opn_T, c43, c40, opGtA_ii, h1', h2']
          refine k1 _ ?_
          clear k1 k2 k3 k4 K
          refine wp_seq fun K k1 k2 k3 k4 => ?_
          simp [Wp, mkF, reFrz, seq, Pm.ite, rtn, mov, asg, drp, sNx, bnd, Pm.bin, Pm.un, app, aCons, aNil, idx, loc, con, Pm.ret, peek1, peeks, itemOf, on2I, iAdd, iSub, iGt, iGe, iLt, iLe, iDiv, iMod, use1, useL, gI, gN, tst, andT, orT, notT, andE, orE, notE, ifE, ixN, D.frz, D.plain, plainL, argsBack, opLen, opAbs, opInt1, opNeg, disp, cap, callF, takes, puts, selA, sel, aApp, par, gT, gsC, gs0, appF, opDivmod, frzL, plainL, empty_T]
          refine k1 _ ?_
          clear k1 k2 k3 k4 K
          refine wp_seq fun K0 j1 j2 j3 j4 => ?_
          have hR0 := Ex.hl_L (l := l)
          have ha0 := Ex.hl_acc l
          have hlen0 : (l.map Ex.hl).length = l.length := List.length_map _
          show Wp (whl t_oldue_1 b_oldue_2) [some (.str (T l)), some (.str (T ((l.map Ex.hl).map Ex.gsw))), x2, some (.str (T []))] K0
          generalize l.map Ex.hl = u at *
          refine wp_whl (fun n ρ => ∃ v w : List Nat, ρ = [some (.str (T l)), some (.str (T (w.map Ex.gsw))), x2, some (.str (T (v.map Ex.gsw)))] ∧ Ex.acc w = Ex.acc l ∧ w.length ≤ 4000 ∧ (∀ c ∈ w, Ex.isL c = true → c = 97) ∧ (v = w → w = [] ∨ Ex.R w = w) ∧ n = w.length + if v = w then 0 else 1) ?_ _ _ ⟨[], u, rfl, ha0, by omega, hR0, fun q => .inl q.symm, rfl⟩
          rintro n ρ ⟨v, w, rfl, hacc, hwl, hwL, hvw', hn⟩
          by_cases hvw : v = w
          · subst hvw
            refine Wp.of (a := false) (ρ' := [some (.str (T l)), some (.str (T (v.map Ex.gsw))), x2, some (.str (T (v.map Ex.gsw)))]) ?_ ⟨fun q => (nomatch q), fun _ => ?_⟩
            · simp [t_oldue_1, mkF, reFrz, seq, Pm.ite, rtn, mov, asg, drp, sNx, bnd, Pm.bin, Pm.un, app, aCons, aNil, idx, loc, con, Pm.ret, peek1, peeks, itemOf, on2I, iAdd, iSub, iGt, iGe, iLt, iLe, iDiv, iMod, use1, useL, gI, gN, tst, andT, orT, notT, andE, orE, notE, ifE, ixN, D.frz, D.plain, plainL, argsBack, opLen, opAbs, opInt1, opNeg, disp, cap, callF, takes, puts, selA, sel, aApp, par, gT, gsC, gs0, appF, opDivmod, frzL, plainL, ne_TT]
            · refine j1 _ ?_
              have hfin : decide (v.map Ex.gsw = [46]) = Ex.acc v := fin_ok hwL (hvw' rfl)
              have he := eq_T (v.map Ex.gsw) [46]
              rw [hfin, hacc, ← hia] at he
              generalize v.map Ex.gsw = vg at *
              refine wp_end fun K k1 k2 k3 k4 => ?_
              simp [Wp, mkF, reFrz, seq, Pm.ite, rtn, mov, asg, drp, sNx, bnd, Pm.bin, Pm.un, app, aCons, aNil, idx, loc, con, Pm.ret, peek1, peeks, itemOf, on2I, iAdd, iSub, iGt, iGe, iLt, iLe, iDiv, iMod, use1, useL, gI, gN, tst, andT, orT, notT, andE, orE, notE, ifE, ixN, D.frz, D.plain, plainL, argsBack, opLen, opAbs, opInt1, opNeg, disp, cap, callF, takes, puts, selA, sel, aApp, par, gT, gsC, gs0, appF, opDivmod, frzL, plainL, dot_T, he]
              exact k2 _ _ ⟨_, rfl, rfl, rfl⟩
          · have hne' : ¬ v.map Ex.gsw = w.map Ex.gsw := fun q => hvw (Ex.map_inj q)
            refine Wp.of (a := true) (ρ' := [some (.str (T l)), some (.str (T (w.map Ex.gsw))), x2, some (.str (T (v.map Ex.gsw)))]) ?_ ⟨fun _ => ?_, fun q => (nomatch q)⟩
            · simp [t_oldue_1, mkF, reFrz, seq, Pm.ite, rtn, mov, asg, drp, sNx, bnd, Pm.bin, Pm.un, app, aCons, aNil, idx, loc, con, Pm.ret, peek1, peeks, itemOf, on2I, iAdd, iSub, iGt, iGe, iLt, iLe, iDiv, iMod, use1, useL, gI, gN, tst, andT, orT, notT, andE, orE, notE, ifE, ixN, D.frz, D.plain, plainL, argsBack, opLen, opAbs, opInt1, opNeg, disp, cap, callF, takes, puts, selA, sel, aApp, par, gT, gsC, gs0, appF, opDivmod, frzL, plainL, ne_TT, hne']
            · have hlen : (w.map Ex.gsw).length = w.length := List.length_map _
              have r1 := opRepl_T (l := w.map Ex.gsw) (y := [46, 43, 46]) (z := [46]) (by decide) (by rw [hlen]; show _ + (_ + 1) * 1 ≤ 1000000; omega)
              have hl1 : (PySem.StrLaws.replL [46, 43, 46] [46] (w.map Ex.gsw)).length ≤ w.length := by
                have h1 := Ex.repl_map (y := [46, 97, 46]) (z := [46]) (by simp) _ w (Nat.le_refl _)
                have h2 : PySem.StrLaws.replL [46, 43, 46] [46] (w.map Ex.gsw) = (Ex.R1 w).map Ex.gsw := h1
                rw [h2, List.length_map]
                exact Ex.R1_len w
              have r2 := opRepl_T (l := PySem.StrLaws.replL [46, 43, 46] [46] (w.map Ex.gsw)) (y := [40, 46, 41]) (z := [46]) (by decide) (by show _ + (_ + 1) * 1 ≤ 1000000; omega)
              rw [Ex.R_gsw] at r2
              have rl := Ex.R_len w
              unfold b_oldue_2
              generalize hWG : w.map Ex.gsw = wg at *
              refine wp_seq fun K k1 k2 k3 k4 => ?_
              simp [Wp, mkF, reFrz, seq, Pm.ite, rtn, mov, asg, drp, sNx, bnd, Pm.bin, Pm.un, app, aCons, aNil, idx, loc, con, Pm.ret, peek1, peeks, itemOf, on2I, iAdd, iSub, iGt, iGe, iLt, iLe, iDiv, iMod, use1, useL, gI, gN, tst, andT, orT, notT, andE, orE, notE, ifE, ixN, D.frz, D.plain, plainL, argsBack, opLen, opAbs, opInt1, opNeg, disp, cap, callF, takes, puts, selA, sel, aApp, par, gT, gsC, gs0, appF, opDivmod, frzL, plainL]
              refine k1 _ ?_
              clear k1 k2 k3 k4 K
              refine wp_end fun K k1 k2 k3 k4 => ?_
              simp [Wp, mkF, reFrz, seq, Pm.ite, rtn, mov, asg, drp, sNx, bnd, Pm.bin, Pm.un, app, aCons, aNil, idx, loc, con, Pm.ret, peek1, peeks, itemOf, on2I, iAdd, iSub, iGt, iGe, iLt, iLe, iDiv, iMod, use1, useL, gI, gN, tst, andT, orT, notT, andE, orE, notE, ifE, ixN, D.frz, D.plain, plainL, argsBack, opLen, opAbs, opInt1, opNeg, disp, cap, callF, takes, puts, selA, sel, aApp, par, gT, gsC, gs0, appF, opDivmod, frzL, plainL, fold1_T, fold2_T, dot_T, r1, r2]
              refine k1 _ ⟨w.length + (if w = Ex.R w then 0 else 1) - (w.length - (Ex.R w).length), ?_, w, Ex.R w, by rw [hWG], by rw [Ex.R_acc, hacc], by omega, Ex.R_L hwL, fun q => .inr (by rw [← q]; exact q.symm), ?_⟩
              · rw [hn, if_neg hvw]
                by_cases q : w = Ex.R w
                · rw [if_pos q]; omega
                · rw [if_neg q]
                  have : (Ex.R w).length ≠ w.length := fun e => q (Ex.R_fix e).1.symm
                  omega
              · by_cases q : w = Ex.R w
                · rw [if_pos q]
                  have := congrArg List.length q
                  omega
                · rw [if_neg q]
                  omega
        · have h1' : ¬ 200 < ((l.filter Ex.isL).length : Int) := by omega
          have h2' : 200 < (l.count 40 : Int) := by omega
          rw [decide_eq_false h2, Bool.and_false, Bool.and_false] at hia
          generalize hN : ((l.filter Ex.isL).length : Int) = N1 at *
          generalize hM : ((l.count 40 : Nat) : Int) = N2 at *
          refine wp_seq fun K k1 k2 k3 k4 => ?_
          simp [Wp, mkF, reFrz, seq, Pm.ite, rtn, mov, asg, drp, sNx, bnd, Pm.bin, Pm.un, app, aCons, aNil, idx, loc, con, Pm.ret, peek1, peeks, itemOf, on2I, iAdd, iSub, iGt, iGe, iLt, iLe, iDiv, iMod, use1, useL, gI, gN, tst, andT, orT, notT, andE, orE, notE, ifE, ixN, D.frz, D.plain, plainL, argsBack, opLen, opAbs, opInt1, opNeg, disp, cap, callF, takes, puts, selA, sel, aApp, par, gT, gsC, gs0, appF, opDivmod, frzL, plainL, smet1, plus_T, opn_T, c43, c40, opGtA_ii, h1', h2']
          exact k2 _ _ ⟨_, rfl, by rw [hia], rfl⟩
      · have h1' : 200 < ((l.filter Ex.isL).length : Int) := by omega
        rw [decide_eq_false h1, Bool.false_and, Bool.and_false] at hia
        generalize hN : ((l.filter Ex.isL).length : Int) = N1 at *
        refine wp_seq fun K k1 k2 k3 k4 => ?_
        simp [Wp, mkF, reFrz, seq, Pm.ite, rtn, mov, asg, drp, sNx, bnd, Pm.bin, Pm.un, app, aCons, aNil, idx, loc, con, Pm.ret, peek1, peeks, itemOf, on2I, iAdd, iSub, iGt, iGe, iLt, iLe, iDiv, iMod, use1, useL, gI, gN, tst, andT, orT, notT, andE, orE, notE, ifE, ixN, D.frz, D.plain, plainL, argsBack, opLen, opAbs, opInt1, opNeg, disp, cap, callF, takes, puts, selA, sel, aApp, par, gT, gsC, gs0, appF, opDivmod, frzL, plainL, smet1, plus_T, opn_T, c43, opGtA_ii, h1']
        exact k2 _ _ ⟨_, rfl, by rw [hia], rfl⟩
  obtain ⟨d, as, e, rfl, rfl⟩ := hw
  exact e
theorem due_non {d : D} (hp : d.plain = true) (ht : (tyN d).isSome = true) (hs : isStr d = false) : S__law_due [d] = .ret (.bl false) [d] := by
  have t1 := isi_str ht
  rw [hs] at t1
  have hw : Wf S__law_due [d] fun r as => r = .bl false ∧ as = [d] := by
    unfold S__law_due
    refine wf_mkF ?_
    rw [bq_ldue]
    show Wp _ [some d, none, none, none] _
    refine wp_seq fun K k1 k2 k3 k4 => ?_
    simp [Wp, mkF, reFrz, seq, Pm.ite, rtn, mov, asg, drp, sNx, bnd, Pm.bin, Pm.un, app, aCons, aNil, idx, loc, con, Pm.ret, peek1, peeks, itemOf, on2I, iAdd, iSub, iGt, iGe, iLt, iLe, iDiv, iMod, use1, useL, gI, gN, tst, andT, orT, notT, andE, orE, notE, ifE, ixN, D.frz, D.plain, plainL, argsBack, opLen, opAbs, opInt1, opNeg, disp, cap, callF, takes, puts, selA, sel, aApp, par, gT, gsC, gs0, appF, opDivmod, frzL, plainL, t1]
    exact k2 _ _ ⟨[d], by simp [argsBack, reFrz, hp], rfl, rfl⟩
  obtain ⟨r, as, e, rfl, rfl⟩ := hw
  exact e
theorem repr_bl (b : Bool) : ∃ r : Str, opReprA [.bl b] = some (.str r) := ⟨_, reprA_low (n := 1) rfl (by decide) (by rw [mass_bl]; decide)⟩
theorem right_of {d : D} {b : Bool} (hp : d.plain = true) (e1 : S__law_due [d] = .ret (.bl b) [d]) (e2 : x_is_expression [d] = .ret (.bl b) [d]) : S__law_right [d] = .ret (.bl true) [d] := by
  obtain ⟨r, hr⟩ := repr_bl b
  have hw : Wf S__law_right [d] fun r as => r = .bl true ∧ as = [d] := by
    unfold S__law_right
    refine wf_mkF ?_
    rw [bq_lright, e_is_expression]
    show Wp _ [some d, none] _
    refine wp_seq fun K k1 k2 k3 k4 => ?_
    simp [Wp, mkF, reFrz, seq, Pm.ite, rtn, mov, asg, drp, sNx, bnd, Pm.bin, Pm.un, app, aCons, aNil, idx, loc, con, Pm.ret, peek1, peeks, itemOf, on2I, iAdd, iSub, iGt, iGe, iLt, iLe, iDiv, iMod, use1, useL, gI, gN, tst, andT, orT, notT, andE, orE, notE, ifE, ixN, D.frz, D.plain, plainL, argsBack, opLen, opAbs, opInt1, opNeg, disp, cap, callF, takes, puts, selA, sel, aApp, par, gT, gsC, gs0, appF, opDivmod, frzL, plainL, e1, hp, hr]
    refine k1 _ ?_
    clear k1 k2 k3 k4 K
    refine wp_end fun K k1 k2 k3 k4 => ?_
    simp [Wp, mkF, reFrz, seq, Pm.ite, rtn, mov, asg, drp, sNx, bnd, Pm.bin, Pm.un, app, aCons, aNil, idx, loc, con, Pm.ret, peek1, peeks, itemOf, on2I, iAdd, iSub, iGt, iGe, iLt, iLe, iDiv, iMod, use1, useL, gI, gN, tst, andT, orT, notT, andE, orE, notE, ifE, ixN, D.frz, D.plain, plainL, argsBack, opLen, opAbs, opInt1, opNeg, disp, cap, callF, takes, puts, selA, sel, aApp, par, gT, gsC, gs0, appF, opDivmod, frzL, plainL, e2, hp, hr, (show ∀ x : Str, opEq [.str x, .str x] = some (.bl true) from fun x => by rw [eq_ss]; simp)]
    exact k2 _ _ ⟨[d], by simp [argsBack, reFrz, hp], rfl, rfl⟩
  obtain ⟨r, as, e, rfl, rfl⟩ := hw
  exact e
theorem right_T (l : List Nat) (h : l.length ≤ 4000) : S__law_right [.str (T l)] = .ret (.bl true) [.str (T l)] := right_of rfl (due_ok l h) (isexp_T l (by omega))
theorem right_non {d : D} (hp : d.plain = true) (ht : (tyN d).isSome = true) (hs : isStr d = false) : S__law_right [d] = .ret (.bl true) [d] := right_of hp (due_non hp ht hs) (isexp_non hp ht hs)
/-! ### lines bent -/
abbrev S15 : List Nat := [46, 46, 40, 41, 40, 41, 97, 98, 122, 32, 65, 43, 45, 48, 10]
theorem s15_T : (("..()()abz A+-0\n" : String) : Str) = T S15 := lit rfl
theorem at_T {l : List Nat} {r : Int} (h0 : 0 ≤ r) (h1 : r < (l.length : Int)) : ∃ c ∈ l, atI (T l).cps.toList r = some c := by
  obtain ⟨k, rfl⟩ := Int.eq_ofNat_of_zero_le h0
  have hk : k < l.length := by omega
  exact ⟨l[k], List.getElem_mem hk, by rw [T_list, at_nat, List.getElem?_eq_getElem hk]⟩
theorem at4D {x0 x1 x2 x3 : List Nat} {r : Int} (h0 : 0 ≤ r) (h1 : r < 4) : ∃ l, (l = x0 ∨ l = x1 ∨ l = x2 ∨ l = x3) ∧ ∃ i, ixN 4 r = some i ∧ [tx x0, tx x1, tx x2, tx x3][i]? = some (tx l) := by
  have : r = 0 ∨ r = 1 ∨ r = 2 ∨ r = 3 := by omega
  rcases this with rfl | rfl | rfl | rfl
  · exact ⟨x0, .inl rfl, 0, rfl, rfl⟩
  · exact ⟨x1, .inr (.inl rfl), 1, rfl, rfl⟩
  · exact ⟨x2, .inr (.inr (.inl rfl)), 2, rfl, rfl⟩
  · exact ⟨x3, .inr (.inr (.inr rfl)), 3, rfl, rfl⟩
theorem bent_ok {ns : List Int} {a : Int} {z : List D} {l : List Nat} (hl : ns.length ≤ 63) (hp : Pen ns a (.node true .lst z)) (ha : a + 10 ≤ 1000000) (hn : l.length ≤ 3000) :
    ∃ (z' : List D) (l' : List Nat), S__law_bent [.node true .lst z, .str (T l)] = .ret (.str (T l')) [.node true .lst z', .str (T l)] ∧ l'.length ≤ l.length + 1 ∧ Pen ns (a + 3) (.node true .lst z') := by
  obtain ⟨w, z1, e1, w0, w1, p1⟩ := dr hS (m := 4) hl hp (by omega) (by decide) (by decide)
  obtain ⟨r, z2, e2, r0, r1, p2⟩ := dr hS (m := (l.length : Int) + 1) hl p1 (by omega) (by omega) (divS (by omega) (by omega))
  obtain ⟨k, rfl⟩ := Int.eq_ofNat_of_zero_le r0
  obtain ⟨q, z3, e3, q0, q1, p3⟩ := dr hS (m := 15) hl p2 (by omega) (by decide) (by decide)
  obtain ⟨c, hc, e4⟩ := at_T (l := S15) q0 q1
  have hcap : l.length ≤ cap := by show _ ≤ 1000000; omega
  have hcap' : l.length ≤ 1000000 := by omega
  have t0 := take_T hcap k
  have t1 : gCut none (some ((k : Int) + 1)) (.str (T l)) = some (.str (T (l.take (k + 1)))) := take_T hcap (k + 1)
  have d0 := drop_T hcap k
  have d1 : gCut (some ((k : Int) + 1)) none (.str (T l)) = some (.str (T (l.drop (k + 1)))) := drop_T hcap (k + 1)
  have d2 : gCut (some ((k : Int) + 2)) none (.str (T l)) = some (.str (T (l.drop (k + 2)))) := drop_T hcap (k + 2)
  have m2 : gCut (some (k : Int)) (some ((k : Int) + 2)) (.str (T l)) = some (.str (T ((l.drop k).take 2))) := by
    have := mid_T hcap k (k + 2)
    rw [show k + 2 - k = 2 by omega] at this
    exact this
  have ml : ((l.drop k).take 2).length ≤ cap := by rw [List.length_take, List.length_drop]; show _ ≤ 1000000; omega
  have rv := rev_T ml
  have x0 := add_T (a := l.take k) (b := l.drop (k + 1)) (by rw [List.length_take, List.length_drop]; show _ ≤ 1000000; omega)
  have x1 := add_T (a := l.take (k + 1)) (b := l.drop k) (by rw [List.length_take, List.length_drop]; show _ ≤ 1000000; omega)
  have x2 : hAdd [.str (T (l.take k)), sg c] = some (.str (T (l.take k ++ [c]))) := add_T (by rw [List.length_take]; show _ + 1 ≤ 1000000; omega)
  have x3 := add_T (a := l.take k ++ [c]) (b := l.drop k) (by rw [List.length_append, List.length_take, List.length_drop]; show _ + 1 + _ ≤ 1000000; omega)
  have x4 := add_T (a := l.take k) (b := ((l.drop k).take 2).reverse) (by rw [List.length_reverse, List.length_take, List.length_take, List.length_drop]; show _ ≤ 1000000; omega)
  have x5 := add_T (a := l.take k ++ ((l.drop k).take 2).reverse) (b := l.drop (k + 2)) (by rw [List.length_append, List.length_reverse, List.length_take, List.length_take, List.length_drop, List.length_drop]; show _ ≤ 1000000; omega)
  obtain ⟨l', hl', i, hi, e5⟩ := at4D (x0 := l.take k ++ l.drop (k + 1)) (x1 := l.take (k + 1) ++ l.drop k) (x2 := l.take k ++ [c] ++ l.drop k) (x3 := l.take k ++ ((l.drop k).take 2).reverse ++ l.drop (k + 2)) w0 w1
  have hlen : l'.length ≤ l.length + 1 := by
    rcases hl' with rfl | rfl | rfl | rfl <;> simp only [List.length_append, List.length_reverse, List.length_take, List.length_drop, List.length_singleton] <;> omega
  generalize l.take k ++ l.drop (k + 1) = X0 at *
  generalize l.take (k + 1) ++ l.drop k = X1 at *
  generalize l.take k ++ [c] ++ l.drop k = X2 at *
  generalize l.take k ++ ((l.drop k).take 2).reverse ++ l.drop (k + 2) = X3 at *
  generalize l.take k ++ ((l.drop k).take 2).reverse = Y4 at *
  generalize ((l.drop k).take 2).reverse = Y3 at *
  generalize (l.drop k).take 2 = Y2 at *
  generalize l.take k = A0 at *
  generalize l.take (k + 1) = A1 at *
  generalize l.drop k = B0 at *
  generalize l.drop (k + 1) = B1 at *
  generalize l.drop (k + 2) = B2 at *
  have hidx : idx (aCons (con (.str ("..()()abz A+-0\n" : String))) (aCons (callF S__law_draw (aCons (loc 0) (aCons (con (.int 15)) aNil))) aNil)) [some (.node true .lst z2), some (.str (T l)), some (.int w), some (.int (k : Int)), none, none, none] = .ok (.val (sg c)) [some (.node true .lst z3), some (.str (T l)), some (.int w), some (.int (k : Int)), none, none, none] := by
    rw [s15_T]
    have : (T S15).length ≤ 1000000 := by decide
    simp [mkF, reFrz, seq, Pm.ite, rtn, mov, asg, drp, sNx, bnd, Pm.bin, Pm.un, app, aCons, aNil, idx, loc, con, Pm.ret, peek1, peeks, itemOf, on2I, iAdd, iSub, iGt, iGe, iLt, iLe, iDiv, iMod, use1, useL, gI, gN, tst, andT, orT, notT, andE, orE, notE, ifE, ixN, D.frz, D.plain, plainL, argsBack, opLen, opAbs, opInt1, opNeg, disp, cap, callF, takes, puts, selA, sel, aApp, par, gT, gsC, gs0, appF, opDivmod, frzL, plainL, e3, e4, this, T_sign]
  have hw : Wf S__law_bent [.node true .lst z, .str (T l)] fun d as => d = .str (T l') ∧ as = [.node true .lst z3, .str (T l)] := by
    unfold S__law_bent
    refine wf_mkF ?_
    rw [bq_lbent]
    show Wp _ [some (.node true .lst z), some (.str (T l)), none, none, none, none, none] _
    refine wp_seq fun K k1 k2 k3 k4 => ?_
    simp [Wp, mkF, reFrz, seq, Pm.ite, rtn, mov, asg, drp, sNx, bnd, Pm.bin, Pm.un, app, aCons, aNil, idx, loc, con, Pm.ret, peek1, peeks, itemOf, on2I, iAdd, iSub, iGt, iGe, iLt, iLe, iDiv, iMod, use1, useL, gI, gN, tst, andT, orT, notT, andE, orE, notE, ifE, ixN, D.frz, D.plain, plainL, argsBack, opLen, opAbs, opInt1, opNeg, disp, cap, callF, takes, puts, selA, sel, aApp, par, gT, gsC, gs0, appF, opDivmod, frzL, plainL, e1]
    refine k1 _ ?_
    clear k1 k2 k3 k4 K
    refine wp_seq fun K k1 k2 k3 k4 => ?_
    simp [Wp, mkF, reFrz, seq, Pm.ite, rtn, mov, asg, drp, sNx, bnd, Pm.bin, Pm.un, app, aCons, aNil, idx, loc, con, Pm.ret, peek1, peeks, itemOf, on2I, iAdd, iSub, iGt, iGe, iLt, iLe, iDiv, iMod, use1, useL, gI, gN, tst, andT, orT, notT, andE, orE, notE, ifE, ixN, D.frz, D.plain, plainL, argsBack, opLen, opAbs, opInt1, opNeg, disp, cap, callF, takes, puts, selA, sel, aApp, par, gT, gsC, gs0, appF, opDivmod, frzL, plainL, T_len, hcap', e2, hAdd_ii]
    refine k1 _ ?_
    clear k1 k2 k3 k4 K
    refine wp_seq fun K k1 k2 k3 k4 => ?_
    refine Wp.of (asg_val hidx (by show 4 < 7; decide)) (k1 _ ?_)
    clear k1 k2 k3 k4 K
    show Wp _ [some (.node true .lst z3), some (.str (T l)), some (.int w), some (.int (k : Int)), some (sg c), none, none] _
    refine wp_seq fun K k1 k2 k3 k4 => ?_
    simp [Wp, mkF, reFrz, seq, Pm.ite, rtn, mov, asg, drp, sNx, bnd, Pm.bin, Pm.un, app, aCons, aNil, idx, loc, con, Pm.ret, peek1, peeks, itemOf, on2I, iAdd, iSub, iGt, iGe, iLt, iLe, iDiv, iMod, use1, useL, gI, gN, tst, andT, orT, notT, andE, orE, notE, ifE, ixN, D.frz, D.plain, plainL, argsBack, opLen, opAbs, opInt1, opNeg, disp, cap, callF, takes, puts, selA, sel, aApp, par, gT, gsC, gs0, appF, opDivmod, frzL, plainL, cut, t0, t1, d0, d1, x0, x1, hAdd_ii]
    refine k1 _ ?_
    clear k1 k2 k3 k4 K
    refine wp_seq fun K k1 k2 k3 k4 => ?_
    simp [Wp, mkF, reFrz, seq, Pm.ite, rtn, mov, asg, drp, sNx, bnd, Pm.bin, Pm.un, app, aCons, aNil, idx, loc, con, Pm.ret, peek1, peeks, itemOf, on2I, iAdd, iSub, iGt, iGe, iLt, iLe, iDiv, iMod, use1, useL, gI, gN, tst, andT, orT, notT, andE, orE, notE, ifE, ixN, D.frz, D.plain, plainL, argsBack, opLen, opAbs, opInt1, opNeg, disp, cap, callF, takes, puts, selA, sel, aApp, par, gT, gsC, gs0, appF, opDivmod, frzL, plainL, cut, t0, d0, x2, x3, appd]
    refine k1 _ ?_
    clear k1 k2 k3 k4 K
    refine wp_seq fun K k1 k2 k3 k4 => ?_
    simp [Wp, mkF, reFrz, seq, Pm.ite, rtn, mov, asg, drp, sNx, bnd, Pm.bin, Pm.un, app, aCons, aNil, idx, loc, con, Pm.ret, peek1, peeks, itemOf, on2I, iAdd, iSub, iGt, iGe, iLt, iLe, iDiv, iMod, use1, useL, gI, gN, tst, andT, orT, notT, andE, orE, notE, ifE, ixN, D.frz, D.plain, plainL, argsBack, opLen, opAbs, opInt1, opNeg, disp, cap, callF, takes, puts, selA, sel, aApp, par, gT, gsC, gs0, appF, opDivmod, frzL, plainL, cut, m2, rv, hAdd_ii]
    refine k1 _ ?_
    clear k1 k2 k3 k4 K
    refine wp_seq fun K k1 k2 k3 k4 => ?_
    simp [Wp, mkF, reFrz, seq, Pm.ite, rtn, mov, asg, drp, sNx, bnd, Pm.bin, Pm.un, app, aCons, aNil, idx, loc, con, Pm.ret, peek1, peeks, itemOf, on2I, iAdd, iSub, iGt, iGe, iLt, iLe, iDiv, iMod, use1, useL, gI, gN, tst, andT, orT, notT, andE, orE, notE, ifE, ixN, D.frz, D.plain, plainL, argsBack, opLen, opAbs, opInt1, opNeg, disp, cap, callF, takes, puts, selA, sel, aApp, par, gT, gsC, gs0, appF, opDivmod, frzL, plainL, cut, t0, d2, x4, x5, appd, hAdd_ii]
    refine k1 _ ?_
    clear k1 k2 k3 k4 K
    generalize hXS : [tx X0, tx X1, tx X2, tx X3] = XS at *
    have hXl : XS.length = 4 := by rw [← hXS]; rfl
    refine wp_end fun K k1 k2 k3 k4 => ?_
    simp [Wp, mkF, reFrz, seq, Pm.ite, rtn, mov, asg, drp, sNx, bnd, Pm.bin, Pm.un, app, aCons, aNil, idx, loc, con, Pm.ret, peek1, peeks, itemOf, on2I, iAdd, iSub, iGt, iGe, iLt, iLe, iDiv, iMod, use1, useL, gI, gN, tst, andT, orT, notT, andE, orE, notE, ifE, D.frz, D.plain, plainL, argsBack, opLen, opAbs, opInt1, opNeg, disp, cap, callF, takes, puts, selA, sel, aApp, par, gT, gsC, gs0, appF, opDivmod, frzL, plainL, hXl, hi, e5]
    exact k2 _ _ ⟨_, rfl, rfl, rfl⟩
  obtain ⟨d, as, e, rfl, rfl⟩ := hw
  exact ⟨z3, l', e, hlen, p3.mono (by omega)⟩
/-! ### many things looked at -/
theorem none_fm {ds : List D} : ds.filterMap (fun _ : D => (none : Option D)) = [] := by induction ds with
  | nil => rfl
  | cons d ds ih => simp
theorem all3_ok {b : Bool} {ds : List D} (v0 : Option D) (hpl : plainL ds = true) (hl : ds.length ≤ 1000) (h : ∀ d ∈ ds, S__law_right [d] = .ret (.bl true) [d]) :
    c_olbounds_right_1 [v0, some (.node b .lst ds), none] = .ok (.val (.lst true [])) [v0, some (.node false .lst ds), none] := by
  have hs : srcA (loc 1) [v0, some (.node b .lst ds), none] = .ok ds [v0, some (.node false .lst ds), none] := by
    simp [srcA, mkF, reFrz, seq, Pm.ite, rtn, mov, asg, drp, sNx, bnd, Pm.bin, Pm.un, app, aCons, aNil, idx, loc, con, Pm.ret, peek1, peeks, itemOf, on2I, iAdd, iSub, iGt, iGe, iLt, iLe, iDiv, iMod, use1, useL, gI, gN, tst, andT, orT, notT, andE, orE, notE, ifE, ixN, D.frz, D.plain, plainL, argsBack, opLen, opAbs, opInt1, opNeg, disp, cap, callF, takes, puts, selA, sel, aApp, par, gT, gsC, gs0, appF, opDivmod, frzL, plainL, frzL_of_plain _ hpl]
  unfold c_olbounds_right_1
  rw [comp_fm (fun _ => none) hs rfl rfl (by show ds.length ≤ 1000000; omega) fun d hd => ?_, none_fm]
  have pd : d.plain = true := plain_mem hpl d hd
  refine ⟨[v0, some (.node false .lst ds), some d], rfl, ?_⟩
  exact Wp.of (a := false) (ρ' := [v0, some (.node false .lst ds), some d]) (by simp [mkF, reFrz, seq, Pm.ite, rtn, mov, asg, drp, sNx, bnd, Pm.bin, Pm.un, app, aCons, aNil, idx, loc, con, Pm.ret, peek1, peeks, itemOf, on2I, iAdd, iSub, iGt, iGe, iLt, iLe, iDiv, iMod, use1, useL, gI, gN, tst, andT, orT, notT, andE, orE, notE, ifE, ixN, D.frz, D.plain, plainL, argsBack, opLen, opAbs, opInt1, opNeg, disp, cap, callF, takes, puts, selA, sel, aApp, par, gT, gsC, gs0, appF, opDivmod, frzL, plainL, h d hd, pd]) ⟨fun q => (nomatch q), fun _ => ⟨rfl, rfl⟩⟩
theorem all8_ok {ds ds0 : List D} {b : Bool} (v0 v1 v2 v3 v4 v5 : Option D) (hfz : frzL ds0 = ds) (hl : ds.length ≤ 1000) (h : ∀ d ∈ ds, S__law_right [d] = .ret (.bl true) [d]) :
    c_olaw_1 [v0, v1, v2, v3, v4, v5, some (.node b .lst ds0), none] = .ok (.val (.lst true [])) [v0, v1, v2, v3, v4, v5, some (.node false .lst ds), none] := by
  have hpl : plainL ds = true := by rw [← hfz]; exact plainL_frz ds0
  have hs : srcA (loc 6) [v0, v1, v2, v3, v4, v5, some (.node b .lst ds0), none] = .ok ds [v0, v1, v2, v3, v4, v5, some (.node false .lst ds), none] := by
    simp [srcA, mkF, reFrz, seq, Pm.ite, rtn, mov, asg, drp, sNx, bnd, Pm.bin, Pm.un, app, aCons, aNil, idx, loc, con, Pm.ret, peek1, peeks, itemOf, on2I, iAdd, iSub, iGt, iGe, iLt, iLe, iDiv, iMod, use1, useL, gI, gN, tst, andT, orT, notT, andE, orE, notE, ifE, ixN, D.frz, D.plain, plainL, argsBack, opLen, opAbs, opInt1, opNeg, disp, cap, callF, takes, puts, selA, sel, aApp, par, gT, gsC, gs0, appF, opDivmod, frzL, plainL, hfz, frzL_of_plain _ hpl]
  unfold c_olaw_1
  rw [comp_fm (fun _ => none) hs rfl rfl (by show ds.length ≤ 1000000; omega) fun d hd => ?_, none_fm]
  have pd : d.plain = true := plain_mem hpl d hd
  refine ⟨[v0, v1, v2, v3, v4, v5, some (.node false .lst ds), some d], rfl, ?_⟩
  exact Wp.of (a := false) (ρ' := [v0, v1, v2, v3, v4, v5, some (.node false .lst ds), some d]) (by simp [mkF, reFrz, seq, Pm.ite, rtn, mov, asg, drp, sNx, bnd, Pm.bin, Pm.un, app, aCons, aNil, idx, loc, con, Pm.ret, peek1, peeks, itemOf, on2I, iAdd, iSub, iGt, iGe, iLt, iLe, iDiv, iMod, use1, useL, gI, gN, tst, andT, orT, notT, andE, orE, notE, ifE, ixN, D.frz, D.plain, plainL, argsBack, opLen, opAbs, opInt1, opNeg, disp, cap, callF, takes, puts, selA, sel, aApp, par, gT, gsC, gs0, appF, opDivmod, frzL, plainL, h d hd, pd]) ⟨fun q => (nomatch q), fun _ => ⟨rfl, rfl⟩⟩
theorem rep_len (n : Nat) (l : List Nat) : (List.replicate n l).flatten.length = n * l.length := by
  induction n with
  | zero => simp
  | succ n ih => rw [List.replicate_succ, List.flatten_cons, List.length_append, ih, Nat.succ_mul]; omega
theorem rights (ls : List (List Nat)) (h : ∀ l ∈ ls, l.length ≤ 4000) : ∀ d ∈ ls.map tx, S__law_right [d] = .ret (.bl true) [d] := fun d hd => by
  obtain ⟨l, hl, rfl⟩ := List.mem_map.mp hd
  exact right_T l (h l hl)
theorem neN : opNe [.node true .lst [], .node true .lst []] = some (.bl false) := rfl
theorem bounds_ok : S__law_bounds_right [] = .ret (.bl true) [] := by
  have hw : Wf S__law_bounds_right [] fun d as => d = .bl true ∧ as = [] := by
    unfold S__law_bounds_right
    refine wf_mkF ?_
    rw [bq_lbounds_right]
    show Wp _ [none, none, none] _
    refine wp_seq fun K0 j1 j2 j3 j4 => ?_
    have hs : srcA (disp false .tup (aCons (con (.int 199)) (aCons (con (.int 200)) (aCons (con (.int 201)) aNil)))) [none, none, none] = .ok [.int 199, .int 200, .int 201] [none, none, none] := rfl
    refine wp_for hs (fun j ρ => ∃ x0 x1 : Option D, ρ = [x0, x1, none]) ⟨none, none, rfl⟩ ?_ ?_
    · rintro j d ρ hd ⟨x0, x1, rfl⟩
      obtain ⟨n, hn, rfl⟩ : ∃ n : Nat, n ≤ 201 ∧ d = .int (n : Int) := by
        match j, hd with
        | 0, hd => cases hd; exact ⟨199, by decide, rfl⟩
        | 1, hd => cases hd; exact ⟨200, by decide, rfl⟩
        | 2, hd => cases hd; exact ⟨201, by decide, rfl⟩
        | j + 3, hd => simp at hd
      refine ⟨_, rfl, ?_⟩
      have m : ∀ l : List Nat, l.length ≤ 10 → hMulT [.str (T l), .int (n : Int)] = some (.str (T (List.replicate n l).flatten)) := fun l hl => mul_T (by omega) (by
        have : l.length * n ≤ 10 * 201 := Nat.mul_le_mul hl hn
        show _ ≤ 1000000
        omega)
      have l1 : (((".a" : String) : Str)) = T [46, 97] := lit rfl
      have l2 : (((".a." : String) : Str)) = T [46, 97, 46] := lit rfl
      have l3 : ((("(.)a" : String) : Str)) = T [40, 46, 41, 97] := lit rfl
      have l4 : ((("(.a" : String) : Str)) = T [40, 46, 97] := lit rfl
      have m1 := m [46, 97] (by decide)
      have m2 := m [40] (by decide)
      have m3 := m [41] (by decide)
      have m4 := m [40, 46, 41, 97] (by decide)
      have m5 := m [40, 46, 97] (by decide)
      have f1 := rep_len n [46, 97]
      have f2 := rep_len n [40]
      have f3 := rep_len n [41]
      have f4 := rep_len n [40, 46, 41, 97]
      have f5 := rep_len n [40, 46, 97]
      simp only [List.length_cons, List.length_nil] at f1 f2 f3 f4 f5
      generalize (List.replicate n [46, 97]).flatten = R1 at *
      generalize (List.replicate n [40]).flatten = R2 at *
      generalize (List.replicate n [41]).flatten = R3 at *
      generalize (List.replicate n [40, 46, 41, 97]).flatten = R4 at *
      generalize (List.replicate n [40, 46, 97]).flatten = R5 at *
      have ad : ∀ a b : List Nat, a.length ≤ 2000 → b.length ≤ 2000 → hAdd [.str (T a), .str (T b)] = some (.str (T (a ++ b))) := fun a b h1 h2 => add_T (by show _ ≤ 1000000; omega)
      have a1 := ad R1 [46] (by omega) (by decide)
      have a2 := ad R2 [46] (by omega) (by decide)
      have a3 := ad (R2 ++ [46]) R3 (by simp; omega) (by omega)
      have a4 := ad R2 [46, 97, 46] (by omega) (by decide)
      have a5 := ad (R2 ++ [46, 97, 46]) R3 (by simp; omega) (by omega)
      have a6 := ad R4 [40, 46, 41] (by omega) (by decide)
      have a7 := ad R5 [46] (by omega) (by decide)
      have a8 := ad (R5 ++ [46]) R3 (by simp; omega) (by omega)
      have hall := rights [R1 ++ [46], R2 ++ [46] ++ R3, R2 ++ [46, 97, 46] ++ R3, R4 ++ [40, 46, 41], R5 ++ [46] ++ R3] (fun l hl => by
        simp only [List.mem_cons, List.not_mem_nil, or_false] at hl
        rcases hl with rfl | rfl | rfl | rfl | rfl <;> simp <;> omega)
      have hc := all3_ok (b := true) (some (.int (n : Int))) (txs_plain _) (by simp) hall
      simp only [List.map_cons, List.map_nil] at hc
      generalize R1 ++ [46] = Q1 at *
      generalize R2 ++ [46] ++ R3 = Q2 at *
      generalize R2 ++ [46, 97, 46] ++ R3 = Q3 at *
      generalize R4 ++ [40, 46, 41] = Q4 at *
      generalize R5 ++ [46] ++ R3 = Q5 at *
      generalize R2 ++ [46] = Q6 at *
      generalize R2 ++ [46, 97, 46] = Q7 at *
      generalize R5 ++ [46] = Q8 at *
      unfold b_olbounds_right_1
      show Wp _ [some (.int (n : Int)), x1, none] _
      refine wp_seq fun K k1 k2 k3 k4 => ?_
      simp [Wp, mkF, reFrz, seq, Pm.ite, rtn, mov, asg, drp, sNx, bnd, Pm.bin, Pm.un, app, aCons, aNil, idx, loc, con, Pm.ret, peek1, peeks, itemOf, on2I, iAdd, iSub, iGt, iGe, iLt, iLe, iDiv, iMod, use1, useL, gI, gN, tst, andT, orT, notT, andE, orE, notE, ifE, ixN, D.frz, D.plain, plainL, argsBack, opLen, opAbs, opInt1, opNeg, disp, cap, callF, takes, puts, selA, sel, aApp, par, gT, gsC, gs0, appF, opDivmod, frzL, plainL, l1, dot_T, opn_T, cls_T, m1, m2, m3, a1, a2, a3]
      refine k1 _ ?_
      clear k1 k2 k3 k4 K
      refine wp_seq fun K k1 k2 k3 k4 => ?_
      simp [Wp, mkF, reFrz, seq, Pm.ite, rtn, mov, asg, drp, sNx, bnd, Pm.bin, Pm.un, app, aCons, aNil, idx, loc, con, Pm.ret, peek1, peeks, itemOf, on2I, iAdd, iSub, iGt, iGe, iLt, iLe, iDiv, iMod, use1, useL, gI, gN, tst, andT, orT, notT, andE, orE, notE, ifE, ixN, D.frz, D.plain, plainL, argsBack, opLen, opAbs, opInt1, opNeg, disp, cap, callF, takes, puts, selA, sel, aApp, par, gT, gsC, gs0, appF, opDivmod, frzL, plainL, l2, opn_T, cls_T, m2, m3, a4, a5, appd]
      refine k1 _ ?_
      clear k1 k2 k3 k4 K
      refine wp_seq fun K k1 k2 k3 k4 => ?_
      simp [Wp, mkF, reFrz, seq, Pm.ite, rtn, mov, asg, drp, sNx, bnd, Pm.bin, Pm.un, app, aCons, aNil, idx, loc, con, Pm.ret, peek1, peeks, itemOf, on2I, iAdd, iSub, iGt, iGe, iLt, iLe, iDiv, iMod, use1, useL, gI, gN, tst, andT, orT, notT, andE, orE, notE, ifE, ixN, D.frz, D.plain, plainL, argsBack, opLen, opAbs, opInt1, opNeg, disp, cap, callF, takes, puts, selA, sel, aApp, par, gT, gsC, gs0, appF, opDivmod, frzL, plainL, l3, fold2_T, m4, a6, appd]
      refine k1 _ ?_
      clear k1 k2 k3 k4 K
      refine wp_seq fun K k1 k2 k3 k4 => ?_
      simp [Wp, mkF, reFrz, seq, Pm.ite, rtn, mov, asg, drp, sNx, bnd, Pm.bin, Pm.un, app, aCons, aNil, idx, loc, con, Pm.ret, peek1, peeks, itemOf, on2I, iAdd, iSub, iGt, iGe, iLt, iLe, iDiv, iMod, use1, useL, gI, gN, tst, andT, orT, notT, andE, orE, notE, ifE, ixN, D.frz, D.plain, plainL, argsBack, opLen, opAbs, opInt1, opNeg, disp, cap, callF, takes, puts, selA, sel, aApp, par, gT, gsC, gs0, appF, opDivmod, frzL, plainL, l4, dot_T, cls_T, m5, m3, a7, a8, appd]
      refine k1 _ ?_
      clear k1 k2 k3 k4 K
      generalize c_olbounds_right_1 = C at hc ⊢
      refine wp_end fun K k1 k2 k3 k4 => ?_
      simp [Wp, mkF, reFrz, seq, Pm.ite, rtn, mov, asg, drp, sNx, bnd, Pm.bin, Pm.un, app, aCons, aNil, idx, loc, con, Pm.ret, peek1, peeks, itemOf, on2I, iAdd, iSub, iGt, iGe, iLt, iLe, iDiv, iMod, use1, useL, gI, gN, tst, andT, orT, notT, andE, orE, notE, ifE, ixN, D.frz, D.plain, plainL, argsBack, opLen, opAbs, opInt1, opNeg, disp, cap, callF, takes, puts, selA, sel, aApp, par, gT, gsC, gs0, appF, opDivmod, frzL, plainL, hc, neN]
      exact k1 _ ⟨_, _, rfl⟩
    · rintro ρ ⟨x0, x1, rfl⟩
      refine j1 _ ?_
      clear j1 j2 j3 j4 K0
      refine wp_end fun K k1 k2 k3 k4 => ?_
      simp [Wp, mkF, reFrz, seq, Pm.ite, rtn, mov, asg, drp, sNx, bnd, Pm.bin, Pm.un, app, aCons, aNil, idx, loc, con, Pm.ret, peek1, peeks, itemOf, on2I, iAdd, iSub, iGt, iGe, iLt, iLe, iDiv, iMod, use1, useL, gI, gN, tst, andT, orT, notT, andE, orE, notE, ifE, ixN, D.frz, D.plain, plainL, argsBack, opLen, opAbs, opInt1, opNeg, disp, cap, callF, takes, puts, selA, sel, aApp, par, gT, gsC, gs0, appF, opDivmod, frzL, plainL]
      exact k2 _ _ ⟨_, rfl, rfl, rfl⟩
  obtain ⟨d, as, e, rfl, rfl⟩ := hw
  exact e
abbrev LA : List D := [.non, .bl true, .int 0, .tup [], .lst true [], .dct true [] [], tx [46], .tup [tx [46]], .lst true [tx [46, 97, 46]], tx [], tx [46], tx [40, 41], tx [40, 46, 41], tx [46, 46], tx [97], tx [46, 97], tx [97, 46], tx [46, 97, 97, 46]]
abbrev LB : List D := [tx [46, 40, 46, 41], tx [40, 46, 41, 46], tx [46, 97, 40, 46, 98, 46, 41], tx [41, 46, 40], tx [40, 46], tx [46, 41], tx [46, 32, 97, 32, 46], tx [46, 65, 46], tx [46, 97, 46, 10], tx [40, 46, 97, 46, 41, 98, 46], tx [40, 46, 97, 41, 46]]
abbrev LAf : List D := [.non, .bl true, .int 0, .tup [], .lst false [], .dct false [] [], tx [46], .tup [tx [46]], .lst false [tx [46, 97, 46]], tx [], tx [46], tx [40, 41], tx [40, 46, 41], tx [46, 46], tx [97], tx [46, 97], tx [97, 46], tx [46, 97, 97, 46]]
theorem dA_ok (ρ : Pm.Env) : d_olaw_1 ρ = .ok (.val (.lst true LA)) ρ := by
  have u1 : ((("." : String) : Str)) = T [46] := lit rfl
  have u2 : (((".a." : String) : Str)) = T [46, 97, 46] := lit rfl
  have u3 : ((("" : String) : Str)) = T [] := rfl
  have u4 : ((("()" : String) : Str)) = T [40, 41] := lit rfl
  have u5 : ((("(.)" : String) : Str)) = T [40, 46, 41] := lit rfl
  have u6 : (((".." : String) : Str)) = T [46, 46] := lit rfl
  have u7 : ((("a" : String) : Str)) = T [97] := lit rfl
  have u8 : (((".a" : String) : Str)) = T [46, 97] := lit rfl
  have u9 : ((("a." : String) : Str)) = T [97, 46] := lit rfl
  have u10 : (((".aa." : String) : Str)) = T [46, 97, 97, 46] := lit rfl
  unfold d_olaw_1
  simp [mkF, reFrz, seq, Pm.ite, rtn, mov, asg, drp, sNx, bnd, Pm.bin, Pm.un, app, aCons, aNil, idx, loc, con, Pm.ret, peek1, peeks, itemOf, on2I, iAdd, iSub, iGt, iGe, iLt, iLe, iDiv, iMod, use1, useL, gI, gN, tst, andT, orT, notT, andE, orE, notE, ifE, ixN, D.frz, D.plain, plainL, argsBack, opLen, opAbs, opInt1, opNeg, disp, cap, callF, takes, puts, selA, sel, aApp, par, gT, gsC, gs0, appF, opDivmod, frzL, plainL, newD, u1, u2, u3, u4, u5, u6, u7, u8, u9, u10]
theorem dB_ok (ρ : Pm.Env) : d_olaw_2 ρ = .ok (.val (.lst true LB)) ρ := by
  have w1 : (((".(.)" : String) : Str)) = T [46, 40, 46, 41] := lit rfl
  have w2 : ((("(.)." : String) : Str)) = T [40, 46, 41, 46] := lit rfl
  have w3 : (((".a(.b.)" : String) : Str)) = T [46, 97, 40, 46, 98, 46, 41] := lit rfl
  have w4 : (((").(" : String) : Str)) = T [41, 46, 40] := lit rfl
  have w5 : ((("(." : String) : Str)) = T [40, 46] := lit rfl
  have w6 : (((".)" : String) : Str)) = T [46, 41] := lit rfl
  have w7 : (((". a ." : String) : Str)) = T [46, 32, 97, 32, 46] := lit rfl
  have w8 : (((".A." : String) : Str)) = T [46, 65, 46] := lit rfl
  have w9 : (((".a.\n" : String) : Str)) = T [46, 97, 46, 10] := lit rfl
  have w10 : ((("(.a.)b." : String) : Str)) = T [40, 46, 97, 46, 41, 98, 46] := lit rfl
  have w11 : ((("(.a)." : String) : Str)) = T [40, 46, 97, 41, 46] := lit rfl
  unfold d_olaw_2
  simp [mkF, reFrz, seq, Pm.ite, rtn, mov, asg, drp, sNx, bnd, Pm.bin, Pm.un, app, aCons, aNil, idx, loc, con, Pm.ret, peek1, peeks, itemOf, on2I, iAdd, iSub, iGt, iGe, iLt, iLe, iDiv, iMod, use1, useL, gI, gN, tst, andT, orT, notT, andE, orE, notE, ifE, ixN, D.frz, D.plain, plainL, argsBack, opLen, opAbs, opInt1, opNeg, disp, cap, callF, takes, puts, selA, sel, aApp, par, gT, gsC, gs0, appF, opDivmod, frzL, plainL, w1, w2, w3, w4, w5, w6, w7, w8, w9, w10, w11]
theorem add_AB : hAdd [.node false .lst LAf, .node false .lst LB] = some (.lst true (LAf ++ LB)) := rfl
theorem all_AB : ∀ d ∈ LAf ++ LB, S__law_right [d] = .ret (.bl true) [d] := by
  have key : ∀ d ∈ LAf ++ LB, (∃ l : List Nat, d = .str (T l) ∧ l.length ≤ 4000) ∨ (d.plain = true ∧ (tyN d).isSome = true ∧ isStr d = false) := by
    intro d hd
    simp only [LAf, LB, List.cons_append, List.nil_append, List.mem_cons, List.not_mem_nil, or_false] at hd
    rcases hd with rfl | rfl | rfl | rfl | rfl | rfl | rfl | rfl | rfl | rfl | rfl | rfl | rfl | rfl | rfl | rfl | rfl | rfl | rfl | rfl | rfl | rfl | rfl | rfl | rfl | rfl | rfl | rfl | rfl <;> first | exact .inr ⟨rfl, rfl, rfl⟩ | exact .inl ⟨_, rfl, by decide⟩
  intro d hd
  rcases key d hd with ⟨l, rfl, h⟩ | ⟨h1, h2, h3⟩
  · exact right_T l h
  · exact right_non h1 h2 h3
theorem things_ok (v0 v1 v2 v3 v4 v5 : Option D) (Q : Fl → Pm.Env → Prop) (hQ : Q (.rt (.bl true)) [v0, v1, v2, v3, v4, v5, some (.node false .lst (LAf ++ LB)), none]) :
    Wp (seq (asg d_olaw_1 (gN 6)) (seq (asg (binF hAdd (loc 6) d_olaw_2) (gN 6)) (rtn (andE (Pm.bin opEq c_olaw_1 (disp true .lst aNil)) (callF S__law_bounds_right aNil))))) [v0, v1, v2, v3, v4, v5, none, none] Q := by
  refine wp_seq fun K k1 k2 k3 k4 => ?_
  refine Wp.of (asg_val (dA_ok _) (by show 6 < 8; decide)) (k1 _ ?_)
  clear k1 k2 k3 k4 K
  show Wp _ [v0, v1, v2, v3, v4, v5, some (.node true .lst LA), none] _
  refine wp_seq fun K k1 k2 k3 k4 => ?_
  have hb : binF hAdd (loc 6) d_olaw_2 [v0, v1, v2, v3, v4, v5, some (.node true .lst LA), none] = .ok (.val (.lst true (LAf ++ LB))) [v0, v1, v2, v3, v4, v5, some (.node false .lst LAf), none] := by
    have h2 := dB_ok [v0, v1, v2, v3, v4, v5, some (.node true .lst LA), none]
    have h3 : (D.node true .lst LA).frz = .node false .lst LAf := rfl
    have h4 : frzL [D.node false .lst LAf, .lst true LB] = [.node false .lst LAf, .node false .lst LB] := rfl
    have h5 : ([D.node true .lst LA, .lst true LB].all D.shal) = false := rfl
    have h6 := add_AB
    generalize d_olaw_2 = dB at *
    generalize LAf ++ LB = AB at *
    generalize LA = A at *
    generalize LAf = Af at *
    generalize LB = B at *
    simp [binF, appF, aCons, aNil, bnd, loc, Pm.ret, peeks, peek1, useL, use1, h2, h3, h4, h5, h6]
  refine Wp.of (asg_val hb (by show 6 < 8; decide)) (k1 _ ?_)
  clear k1 k2 k3 k4 K
  show Wp _ [v0, v1, v2, v3, v4, v5, some (.node true .lst (LAf ++ LB)), none] _
  have hc := all8_ok (b := true) v0 v1 v2 v3 v4 v5 (show frzL (LAf ++ LB) = LAf ++ LB from rfl) (by decide) all_AB
  have hbo := bounds_ok
  generalize c_olaw_1 = C at hc ⊢
  generalize LAf ++ LB = AB at *
  refine wp_end fun K k1 k2 k3 k4 => ?_
  simp [Wp, mkF, reFrz, seq, Pm.ite, rtn, mov, asg, drp, sNx, bnd, Pm.bin, Pm.un, app, aCons, aNil, idx, loc, con, Pm.ret, peek1, peeks, itemOf, on2I, iAdd, iSub, iGt, iGe, iLt, iLe, iDiv, iMod, use1, useL, gI, gN, tst, andT, orT, notT, andE, orE, notE, ifE, ixN, D.frz, D.plain, plainL, argsBack, opLen, opAbs, opInt1, opNeg, disp, cap, callF, takes, puts, selA, sel, aApp, par, gT, gsC, gs0, appF, opDivmod, frzL, plainL, hc, hbo, (show opEq [.node true .lst [], .node true .lst []] = some (.bl true) from rfl)]
  exact k2 _ _ hQ
theorem law_ok (ns : List Int) (hl : ns.length ≤ 63) : ∃ as, S_law [.scr (ns.map D.int)] = .ret (.bl true) as := by
  obtain ⟨d0, ep, p0⟩ := pen_ok hl
  obtain ⟨z0, rfl⟩ := p0.owned
  have hw : Wf S_law [.scr (ns.map D.int)] fun d as => d = .bl true := by
    unfold S_law
    refine wf_mkF ?_
    rw [bq_law]
    show Wp _ [some (.scr (ns.map D.int)), none, none, none, none, none, none, none] _
    have pl := plain_ints ns
    refine wp_seq fun K k1 k2 k3 k4 => ?_
    simp [Wp, mkF, reFrz, seq, Pm.ite, rtn, mov, asg, drp, sNx, bnd, Pm.bin, Pm.un, app, aCons, aNil, idx, loc, con, Pm.ret, peek1, peeks, itemOf, on2I, iAdd, iSub, iGt, iGe, iLt, iLe, iDiv, iMod, use1, useL, gI, gN, tst, andT, orT, notT, andE, orE, notE, ifE, ixN, D.frz, D.plain, plainL, argsBack, opLen, opAbs, opInt1, opNeg, disp, cap, callF, takes, puts, selA, sel, aApp, par, gT, gsC, gs0, appF, opDivmod, frzL, plainL, e_pen, ep, pl]
    refine k1 _ ?_
    clear k1 k2 k3 k4 K
    refine wp_seq fun K0 j1 j2 j3 j4 => ?_
    have hsrc : srcR1 (aCons (con (.int 3)) aNil) [some (.scr (ns.map D.int)), some (.node true .lst z0), none, none, none, none, none, none] = .ok (rangeD 0 3) [some (.scr (ns.map D.int)), some (.node true .lst z0), none, none, none, none, none, none] := src_r1 (es := [.val (.int 3)]) (n := 3) rfl rfl (by decide)
    refine wp_for hsrc (fun j ρ => ∃ (z : List D) (x2 x3 x4 x5 : Option D), ρ = [some (.scr (ns.map D.int)), some (.node true .lst z), x2, x3, x4, x5, none, none] ∧ Pen ns (3000 * (j : Int)) (.node true .lst z)) ⟨z0, none, none, none, none, rfl, p0.mono (by omega)⟩ ?_ ?_
    · rintro j d ρ hd ⟨z, x2, x3, x4, x5, rfl, hp⟩
      obtain ⟨hj, rfl⟩ := range_get hd
      refine ⟨_, rfl, ?_⟩
      obtain ⟨z1, t, e1, ht, p1⟩ := rules_ok hS hl hp (by omega)
      obtain ⟨q, e2, hq⟩ : ∃ q : Nat, atI [D.int 200, .int 30, .int 8] (j : Int) = some (.int (q : Int)) ∧ (6 ≤ q ∧ q ≤ 200) := by
        match j, hj with
        | 0, _ => exact ⟨200, rfl, by decide⟩
        | 1, _ => exact ⟨30, rfl, by decide⟩
        | 2, _ => exact ⟨8, rfl, by decide⟩
      obtain ⟨z2, e, e3, hin, hlen, hprs, p2⟩ := line_ok (most := q) hS ht hl p1 (by omega) (by omega) (by omega)
      have hL : ∀ c ∈ e.lets, Ex.isL c = true := fun c hc => by
        obtain ⟨r, hr, rfl⟩ := List.mem_map.mp (hin c hc)
        have := ht.let1 r hr
        simp [Ex.isL, this.1, this.2]
      have tl := Ex.E.len e
      have ie := isexp_T e.text (by omega)
      have hie : isEx e.text = true := by
        unfold isEx
        rw [Ex.counts_text hL]
        simp
        omega
      rw [hie, ← e_is_expression] at ie
      have tp := tabD_plain t
      rw [← e_lrules] at e1
      rw [← e_lline] at e3
      generalize tabD t = TD at *
      unfold b_olaw_2
      show Wp _ [some (.scr (ns.map D.int)), some (.node true .lst z), some (.int (0 + (j : Int))), x3, x4, x5, none, none] _
      refine wp_seq fun K k1 k2 k3 k4 => ?_
      simp [Wp, mkF, reFrz, seq, Pm.ite, rtn, mov, asg, drp, sNx, bnd, Pm.bin, Pm.un, app, aCons, aNil, idx, loc, con, Pm.ret, peek1, peeks, itemOf, on2I, iAdd, iSub, iGt, iGe, iLt, iLe, iDiv, iMod, use1, useL, gI, gN, tst, andT, orT, notT, andE, orE, notE, ifE, ixN, D.frz, D.plain, plainL, argsBack, opLen, opAbs, opInt1, opNeg, disp, cap, callF, takes, puts, selA, sel, aApp, par, gT, gsC, gs0, appF, opDivmod, frzL, plainL, e1, e2, e3, tp]
      refine k1 _ ?_
      clear k1 k2 k3 k4 K
      refine wp_seq fun K k1 k2 k3 k4 => ?_
      simp [Wp, mkF, reFrz, seq, Pm.ite, rtn, mov, asg, drp, sNx, bnd, Pm.bin, Pm.un, app, aCons, aNil, idx, loc, con, Pm.ret, peek1, peeks, itemOf, on2I, iAdd, iSub, iGt, iGe, iLt, iLe, iDiv, iMod, use1, useL, gI, gN, tst, andT, orT, notT, andE, orE, notE, ifE, ixN, D.frz, D.plain, plainL, argsBack, opLen, opAbs, opInt1, opNeg, disp, cap, callF, takes, puts, selA, sel, aApp, par, gT, gsC, gs0, appF, opDivmod, frzL, plainL, ie, notB_bb]
      refine k1 _ ?_
      clear k1 k2 k3 k4 K
      have hsrc2 : srcR1 (aCons (con (.int 8)) aNil) [some (.scr (ns.map D.int)), some (.node true .lst z2), some (.int (j : Int)), some (.str (T e.text)), x4, x5, none, none] = .ok (rangeD 0 8) [some (.scr (ns.map D.int)), some (.node true .lst z2), some (.int (j : Int)), some (.str (T e.text)), x4, x5, none, none] := src_r1 (es := [.val (.int 8)]) (n := 8) rfl rfl (by decide)
      refine wp_for hsrc2 (fun i ρ => ∃ (z : List D) (y4 y5 : Option D), ρ = [some (.scr (ns.map D.int)), some (.node true .lst z), some (.int (j : Int)), some (.str (T e.text)), y4, y5, none, none] ∧ Pen ns (3000 * (j : Int) + 2100 + 10 * (i : Int)) (.node true .lst z)) ⟨z2, x4, x5, rfl, p2.mono (by omega)⟩ ?_ ?_
      · rintro i d ρ hd ⟨z', y4, y5, rfl, hp'⟩
        obtain ⟨hi, rfl⟩ := range_get hd
        refine ⟨_, rfl, ?_⟩
        obtain ⟨z3, l1, f1, hl1, p3⟩ := bent_ok hl hp' (by omega) (l := e.text) (by omega)
        obtain ⟨z4, l2, f2, hl2, p4⟩ := bent_ok hl p3 (by omega) (l := l1) (by omega)
        have r1 := right_T l1 (by omega)
        have r2 := right_T l2 (by omega)
        unfold b_olaw_1
        show Wp _ [some (.scr (ns.map D.int)), some (.node true .lst z'), some (.int (j : Int)), some (.str (T e.text)), some (.int (0 + (i : Int))), y5, none, none] _
        refine wp_seq fun K k1 k2 k3 k4 => ?_
        simp [Wp, mkF, reFrz, seq, Pm.ite, rtn, mov, asg, drp, sNx, bnd, Pm.bin, Pm.un, app, aCons, aNil, idx, loc, con, Pm.ret, peek1, peeks, itemOf, on2I, iAdd, iSub, iGt, iGe, iLt, iLe, iDiv, iMod, use1, useL, gI, gN, tst, andT, orT, notT, andE, orE, notE, ifE, ixN, D.frz, D.plain, plainL, argsBack, opLen, opAbs, opInt1, opNeg, disp, cap, callF, takes, puts, selA, sel, aApp, par, gT, gsC, gs0, appF, opDivmod, frzL, plainL, f1]
        refine k1 _ ?_
        clear k1 k2 k3 k4 K
        refine wp_end fun K k1 k2 k3 k4 => ?_
        simp [Wp, mkF, reFrz, seq, Pm.ite, rtn, mov, asg, drp, sNx, bnd, Pm.bin, Pm.un, app, aCons, aNil, idx, loc, con, Pm.ret, peek1, peeks, itemOf, on2I, iAdd, iSub, iGt, iGe, iLt, iLe, iDiv, iMod, use1, useL, gI, gN, tst, andT, orT, notT, andE, orE, notE, ifE, ixN, D.frz, D.plain, plainL, argsBack, opLen, opAbs, opInt1, opNeg, disp, cap, callF, takes, puts, selA, sel, aApp, par, gT, gsC, gs0, appF, opDivmod, frzL, plainL, r1, r2, f2]
        exact k1 _ ⟨_, _, _, rfl, p4.mono (by omega)⟩
      · rintro ρ ⟨z', y4, y5, rfl, hp'⟩
        exact ⟨z', _, _, _, _, rfl, hp'.mono (by rw [range_len]; omega)⟩
    · rintro ρ ⟨z, x2, x3, x4, x5, rfl, hp⟩
      refine j1 _ ?_
      clear j1 j2 j3 j4 K0
      refine things_ok (some (.scr (ns.map D.int))) (some (.node true .lst z)) x2 x3 x4 x5 _ ?_
      exact ⟨[.scr (ns.map D.int)], by simp [argsBack, reFrz, D.plain, pl], rfl⟩
  obtain ⟨d, as, e, rfl⟩ := hw
  exact ⟨as, e⟩
end Pk04
open PySem PySem.W PyProof.Rows
set_option maxHeartbeats 0 in
theorem PySem.Challenge.cw_wearbinds_k04_expressions_recognized_holds : PySem.Challenge.rw_wearbinds_k04_expressions_recognized.Holds := by
  w_on; o_law; k_head; (case hw => w_witness2)
  k_fill
  refine Pm.walkG (l := PySem.Challenge.rw_wearbinds_k04_expressions_recognized) (n := 63) (k := 5) (x := "_law_script") (g := Pk04.S_law) rfl (by decide) rfl ⟨rfl, by decide, by decide⟩ (fun w h Y => PySem.W.kIn_of Y) ?F Pk04.law_ok
  case F =>
    intro w mg fa h KX G hmg
    refine' Pk04.all_mk KX G hmg ?a0 ?l0 ?c0 ?k0 ?a1 ?l1 ?c1 ?k1 ?a2 ?l2 ?c2 ?k2 ?a3 ?l3 ?c3 ?k3 ?a4 ?l4 ?c4 ?k4 ?a5 ?l5 ?c5 ?k5 ?a6 ?l6 ?c6 ?k6 ?a7 ?l7 ?c7 ?k7 ?a8 ?l8 ?c8 ?k8 ?a9 ?l9 ?c9 ?k9 ?a10 ?l10 ?c10 ?k10 ?a11 ?l11 ?c11 ?k11 ?z_abs ?z_int ?z_isinstance ?z_len ?z_list ?z_min ?z_range ?z_repr ?z_sorted ?z_str ?z_tuple ?g_CLOSES ?g_DOT ?g_LETTERS ?g_MOST_OPERATORS ?g_MOST_PAIRS ?g_OPENS
    (case a0 => k_is); (case l0 => k_is); (case c0 => k_is); (case k0 => k_is); (case a1 => k_is); (case l1 => k_is); (case c1 => k_is); (case k1 => k_is); (case a2 => k_is); (case l2 => k_is); (case c2 => k_is); (case k2 => k_is); (case a3 => k_is); (case l3 => k_is); (case c3 => k_is); (case k3 => k_is); (case a4 => k_is); (case l4 => k_is); (case c4 => k_is); (case k4 => k_is); (case a5 => k_is); (case l5 => k_is); (case c5 => k_is); (case k5 => k_is); (case a6 => k_is); (case l6 => k_is); (case c6 => k_is); (case k6 => k_is); (case a7 => k_is); (case l7 => k_is); (case c7 => k_is); (case k7 => k_is); (case a8 => k_is); (case l8 => k_is); (case c8 => k_is); (case k8 => k_is); (case a9 => k_is); (case l9 => k_is); (case c9 => k_is); (case k9 => k_is); (case a10 => k_is); (case l10 => k_is); (case c10 => k_is); (case k10 => k_is); (case a11 => k_is); (case l11 => k_is); (case c11 => k_is); (case k11 => k_is); (case z_abs => k_is); (case z_int => k_is); (case z_isinstance => k_is); (case z_len => k_is); (case z_list => k_is); (case z_min => k_is); (case z_range => k_is); (case z_repr => k_is); (case z_sorted => k_is); (case z_str => k_is); (case z_tuple => k_is); (case g_CLOSES => k_is); (case g_DOT => k_is); (case g_LETTERS => k_is); (case g_MOST_OPERATORS => k_is); (case g_MOST_PAIRS => k_is); (case g_OPENS => k_is)


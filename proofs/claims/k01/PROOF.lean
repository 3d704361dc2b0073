import PyProof.Rows.All
import Wide.All
import OpenK.AllK
import Wide.FinOn
import HandS.ForMost
import HandS.Exc
import HandS.ExcOwn
import HandS.Wide
import HandS.IsInst
import HandS.TupAny
import HandS.SortInts
import HandS.Zip
import HandS.Flow
import HandS.Style
import HandS.Star
import HandS.Set
import HandS.SetFor
import HandS.Strs
import HandS.Replace
import HandS.ReplaceLit
import HandS.Iter
import HandS.Text
import HandS.ReplaceList
import HandS.Lambda
import KE.KNest
import PyProof.EqKinds
import PyProof.FactsAll.dict_1
import HandS.TupMul
import HandS.Conv
import PyProof.ListStr
import PyProof.EqAt
import PyProof.TupleCall
import HandS.ExcInit
import PyProof.ExcBaseAll.OverflowError
import PyProof.ExcBaseAll.IndexError
import PyProof.ExcBaseAll.LookupError
import PyProof.ExcBaseAll.ValueError
import HandS.Words
import HandS.ExcValue
import HandS.ExcField
import KE.KExcIs
import HandS.More
import HandS.EndTab
import KE.KNestM
import PySem.Challenge.RW_wearbinds_k01_tables_recognized
set_option Elab.async false
set_option linter.all false
set_option maxRecDepth 100000
/-! PmA: deep data with owned and frozen nodes, and how a heap bears them. -/
namespace Pm
open PySem PySem.Spec PyProof.Rows L2
abbrev Sl := List (Option V)
/-- no table of code objects -/
def NT (o : HO) : Prop := ∀ ps, o ≠ .tbl ps
theorem nt_lst {ys : List V} : NT (.lst ys) := fun _ e => nomatch e
theorem nt_tup {ys : List V} : NT (.tup ys) := fun _ e => nomatch e
theorem nt_frz {o : Obj} {u : HO} : NT (.frz o u) := fun _ e => nomatch e
theorem nt_dK {es : List (Key × V)} : NT (.dK es) := fun _ e => nomatch e
theorem nt_xd {es : List (Str × V)} : NT (.xd es) := fun _ e => nomatch e
theorem nt_ins {C dx : Addr} {fs : List (Str × V)} : NT (.ins C dx fs) := fun _ e => nomatch e
theorem nt_ext {p : Heap → Prop} : NT (.ext p) := fun _ e => by cases e
/-- what may be owned -/
def NW (o : HO) : Prop := NT o ∧ ∀ φ, o ≠ .ext φ
theorem nt_or (o : HO) : (∃ ps, o = .tbl ps) ∨ NT o := by
  by_cases h : ∃ ps, o = .tbl ps
  · exact .inl h
  · exact .inr fun ps e => h ⟨ps, e⟩
/-- all that is known stays, tables apart -/
structure Sam (Z H : Hp) : Prop where
  get : ∀ a o, Z a = some o → NT o → H a = some o
theorem _root_.L2.Same.sam {Z H : Hp} (h : L2.Same Z H) : Sam Z H := ⟨fun a o e _ => h a o e⟩
instance {Z H : Hp} : Coe (L2.Same Z H) (Sam Z H) := ⟨L2.Same.sam⟩
theorem Sam.refl (Z : Hp) : Sam Z Z := ⟨fun _ _ e _ => e⟩
theorem Sam.trans {Z Z1 Z2 : Hp} (a : Sam Z Z1) (b : Sam Z1 Z2) : Sam Z Z2 := ⟨fun x o e n => b.get x o (a.get x o e n) n⟩
theorem Sam.seq {K : PySem.W.Frag} {H H' : Hp} {a : Addr} {xs : List V} (e : Sam H H') (h : SqL K H a xs) : SqL K H' a xs := by
  rcases h with (h | ⟨o, h⟩) | h
  · exact .inl (.inl (e.get _ _ h nt_lst))
  · exact .inl (.inr ⟨o, e.get _ _ h nt_frz⟩)
  · exact .inr h

/-- the kind of a compound thing -/
inductive Kd where
  | tup | lst | scr | dct (ks : List Key) | obj (C : Str) (fs : List Str) | ins (C : Str) (fs : List Str)
  deriving DecidableEq
/-- data: an owned node (true) may be changed in place, a frozen one is shared and stays -/
inductive D where
  | non | bl (b : Bool) | int (i : Int) | str (x : Str) | op (v : V)
  | node (o : Bool) (k : Kd) (xs : List D)
abbrev D.tup (xs : List D) : D := .node false .tup xs
abbrev D.lst (o : Bool) (xs : List D) : D := .node o .lst xs
abbrev D.scr (xs : List D) : D := .node false .scr xs
abbrev D.dct (o : Bool) (ks : List Key) (xs : List D) : D := .node o (.dct ks) xs

mutual
def D.plain : D → Bool
  | .node o _ xs => !o && plainL xs
  | _ => true
def plainL : List D → Bool
  | [] => true
  | d :: ds => d.plain && plainL ds
end
mutual
def D.frz : D → D
  | .node _ k xs => .node false k (frzL xs)
  | d => d
def frzL : List D → List D
  | [] => []
  | d :: ds => d.frz :: frzL ds
end
theorem frzL_map : ∀ ds : List D, frzL ds = ds.map D.frz
  | [] => rfl
  | d :: ds => by rw [frzL, frzL_map ds, List.map_cons]
theorem plainL_all : ∀ ds : List D, plainL ds = ds.all D.plain
  | [] => rfl
  | d :: ds => by rw [plainL, plainL_all ds, List.all_cons]
mutual
theorem D.frz_of_plain : ∀ d : D, d.plain = true → d.frz = d
  | .non, _ => rfl
  | .bl _, _ => rfl
  | .int _, _ => rfl
  | .str _, _ => rfl
  | .op _, _ => rfl
  | .node o k xs, h => by
    rw [D.plain, Bool.and_eq_true, Bool.not_eq_true'] at h
    rw [D.frz, frzL_of_plain xs h.2, h.1]
theorem frzL_of_plain : ∀ ds : List D, plainL ds = true → frzL ds = ds
  | [], _ => rfl
  | d :: ds, h => by
    rw [plainL, Bool.and_eq_true] at h
    rw [frzL, D.frz_of_plain d h.1, frzL_of_plain ds h.2]
end
mutual
theorem D.plain_frz : ∀ d : D, d.frz.plain = true
  | .non => rfl
  | .bl _ => rfl
  | .int _ => rfl
  | .str _ => rfl
  | .op _ => rfl
  | .node o k xs => by
    rw [D.frz, D.plain, plainL_frz xs]
    rfl
theorem plainL_frz : ∀ ds : List D, plainL (frzL ds) = true
  | [] => rfl
  | d :: ds => by
    rw [frzL, plainL, D.plain_frz d, plainL_frz ds]
    rfl
end

/-! ### the heap's side -/
abbrev Fp := Addr → Prop
abbrev Fp0 : Fp := fun _ => False
/-- the class of a name of the module -/
def reg (K : PySem.W.Frag) (n : Str) : Option Addr := match PySem.W.nsIn K PySem.mainGlobals n with
  | some (some (.ref C)) => some C
  | _ => none
theorem reg_of {K : PySem.W.Frag} {n : Str} {C : Addr} (h : PySem.W.nsIn K PySem.mainGlobals n = some (some (.ref C))) : reg K n = some C := by
  unfold reg
  rw [h]
/-- a thing at its address, as tracked -/
def Cell (K : PySem.W.Frag) (H : Hp) (a : Addr) (ys : List V) : Kd → Prop
  | .tup => H a = some (.tup ys)
  | .lst => H a = some (.lst ys)
  | .scr => False
  | .dct ks => ks.length = ys.length ∧ H a = some (.dK (ks.zip ys))
  | .obj _ _ => False
  | .ins n fs => ∃ C dx : Addr, reg K n = some C ∧ fs.length = ys.length ∧ H a = some (.ins C dx (fs.zip ys))
/-- at a: an exception of the class at C, its dict at dd -/
def XoP (a C : Addr) (dd : Option Addr) : Heap → Prop := fun h => ∃ (oe : Obj) (vs : Array Value), h.get? a = some oe ∧ oe.cls = .ref C ∧ oe.dict = dd ∧ oe.data = .fields vs
/-- an exception that was caught: its class by name, its fields -/
def ObjAt (K : PySem.W.Frag) (Z : Hp) (a : Addr) (ys : List V) (n : Str) (fs : List Str) : Prop :=
  ∃ (C : Addr) (dd : Option Addr), reg K n = some C ∧ Z a = some (.ext (XoP a C dd)) ∧ ((dd = none ∧ fs = [] ∧ ys = []) ∨ ∃ d, dd = some d ∧ fs.length = ys.length ∧ Z d = some (.xd (fs.zip ys)))
/-- a frozen thing as it is read -/
def Frd (K : PySem.W.Frag) (Z : Hp) (a : Addr) (ys : List V) : Kd → Prop
  | .tup => SqT K Z a ys
  | .scr => SqL K Z a ys
  | .obj n fs => ObjAt K Z a ys n fs
  | k => Cell K Z a ys k
mutual
def Rep (K : PySem.W.Frag) (Z H : Hp) : D → V → Fp → Prop
  | .non, v, _ => v = .non
  | .bl b, v, _ => v = .bl b
  | .int i, v, _ => v = .int i
  | .str x, v, _ => v = .str x
  | .op u, v, _ => v = u
  | .node false k ds, v, S => ∃ a ys, v = .ref a ∧ Frd K Z a ys k ∧ RepL K Z H ds ys S
  | .node true k ds, v, S => ∃ a ys S', v = .ref a ∧ Cell K H a ys k ∧ S a ∧ ¬ S' a ∧ (∀ b, S' b → S b) ∧ RepL K Z H ds ys S'
def RepL (K : PySem.W.Frag) (Z H : Hp) : List D → List V → Fp → Prop
  | [], [], _ => True
  | d :: ds, v :: vs, S => ∃ S1 S2 : Fp, (∀ a, S1 a → S a) ∧ (∀ a, S2 a → S a) ∧ (∀ a, S1 a → S2 a → False) ∧ Rep K Z H d v S1 ∧ RepL K Z H ds vs S2
  | _, _, _ => False
end
section
variable {K : PySem.W.Frag} {Z Z' H H' : Hp} {S S' : Fp}
theorem Cell.sam {a : Addr} {ys : List V} {k : Kd} (h : Cell K H a ys k) (e : ∀ o, H a = some o → NT o → H' a = some o) : Cell K H' a ys k := by
  cases k with
  | tup => exact e _ h nt_tup
  | lst => exact e _ h nt_lst
  | scr => exact h
  | dct ks => exact ⟨h.1, e _ h.2 nt_dK⟩
  | obj C fs => exact h
  | ins n fs => obtain ⟨C, dx, h1, h2, h3⟩ := h; exact ⟨C, dx, h1, h2, e _ h3 nt_ins⟩
theorem SqT.sam {a : Addr} {ys : List V} (h : SqT K Z a ys) (e : Sam Z Z') : SqT K Z' a ys := by
  rcases h with (h | ⟨o, h⟩) | h
  · exact .inl (.inl (e.get _ _ h nt_tup))
  · exact .inl (.inr ⟨o, e.get _ _ h nt_frz⟩)
  · exact .inr h
theorem Frd.sam {a : Addr} {ys : List V} {k : Kd} (h : Frd K Z a ys k) (e : Sam Z Z') : Frd K Z' a ys k := by
  cases k with
  | tup => exact SqT.sam h e
  | lst => exact e.get _ _ h nt_lst
  | scr => exact Sam.seq e h
  | dct ks => exact ⟨h.1, e.get _ _ h.2 nt_dK⟩
  | obj n fs =>
    obtain ⟨C, dd, h1, h2, h3⟩ := h
    refine ⟨C, dd, h1, e.get _ _ h2 nt_ext, ?_⟩
    rcases h3 with h3 | ⟨d, r1, r2, r3⟩
    · exact .inl h3
    · exact .inr ⟨d, r1, r2, e.get _ _ r3 nt_xd⟩
  | ins n fs => obtain ⟨C, dx, h1, h2, h3⟩ := h; exact ⟨C, dx, h1, h2, e.get _ _ h3 nt_ins⟩
theorem Cell.same {a : Addr} {ys : List V} {k : Kd} (h : Cell K H a ys k) (e : ∀ o, H a = some o → H' a = some o) : Cell K H' a ys k := by
  cases k with
  | tup => exact e _ h
  | lst => exact e _ h
  | scr => exact h
  | dct ks => exact ⟨h.1, e _ h.2⟩
  | obj C fs => exact h
  | ins n fs => obtain ⟨C, dx, h1, h2, h3⟩ := h; exact ⟨C, dx, h1, h2, e _ h3⟩
theorem SqT.same {a : Addr} {ys : List V} (h : SqT K Z a ys) (e : Same Z Z') : SqT K Z' a ys := by
  rcases h with (h | ⟨o, h⟩) | h
  · exact .inl (.inl (e _ _ h))
  · exact .inl (.inr ⟨o, e _ _ h⟩)
  · exact .inr h
theorem Frd.same {a : Addr} {ys : List V} {k : Kd} (h : Frd K Z a ys k) (e : Same Z Z') : Frd K Z' a ys k := by
  cases k with
  | tup => exact SqT.same h e
  | lst => exact e _ _ h
  | scr => exact Same.seq e h
  | dct ks => exact ⟨h.1, e _ _ h.2⟩
  | obj n fs =>
    obtain ⟨C, dd, h1, h2, h3⟩ := h
    refine ⟨C, dd, h1, e _ _ h2, ?_⟩
    rcases h3 with h3 | ⟨d, r1, r2, r3⟩
    · exact .inl h3
    · exact .inr ⟨d, r1, r2, e _ _ r3⟩
  | ins n fs => obtain ⟨C, dx, h1, h2, h3⟩ := h; exact ⟨C, dx, h1, h2, e _ _ h3⟩
theorem Cell.frd {a : Addr} {ys : List V} {k : Kd} (h : Cell K Z a ys k) : Frd K Z a ys k := by
  cases k with
  | tup => exact SqT.of h
  | lst => exact h
  | scr => exact h.elim
  | dct ks => exact h
  | obj C fs => exact h.elim
  | ins n fs => exact h
mutual
/-- the data stay where what they lean on stays -/
theorem Rep.mv : ∀ {d : D} {v : V} {S S' : Fp}, Rep K Z H d v S → Same Z Z' → (∀ a o, S a → H a = some o → NT o → H' a = some o) → (∀ a, S a → S' a) → Rep K Z' H' d v S'
  | .non, _, _, _, h, _, _, _ => h
  | .bl _, _, _, _, h, _, _, _ => h
  | .int _, _, _, _, h, _, _, _ => h
  | .str _, _, _, _, h, _, _, _ => h
  | .op _, _, _, _, h, _, _, _ => h
  | .node false k ds, v, S, S', h, z, k1, m => by
    obtain ⟨a, ys, e, c, r⟩ := h
    exact ⟨a, ys, e, c.same z, RepL.mv r z k1 m⟩
  | .node true k ds, v, S, S', h, z, k1, m => by
    obtain ⟨a, ys, T, e, c, sa, na, sub, r⟩ := h
    exact ⟨a, ys, T, e, c.sam fun o q => k1 a o sa q, m a sa, na, fun b hb => m b (sub b hb), RepL.mv r z (fun b o hb => k1 b o (sub b hb)) fun _ x => x⟩
theorem RepL.mv : ∀ {ds : List D} {vs : List V} {S S' : Fp}, RepL K Z H ds vs S → Same Z Z' → (∀ a o, S a → H a = some o → NT o → H' a = some o) → (∀ a, S a → S' a) → RepL K Z' H' ds vs S'
  | [], [], _, _, _, _, _, _ => trivial
  | [], _ :: _, _, _, h, _, _, _ => h.elim
  | _ :: _, [], _, _, h, _, _, _ => h.elim
  | d :: ds, v :: vs, S, S', h, z, k1, m => by
    obtain ⟨S1, S2, s1, s2, dj, r, q⟩ := h
    exact ⟨S1, S2, fun b hb => m b (s1 b hb), fun b hb => m b (s2 b hb), dj, Rep.mv r z (fun b o hb => k1 b o (s1 b hb)) fun _ x => x, RepL.mv q z (fun b o hb => k1 b o (s2 b hb)) fun _ x => x⟩
end
theorem Rep.move {d : D} {v : V} {S S' : Fp} (h : Rep K Z H d v S) (z : Same Z Z') (k : ∀ a o, S a → H a = some o → H' a = some o) (m : ∀ a, S a → S' a) : Rep K Z' H' d v S' := Rep.mv h z (fun a o s e _ => k a o s e) m
theorem RepL.move {ds : List D} {vs : List V} {S S' : Fp} (h : RepL K Z H ds vs S) (z : Same Z Z') (k : ∀ a o, S a → H a = some o → H' a = some o) (m : ∀ a, S a → S' a) : RepL K Z' H' ds vs S' := RepL.mv h z (fun a o s e _ => k a o s e) m
mutual
theorem Rep.plain : ∀ {d : D} {v : V} {S : Fp}, Rep K Z H d v S → d.plain = true → Rep K Z H' d v Fp0
  | .non, _, _, h, _ => h
  | .bl _, _, _, h, _ => h
  | .int _, _, _, h, _ => h
  | .str _, _, _, h, _ => h
  | .op _, _, _, h, _ => h
  | .node false k ds, v, S, h, p => by
    obtain ⟨a, ys, e, c, r⟩ := h
    rw [D.plain, Bool.and_eq_true] at p
    exact ⟨a, ys, e, c, RepL.plain r p.2⟩
  | .node true k ds, v, S, h, p => by
    rw [D.plain, Bool.and_eq_true] at p
    exact absurd p.1 (by decide)
theorem RepL.plain : ∀ {ds : List D} {vs : List V} {S : Fp}, RepL K Z H ds vs S → plainL ds = true → RepL K Z H' ds vs Fp0
  | [], [], _, _, _ => trivial
  | [], _ :: _, _, h, _ => h.elim
  | _ :: _, [], _, h, _ => h.elim
  | d :: ds, v :: vs, S, h, p => by
    obtain ⟨S1, S2, s1, s2, dj, r, q⟩ := h
    rw [plainL, Bool.and_eq_true] at p
    exact ⟨Fp0, Fp0, fun _ x => x, fun _ x => x, fun _ x _ => x, Rep.plain r p.1, RepL.plain q p.2⟩
end
/-- Z with what stands at S -/
noncomputable def thaw (Z H : Hp) (S : Fp) : Hp := fun a => open Classical in if S a then H a else Z a
theorem thaw_in {a : Addr} (h : S a) : thaw Z H S a = H a := by unfold thaw; rw [if_pos h]
theorem thaw_out {a : Addr} (h : ¬ S a) : thaw Z H S a = Z a := by unfold thaw; rw [if_neg h]
theorem thaw_same (sep : ∀ a, S a → Z a = none) : Same Z (thaw Z H S) := fun a o e => by
  by_cases h : S a
  · rw [sep a h] at e; cases e
  · rw [thaw_out h]; exact e
theorem thaw_le (s : Sam Z H) : Sam (thaw Z H S) H := ⟨fun a o e n => by
  by_cases h : S a
  · rw [thaw_in h] at e; exact e
  · rw [thaw_out h] at e; exact s.get _ _ e n⟩
mutual
theorem Rep.frz : ∀ {d : D} {v : V} {T : Fp}, Rep K Z H d v T → (∀ a, S a → Z a = none) → (∀ a, T a → S a) → Rep K (thaw Z H S) H' d.frz v Fp0
  | .non, _, _, h, _, _ => h
  | .bl _, _, _, h, _, _ => h
  | .int _, _, _, h, _, _ => h
  | .str _, _, _, h, _, _ => h
  | .op _, _, _, h, _, _ => h
  | .node false k ds, v, T, h, sep, m => by
    obtain ⟨a, ys, e, c, r⟩ := h
    exact ⟨a, ys, e, c.same (thaw_same sep), RepL.frz r sep m⟩
  | .node true k ds, v, T, h, sep, m => by
    obtain ⟨a, ys, T', e, c, sa, na, sub, r⟩ := h
    exact ⟨a, ys, e, (c.same fun o q => by rw [thaw_in (m a sa)]; exact q).frd, RepL.frz r sep fun b hb => m b (sub b hb)⟩
theorem RepL.frz : ∀ {ds : List D} {vs : List V} {T : Fp}, RepL K Z H ds vs T → (∀ a, S a → Z a = none) → (∀ a, T a → S a) → RepL K (thaw Z H S) H' (frzL ds) vs Fp0
  | [], [], _, _, _, _ => trivial
  | [], _ :: _, _, h, _, _ => h.elim
  | _ :: _, [], _, h, _, _ => h.elim
  | d :: ds, v :: vs, T, h, sep, m => by
    obtain ⟨S1, S2, s1, s2, dj, r, q⟩ := h
    exact ⟨Fp0, Fp0, fun _ x => x, fun _ x => x, fun _ x _ => x, Rep.frz r sep fun b hb => m b (s1 b hb), RepL.frz q sep fun b hb => m b (s2 b hb)⟩
end
theorem RepL.length : ∀ {ds : List D} {vs : List V} {S : Fp}, RepL K Z H ds vs S → ds.length = vs.length
  | [], [], _, _ => rfl
  | [], _ :: _, _, h => h.elim
  | _ :: _, [], _, h => h.elim
  | _ :: ds, _ :: vs, _, ⟨_, _, _, _, _, _, q⟩ => by rw [List.length_cons, List.length_cons, RepL.length q]
theorem RepL.get : ∀ {ds : List D} {vs : List V} {S : Fp} {i : Nat} {d : D}, RepL K Z H ds vs S → ds[i]? = some d → ∃ v, vs[i]? = some v ∧ Rep K Z H d v S
  | [], _, _, _, _, _, e => by simp at e
  | _ :: _, [], _, _, _, h, _ => h.elim
  | d :: ds, v :: vs, S, 0, d', h, e => by
    obtain ⟨S1, S2, s1, s2, dj, r, q⟩ := h
    simp only [List.getElem?_cons_zero, Option.some.injEq] at e
    subst e
    exact ⟨v, rfl, Rep.move r (Same.refl Z) (fun _ _ _ x => x) s1⟩
  | d :: ds, v :: vs, S, i + 1, d', h, e => by
    obtain ⟨S1, S2, s1, s2, dj, r, q⟩ := h
    simp only [List.getElem?_cons_succ] at e
    obtain ⟨u, hu, ru⟩ := RepL.get q e
    exact ⟨u, by simpa using hu, Rep.move ru (Same.refl Z) (fun _ _ _ x => x) s2⟩
theorem RepL.none_of {ds : List D} {vs : List V} {i : Nat} (h : RepL K Z H ds vs S) (e : ds[i]? = none) : vs[i]? = none := by
  rw [List.getElem?_eq_none_iff] at e ⊢
  rw [← h.length]; exact e
/-- all plain: the footprint is nothing -/
theorem RepL.of_all : ∀ {ds : List D} {vs : List V}, ds.length = vs.length → (∀ (i : Nat) (d : D) (v : V), ds[i]? = some d → vs[i]? = some v → Rep K Z H d v Fp0) → RepL K Z H ds vs Fp0
  | [], [], _, _ => trivial
  | [], _ :: _, h, _ => by simp at h
  | _ :: _, [], h, _ => by simp at h
  | d :: ds, v :: vs, h, f => ⟨Fp0, Fp0, fun _ x => x, fun _ x => x, fun _ x _ => x, f 0 d v rfl rfl, RepL.of_all (by simpa using h) fun i d' v' e1 e2 => f (i + 1) d' v' (by simpa using e1) (by simpa using e2)⟩
theorem RepL.append : ∀ {ds es : List D} {vs ws : List V} {S1 S2 T : Fp}, RepL K Z H ds vs S1 → RepL K Z H es ws S2 → (∀ a, S1 a → T a) → (∀ a, S2 a → T a) → (∀ a, S1 a → S2 a → False) → RepL K Z H (ds ++ es) (vs ++ ws) T
  | [], es, [], ws, S1, S2, T, _, h2, _, m2, _ => RepL.move h2 (Same.refl Z) (fun _ _ _ x => x) m2
  | [], _, _ :: _, _, _, _, _, h, _, _, _, _ => h.elim
  | _ :: _, _, [], _, _, _, _, h, _, _, _, _ => h.elim
  | d :: ds, es, v :: vs, ws, S1, S2, T, h, h2, m1, m2, dj => by
    obtain ⟨T1, T2, t1, t2, tj, r, q⟩ := h
    refine ⟨T1, fun a => T2 a ∨ S2 a, fun a x => m1 a (t1 a x), fun a x => x.elim (fun y => m1 a (t2 a y)) (m2 a), fun a x y => y.elim (tj a x) (dj a (t1 a x)), r, ?_⟩
    exact RepL.append (T := fun a => T2 a ∨ S2 a) q h2 (fun a x => Or.inl x) (fun a x => Or.inr x) fun a x y => dj a (t2 a x) y
/-- one item taken out of its place (an int stands there), the rest apart from it -/
theorem RepL.take : ∀ {ds : List D} {vs : List V} {S : Fp} {i : Nat} {d : D}, RepL K Z H ds vs S → ds[i]? = some d →
    ∃ v, ∃ S1 S2 : Fp, vs[i]? = some v ∧ (∀ a, S1 a → S a) ∧ (∀ a, S2 a → S a) ∧ (∀ a, S1 a → S2 a → False) ∧ Rep K Z H d v S1 ∧
      ∀ (Z' H' : Hp) (e : D) (w : V) (T1 T : Fp), Same Z Z' → (∀ a o, S2 a → H a = some o → H' a = some o) → Rep K Z' H' e w T1 → (∀ a, T1 a → T a) → (∀ a, S2 a → T a) → (∀ a, T1 a → S2 a → False) → RepL K Z' H' (ds.set i e) (vs.set i w) T
  | [], _, _, _, _, _, e => by simp at e
  | _ :: _, [], _, _, _, h, _ => h.elim
  | d :: ds, v :: vs, S, 0, d', h, e => by
    obtain ⟨S1, S2, s1, s2, dj, r, q⟩ := h
    simp only [List.getElem?_cons_zero, Option.some.injEq] at e
    subst e
    exact ⟨v, S1, S2, rfl, s1, s2, dj, r, fun Z' H' e w T1 T z k r' m1 m2 dj' => ⟨T1, S2, m1, m2, dj', r', RepL.move q z k fun _ x => x⟩⟩
  | d :: ds, v :: vs, S, i + 1, d', h, e => by
    obtain ⟨S1, S2, s1, s2, dj, r, q⟩ := h
    simp only [List.getElem?_cons_succ] at e
    obtain ⟨u, U1, U2, hu, u1, u2, uj, ru, f⟩ := RepL.take q e
    refine ⟨u, U1, fun a => S1 a ∨ U2 a, by simpa using hu, fun a x => s2 a (u1 a x), fun a x => x.elim (s1 a) fun y => s2 a (u2 a y), fun a x y => y.elim (fun z => dj a z (u1 a x)) (uj a x), ru, ?_⟩
    intro Z' H' e w T1 T z k r' m1 m2 dj'
    refine ⟨S1, fun a => T1 a ∨ U2 a, fun a x => m2 a (.inl x), fun a x => x.elim (m1 a) fun y => m2 a (.inr y), fun a x y => y.elim (fun t => dj' a t (.inl x)) fun t => dj a x (u2 a t), Rep.move r z (fun a o x => k a o (.inl x)) fun _ x => x, ?_⟩
    exact f Z' H' e w T1 _ z (fun a o x => k a o (.inr x)) r' (fun a x => .inl x) (fun a x => .inr x) fun a x y => dj' a x (.inr y)
end

/-! ### tables of code objects -/
/-- the mark that a table of code objects of the name q stands somewhere -/
def mark (q : Str) : HO := .tbl #[.str q 0]
theorem mark_inj {q q' : Str} (h : mark q = mark q') : q = q' := by
  unfold mark at h
  simpa using h
/-- the names of the module that K tells -/
def topNames (K : PySem.W.Frag) : List Str := match K.lookup mainGlobals with
  | some ⟨_, _, .dict es _, _⟩ => es.toList.filterMap fun e => match e.key with
    | .str s _ => some s
    | _ => none
  | _ => []
/-- defs with their code objects and the tables of these -/
def tabsK (K : PySem.W.Frag) : List (Str × Addr × Addr) := (topNames K).filterMap fun x => (PySem.W.tabIn K x).map fun cp => (x, cp.1, cp.2)
def lamName (x : Str) : Str := (x ++ ".<locals>.") ++ "<lambda>"
/-- the tables are marked -/
def Marks (K : PySem.W.Frag) (Z : Hp) : Prop := ∀ t ∈ tabsK K, Z t.2.2 = some (mark (lamName t.1))
theorem Marks.same {K : PySem.W.Frag} {Z Z' : Hp} (m : Marks K Z) (s : Same Z Z') : Marks K Z' := fun t ht => s _ _ (m t ht)
/-! ### slots -/
abbrev Env := List (Option D)
def EnvR (K : PySem.W.Frag) (Z H : Hp) : Env → Sl → Fp → Prop
  | [], [], _ => Marks K Z
  | none :: ρ, _ :: σ, S => EnvR K Z H ρ σ S
  | some d :: ρ, some v :: σ, S => ∃ S1 S2 : Fp, (∀ a, S1 a → S a) ∧ (∀ a, S2 a → S a) ∧ (∀ a, S1 a → S2 a → False) ∧ Rep K Z H d v S1 ∧ EnvR K Z H ρ σ S2
  | _, _, _ => False
section
variable {K : PySem.W.Frag} {Z Z' H H' : Hp} {S S' : Fp}
theorem EnvR.marks : ∀ {ρ : Env} {σ : Sl} {S : Fp}, EnvR K Z H ρ σ S → Marks K Z
  | [], [], _, h => h
  | [], _ :: _, _, h => h.elim
  | none :: _, [], _, h => h.elim
  | some _ :: _, [], _, h => h.elim
  | none :: ρ, _ :: σ, S, h => EnvR.marks (ρ := ρ) (σ := σ) h
  | some _ :: ρ, none :: σ, S, h => h.elim
  | some _ :: ρ, some _ :: σ, S, ⟨_, _, _, _, _, _, q⟩ => q.marks
theorem EnvR.length : ∀ {ρ : Env} {σ : Sl} {S : Fp}, EnvR K Z H ρ σ S → ρ.length = σ.length
  | [], [], _, _ => rfl
  | [], _ :: _, _, h => h.elim
  | none :: _, [], _, h => h.elim
  | some _ :: _, [], _, h => h.elim
  | none :: ρ, _ :: σ, S, h => by rw [List.length_cons, List.length_cons, EnvR.length (ρ := ρ) (σ := σ) h]
  | some _ :: ρ, none :: σ, S, h => h.elim
  | some _ :: ρ, some _ :: σ, S, ⟨_, _, _, _, _, _, q⟩ => by rw [List.length_cons, List.length_cons, EnvR.length q]
theorem EnvR.mv : ∀ {ρ : Env} {σ : Sl} {S S' : Fp}, EnvR K Z H ρ σ S → Same Z Z' → (∀ a o, S a → H a = some o → NT o → H' a = some o) → (∀ a, S a → S' a) → EnvR K Z' H' ρ σ S'
  | [], [], _, _, h, z, _, _ => h.same z
  | [], _ :: _, _, _, h, _, _, _ => h.elim
  | none :: _, [], _, _, h, _, _, _ => h.elim
  | some _ :: _, [], _, _, h, _, _, _ => h.elim
  | none :: ρ, _ :: σ, S, S', h, z, k, m => EnvR.mv (ρ := ρ) (σ := σ) h z k m
  | some _ :: _, none :: _, _, _, h, _, _, _ => h.elim
  | some d :: ρ, some v :: σ, S, S', h, z, k, m => by
    obtain ⟨S1, S2, s1, s2, dj, r, q⟩ := h
    exact ⟨S1, S2, fun b hb => m b (s1 b hb), fun b hb => m b (s2 b hb), dj, Rep.mv r z (fun b o hb => k b o (s1 b hb)) fun _ x => x, EnvR.mv q z (fun b o hb => k b o (s2 b hb)) fun _ x => x⟩
theorem EnvR.move {ρ : Env} {σ : Sl} {S S' : Fp} (h : EnvR K Z H ρ σ S) (z : Same Z Z') (k : ∀ a o, S a → H a = some o → H' a = some o) (m : ∀ a, S a → S' a) : EnvR K Z' H' ρ σ S' := EnvR.mv h z (fun a o s e _ => k a o s e) m
/-- a slot is taken -/
theorem EnvR.take : ∀ {ρ : Env} {σ : Sl} {S : Fp} {i : Nat} {d : D}, EnvR K Z H ρ σ S → ρ[i]? = some (some d) →
    ∃ v, ∃ S1 S2 : Fp, σ[i]? = some (some v) ∧ (∀ a, S1 a → S a) ∧ (∀ a, S2 a → S a) ∧ (∀ a, S1 a → S2 a → False) ∧ Rep K Z H d v S1 ∧ EnvR K Z H (ρ.set i none) σ S2
  | [], _, _, _, _, _, e => by simp at e
  | none :: _, [], _, _, _, h, _ => h.elim
  | some _ :: _, [], _, _, _, h, _ => h.elim
  | none :: ρ, y :: σ, S, 0, d, h, e => by simp at e
  | none :: ρ, y :: σ, S, i + 1, d, h, e => by
    simp only [List.getElem?_cons_succ] at e
    obtain ⟨v, S1, S2, hv, s1, s2, dj, r, q⟩ := EnvR.take (ρ := ρ) (σ := σ) h e
    exact ⟨v, S1, S2, by simpa using hv, s1, s2, dj, r, q⟩
  | some _ :: _, none :: _, _, _, _, h, _ => h.elim
  | some d' :: ρ, some v :: σ, S, 0, d, h, e => by
    obtain ⟨S1, S2, s1, s2, dj, r, q⟩ := h
    simp only [List.getElem?_cons_zero, Option.some.injEq] at e
    subst e
    exact ⟨v, S1, S2, rfl, s1, s2, dj, r, q⟩
  | some d' :: ρ, some v' :: σ, S, i + 1, d, h, e => by
    obtain ⟨T1, T2, t1, t2, tj, tr, tq⟩ := h
    simp only [List.getElem?_cons_succ] at e
    obtain ⟨v, S1, S2, hv, s1, s2, dj, r, q⟩ := EnvR.take tq e
    refine ⟨v, S1, fun a => T1 a ∨ S2 a, by simpa using hv, fun a x => t2 a (s1 a x), fun a x => x.elim (t1 a) fun y => t2 a (s2 a y), fun a x y => y.elim (fun z => tj a z (s1 a x)) (dj a x), r, ?_⟩
    exact ⟨T1, S2, fun a x => .inl x, fun a x => .inr x, fun a x y => tj a x (s2 a y), tr, q⟩
/-- a slot is filled -/
theorem EnvR.put : ∀ {ρ : Env} {σ : Sl} {S1 S2 S : Fp} {i : Nat} {d : D} {v : V}, EnvR K Z H (ρ.set i none) σ S2 → i < ρ.length → Rep K Z H d v S1 → (∀ a, S1 a → S a) → (∀ a, S2 a → S a) → (∀ a, S1 a → S2 a → False) →
    EnvR K Z H (ρ.set i (some d)) (σ.set i (some v)) S
  | [], _, _, _, _, _, _, _, _, l, _, _, _, _ => by simp at l
  | _ :: _, [], _, _, _, 0, _, _, h, _, _, _, _, _ => h.elim
  | none :: _, [], _, _, _, _ + 1, _, _, h, _, _, _, _, _ => h.elim
  | some _ :: _, [], _, _, _, _ + 1, _, _, h, _, _, _, _, _ => h.elim
  | x :: ρ, y :: σ, S1, S2, S, 0, d, v, h, _, r, m1, m2, dj => ⟨S1, S2, m1, m2, dj, r, h⟩
  | none :: ρ, y :: σ, S1, S2, S, i + 1, d, v, h, l, r, m1, m2, dj => EnvR.put (ρ := ρ) (σ := σ) h (by simpa using l) r m1 m2 dj
  | some _ :: _, none :: _, _, _, _, _ + 1, _, _, h, _, _, _, _, _ => h.elim
  | some d' :: ρ, some v' :: σ, S1, S2, S, i + 1, d, v, h, l, r, m1, m2, dj => by
    obtain ⟨T1, T2, t1, t2, tj, tr, tq⟩ := h
    refine ⟨T1, fun a => S1 a ∨ T2 a, fun a x => m2 a (t1 a x), fun a x => x.elim (m1 a) fun y => m2 a (t2 a y), fun a x y => y.elim (fun z => dj a z (t1 a x)) (tj a x), tr, ?_⟩
    exact EnvR.put tq (by simpa using l) r (fun a x => .inl x) (fun a x => .inr x) fun a x y => dj a x (t2 a y)
/-- a slot forgotten -/
theorem EnvR.drop : ∀ {ρ : Env} {σ : Sl} {S : Fp} (i : Nat), EnvR K Z H ρ σ S → EnvR K Z H (ρ.set i none) σ S
  | [], [], _, _, h => h
  | [], _ :: _, _, _, h => h.elim
  | none :: _, [], _, _, h => h.elim
  | some _ :: _, [], _, _, h => h.elim
  | none :: ρ, _ :: σ, S, 0, h => h
  | none :: ρ, _ :: σ, S, i + 1, h => EnvR.drop (ρ := ρ) (σ := σ) i h
  | some _ :: _, none :: _, _, _, h => h.elim
  | some d :: ρ, some v :: σ, S, 0, ⟨S1, S2, s1, s2, dj, r, q⟩ => EnvR.move q (Same.refl Z) (fun _ _ _ x => x) s2
  | some d :: ρ, some v :: σ, S, i + 1, ⟨S1, S2, s1, s2, dj, r, q⟩ => ⟨S1, S2, s1, s2, dj, r, EnvR.drop i q⟩
/-- what stands in a slot that is not known does not matter -/
theorem EnvR.any : ∀ {ρ : Env} {σ : Sl} {S : Fp} {i : Nat} (y : Option V), EnvR K Z H ρ σ S → ρ[i]? = some none → EnvR K Z H ρ (σ.set i y) S
  | [], _, _, _, _, _, e => by simp at e
  | none :: _, [], _, _, _, h, _ => h.elim
  | some _ :: _, [], _, _, _, h, _ => h.elim
  | none :: ρ, _ :: σ, S, 0, y, h, _ => h
  | none :: ρ, _ :: σ, S, i + 1, y, h, e => EnvR.any (ρ := ρ) (σ := σ) (i := i) y h (by simpa using e)
  | some _ :: _, none :: _, _, _, _, h, _ => h.elim
  | some d :: ρ, some v :: σ, S, 0, y, h, e => by simp at e
  | some d :: ρ, some v :: σ, S, i + 1, y, ⟨S1, S2, s1, s2, dj, r, q⟩, e => ⟨S1, S2, s1, s2, dj, r, EnvR.any y q (by simpa using e)⟩
end

/-! ### steps of the world -/
/-- the tables that Z marks are tables in H; each code object that they tell bears its name -/
def Tb (Z H : Hp) : Prop := ∃ L : List (Addr × Str), (∀ P ps, Z P = some (.tbl ps) → ∃ q, HO.tbl ps = mark q ∧ (P, q) ∈ L) ∧ ∀ p ∈ L, Z p.1 = some (mark p.2) ∧ LamX.TabS H p.1 p.2
structure Wd (Z H : Hp) (S : Fp) : Prop where
  same : Sam Z H
  sep : ∀ a, S a → Z a = none
  own : ∀ a, S a → ∃ o, H a = some o ∧ NW o
  tabs : Tb Z H
theorem Wd.dom {Z H : Hp} {S : Fp} (w : Wd Z H S) (a : Addr) (x : S a) : H a ≠ none := by
  obtain ⟨o, e, _⟩ := w.own a x
  rw [e]
  exact fun q => nomatch q
/-- nothing but a table may stand there -/
def Fre (H : Hp) (a : Addr) : Prop := ∀ o, H a = some o → ¬ NT o
theorem Fre.of {H : Hp} {a : Addr} (n : H a = none) : Fre H a := fun o e => by rw [n] at e; cases e
theorem Wd.live {Z H : Hp} {S : Fp} (w : Wd Z H S) (a : Addr) (x : S a) : ¬ Fre H a := fun f => by
  obtain ⟨o, e, n⟩ := w.own a x
  exact f o e n.1
structure Step (Z H : Hp) (S : Fp) (Z' H' : Hp) (S' : Fp) : Prop where
  wd : Wd Z' H' S'
  zz : Same Z Z'
  fr : ∀ a o, ¬ S a → H a = some o → NT o → H' a = some o
  new : ∀ a, S' a → S a ∨ Fre H a
  znew : ∀ a o, Z' a = some o → Z a = some o ∨ S a ∨ Fre H a
section
variable {Z Z1 Z2 H H1 H2 : Hp} {S S1 S2 T : Fp}
theorem Step.free (a : Step Z H S Z1 H1 S1) {x : Addr} (n : ¬ S x) (e : Fre H1 x) : Fre H x := fun o q t => e o (a.fr x o n q t) t
theorem Tb.isT {P : Addr} {ps : Array Value} (t : Tb Z H) (e : Z P = some (.tbl ps)) : ∃ ps', H P = some (.tbl ps') := by
  obtain ⟨L, h1, h2⟩ := t
  obtain ⟨q, _, m⟩ := h1 P ps e
  obtain ⟨_, ps', e2, _⟩ := h2 _ m
  exact ⟨ps', e2⟩
theorem Tb.ext (t : Tb Z H) (z1 : ∀ P ps, Z1 P = some (.tbl ps) → Z P = some (.tbl ps)) (z2 : Same Z Z1) (k : ∀ b o, H b = some o → ((∃ ps, o = .tbl ps) ∨ ∃ φ, o = .ext φ) → H1 b = some o) : Tb Z1 H1 := by
  obtain ⟨L, h1, h2⟩ := t
  refine ⟨L, fun P ps e => h1 P ps (z1 P ps e), fun p hp => ?_⟩
  obtain ⟨e1, ps, e2, e3, e4⟩ := h2 p hp
  refine ⟨z2 _ _ e1, ps, k _ _ e2 (.inl ⟨ps, rfl⟩), e3, fun pos cv hc => ?_⟩
  obtain ⟨c, r1, r2⟩ := e4 pos cv hc
  exact ⟨c, r1, k _ _ r2 (.inr ⟨_, rfl⟩)⟩
theorem Step.refl (w : Wd Z H S) : Step Z H S Z H S := ⟨w, Same.refl Z, fun _ _ _ e _ => e, fun _ x => .inl x, fun _ _ e => .inl e⟩
theorem Step.trans (a : Step Z H S Z1 H1 S1) (b : Step Z1 H1 S1 Z2 H2 S2) : Step Z H S Z2 H2 S2 where
  wd := b.wd
  zz := a.zz.trans b.zz
  fr := fun x o n e t => b.fr x o (fun q => (a.new x q).elim n fun z => z o e t) (a.fr x o n e t) t
  new := fun x q => by
    rcases b.new x q with h | h
    · exact a.new x h
    · by_cases hs : S x
      · exact .inl hs
      · exact .inr (a.free hs h)
  znew := fun x o q => by
    rcases b.znew x o q with h | h | h
    · exact a.znew x o h
    · rcases a.new x h with h | h
      · exact .inr (.inl h)
      · exact .inr (.inr h)
    · by_cases hs : S x
      · exact .inr (.inl hs)
      · exact .inr (.inr (a.free hs h))
theorem Wd.less (w : Wd Z H S) (m : ∀ a, S1 a → S a) : Wd Z H S1 := ⟨w.same, fun a x => w.sep a (m a x), fun a x => w.own a (m a x), w.tabs⟩
/-- a part of what is owned is put aside -/
theorem Step.less (a : Step Z H S Z1 H1 S1) (m : ∀ a, S2 a → S1 a) : Step Z H S Z1 H1 S2 := ⟨a.wd.less m, a.zz, a.fr, fun x q => a.new x (m x q), a.znew⟩
/-- a step of a part is a step of the whole: T is put aside -/
theorem Step.frame (a : Step Z H S Z1 H1 S1) (w : Wd Z H (fun x => S x ∨ T x)) (dj : ∀ x, S x → T x → False) : Step Z H (fun x => S x ∨ T x) Z1 H1 (fun x => S1 x ∨ T x) where
  wd := ⟨a.wd.same, fun x q => q.elim (a.wd.sep x) fun t => by
      cases e : Z1 x with
      | none => rfl
      | some o =>
        rcases a.znew x o e with h | h | h
        · rw [w.sep x (.inr t)] at h; cases h
        · exact (dj x h t).elim
        · exact (w.live x (.inr t) h).elim, fun x q => q.elim (a.wd.own x) fun t => by
      obtain ⟨o, e, n⟩ := w.own x (.inr t)
      exact ⟨o, a.fr x o (fun h => dj x h t) e n.1, n⟩, a.wd.tabs⟩
  zz := a.zz
  fr := fun x o n e => a.fr x o (fun q => n (.inl q)) e
  new := fun x q => q.elim (fun h => (a.new x h).elim (fun z => .inl (.inl z)) .inr) fun t => .inl (.inr t)
  znew := fun x o e => (a.znew x o e).elim .inl fun h => h.elim (fun z => .inr (.inl (.inl z))) fun z => .inr (.inr z)
theorem Step.apart (a : Step Z H S Z1 H1 S1) (w : ∀ x, T x → ¬ Fre H x) (dj : ∀ x, S x → T x → False) : ∀ x, S1 x → T x → False := fun x q t => (a.new x q).elim (fun h => dj x h t) fun h => w x t h
/-- what is put aside stays -/
theorem Step.stay {K : PySem.W.Frag} {d : D} {v : V} (a : Step Z H S Z1 H1 S1) (dj : ∀ x, S x → T x → False) (r : Rep K Z H d v T) : Rep K Z1 H1 d v T := r.mv a.zz (fun x o t e n => a.fr x o (fun h => dj x h t) e n) fun _ x => x
theorem Step.stayL {K : PySem.W.Frag} {ds : List D} {vs : List V} (a : Step Z H S Z1 H1 S1) (dj : ∀ x, S x → T x → False) (r : RepL K Z H ds vs T) : RepL K Z1 H1 ds vs T := r.mv a.zz (fun x o t e n => a.fr x o (fun h => dj x h t) e n) fun _ x => x
theorem Step.stayE {K : PySem.W.Frag} {ρ : Env} {σ : Sl} (a : Step Z H S Z1 H1 S1) (dj : ∀ x, S x → T x → False) (r : EnvR K Z H ρ σ T) : EnvR K Z1 H1 ρ σ T := r.mv a.zz (fun x o t e n => a.fr x o (fun h => dj x h t) e n) fun _ x => x
/-- a new object, owned -/
theorem Step.alloc {p : Addr} {o : HO} (w : Wd Z H S) (n : H p = none) (hn : NW o := by constructor <;> (intro ps e; cases e)) : Step Z H S Z (upd H p o) (fun a => S a ∨ a = p) where
  wd := ⟨⟨fun a u e t => by rw [upd_ne (ne_of_none (w.same.get a u e t) n)]; exact w.same.get a u e t⟩, fun a q => q.elim (w.sep a) fun e => by
      subst e
      cases e : Z a with
      | none => rfl
      | some u =>
        rcases nt_or u with ⟨ps, rfl⟩ | t
        · obtain ⟨ps', h1⟩ := w.tabs.isT e
          rw [n] at h1
          cases h1
        · exact absurd ((w.same.get a u e t).symm.trans n) (fun z => nomatch z), fun a q => by
      by_cases h : a = p
      · subst h; exact ⟨o, upd_same, hn⟩
      · obtain ⟨u, e, t⟩ := w.own a (q.resolve_right h)
        exact ⟨u, by rw [upd_ne h]; exact e, t⟩, w.tabs.ext (fun _ _ e => e) (Same.refl Z) fun b u e _ => by rw [upd_ne (ne_of_none e n)]; exact e⟩
  zz := Same.refl Z
  fr := fun a u _ e _ => by rw [upd_ne (ne_of_none e n)]; exact e
  new := fun a q => q.elim .inl fun h => by subst h; exact .inr (Fre.of n)
  znew := fun _ _ e => .inl e
theorem Wd.zfree {p : Addr} (w : Wd Z H S) (n : H p = none) : Z p = none := by
  cases e : Z p with
  | none => rfl
  | some u =>
    rcases nt_or u with ⟨ps, rfl⟩ | t
    · obtain ⟨ps', h1⟩ := w.tabs.isT e
      rw [n] at h1
      cases h1
    · exact absurd ((w.same.get p u e t).symm.trans n) (fun z => nomatch z)
/-- a new object, frozen -/
theorem Step.allocZ {p : Addr} {o : HO} (w : Wd Z H S) (n : H p = none) (hn : NT o := by intro ps e; cases e) : Step Z H S (upd Z p o) (upd H p o) S := by
  have nz : Z p = none := w.zfree n
  exact {
    wd := ⟨⟨fun a u e t => by
      by_cases h : a = p
      · subst h; rw [upd_same] at e ⊢; exact e
      · rw [upd_ne h] at e ⊢; exact w.same.get a u e t⟩, fun a s => by
      have h : a ≠ p := fun h => by subst h; exact w.dom _ s n
      rw [upd_ne h]; exact w.sep a s, fun a s => by
      have h : a ≠ p := fun h => by subst h; exact w.dom _ s n
      rw [upd_ne h]; exact w.own a s, w.tabs.ext (fun P ps e => by
      by_cases h : P = p
      · subst h; rw [upd_same] at e; cases e; exact absurd rfl (hn ps)
      · rw [upd_ne h] at e; exact e) (fun a u e => by rw [upd_ne (ne_of_none e nz)]; exact e) fun b u e _ => by rw [upd_ne (ne_of_none e n)]; exact e⟩
    zz := fun a u e => by rw [upd_ne (ne_of_none e nz)]; exact e
    fr := fun a u _ e _ => by rw [upd_ne (ne_of_none e n)]; exact e
    new := fun a q => .inl q
    znew := fun a u e => by
      by_cases h : a = p
      · subst h; exact .inr (.inr (Fre.of n))
      · rw [upd_ne h] at e; exact .inl e }
/-- an owned object is written -/
theorem Step.write {p : Addr} {o : HO} (w : Wd Z H S) (s : S p) (hn : NW o := by constructor <;> (intro ps e; cases e)) : Step Z H S Z (upd H p o) S where
  wd := ⟨⟨fun a u e t => by
      have h : a ≠ p := fun h => by subst h; rw [w.sep _ s] at e; cases e
      rw [upd_ne h]; exact w.same.get a u e t⟩, w.sep, fun a s' => by
      by_cases h : a = p
      · subst h; exact ⟨o, upd_same, hn⟩
      · rw [upd_ne h]; exact w.own a s', w.tabs.ext (fun _ _ e => e) (Same.refl Z) fun b u e hu => by
      have h : b ≠ p := fun h => by
        subst h
        obtain ⟨o', e', n1, n2⟩ := w.own b s
        rw [e] at e'
        cases e'
        rcases hu with ⟨ps, rfl⟩ | ⟨φ, rfl⟩
        · exact n1 ps rfl
        · exact n2 φ rfl
      rw [upd_ne h]; exact e⟩
  zz := Same.refl Z
  fr := fun a u n e _ => by rw [upd_ne fun h => n (by subst h; exact s)]; exact e
  new := fun a q => .inl q
  znew := fun _ _ e => .inl e
/-- a part is frozen -/
theorem Step.freeze (w : Wd Z H S) (m : ∀ a, T a → S a) (m2 : ∀ a, S1 a → S a) (dj : ∀ a, S1 a → T a → False) : Step Z H S (thaw Z H T) H S1 where
  wd := ⟨thaw_le w.same, fun a s => by rw [thaw_out fun t => dj a s t]; exact w.sep a (m2 a s), fun a s => w.own a (m2 a s), w.tabs.ext (fun P ps e => by
      by_cases h : T P
      · rw [thaw_in h] at e
        obtain ⟨o, e2, n⟩ := w.own P (m P h)
        rw [e] at e2
        cases e2
        exact absurd rfl (n.1 ps)
      · rw [thaw_out h] at e; exact e) (thaw_same fun a t => w.sep a (m a t)) fun _ _ e _ => e⟩
  zz := thaw_same fun a t => w.sep a (m a t)
  fr := fun _ _ _ e _ => e
  new := fun a s => .inl (m2 a s)
  znew := fun a o e => by
    by_cases h : T a
    · exact .inr (.inl (m a h))
    · rw [thaw_out h] at e; exact .inl e
end
end Pm
/-! PmB: programs as functions over slots of data, and when a reading follows from such a function. -/
namespace Pm
open PySem PySem.Spec PyProof.Rows L2

structure XD where
  cls : Str
  fs : List (Str × D)
inductive Res (α : Type) where
  | stuck | ok (a : α) (ρ : Env) | exc (x : XD) (ρ : Env)
abbrev M (α : Type) := Env → Res α
/-- what an expression gives: data of its own, or what stands in a slot -/
inductive EV where
  | val (d : D) | ref (i : Nat)
inductive Fl where
  | nx | bk | ct | rt (d : D)
def ret {α : Type} (a : α) : M α := fun ρ => .ok a ρ
def bnd {α β : Type} (m : M α) (f : α → M β) : M β := fun ρ => match m ρ with
  | .stuck => .stuck
  | .ok a ρ' => f a ρ'
  | .exc x ρ' => .exc x ρ'
def lift {α : Type} : Option α → M α
  | some a => fun ρ => .ok a ρ
  | none => fun _ => .stuck
def peek1 (ρ : Env) : EV → Option D
  | .val d => some d
  | .ref i => ρ.getD i none
def peeks (ρ : Env) : List EV → Option (List D)
  | [] => some []
  | e :: es => match peek1 ρ e, peeks ρ es with
    | some d, some ds => some (d :: ds)
    | _, _ => none
/-- to take what an expression gave for keeps -/
def use1 : EV → M D
  | .val d => fun ρ => .ok d ρ
  | .ref i => fun ρ => match ρ.getD i none with
    | some d => .ok d.frz (ρ.set i (some d.frz))
    | none => .stuck
def useL : List EV → M (List D)
  | [] => ret []
  | e :: es => bnd (use1 e) fun d => bnd (useL es) fun ds => ret (d :: ds)

/-! ### what stands behind -/
section
variable (K : PySem.W.Frag) (mg : Str → Option Value)
def EVR (Z H : Hp) (σ : Sl) : EV → V → Fp → Prop
  | .val d, v, S => Rep K Z H d v S
  | .ref i, v, _ => σ[i]? = some (some v)
def EVsR (Z H : Hp) (σ : Sl) : List EV → List V → Fp → Prop
  | [], [], _ => True
  | e :: es, v :: vs, S => ∃ S1 S2 : Fp, (∀ a, S1 a → S a) ∧ (∀ a, S2 a → S a) ∧ (∀ a, S1 a → S2 a → False) ∧ EVR K Z H σ e v S1 ∧ EVsR Z H σ es vs S2
  | _, _, _ => False
def ExcR (Z : Hp) (x : XD) (cls : Value) (dd : Option Addr) : Prop :=
  ∃ C, mg x.cls = some (.ref C) ∧ reg K x.cls = some C ∧ cls = .ref C ∧ ((dd = none ∧ x.fs = []) ∨ ∃ d vs, dd = some d ∧ Z d = some (.xd ((x.fs.map (·.1)).zip vs)) ∧ RepL K Z Z (x.fs.map (·.2)) vs Fp0)
/-- what is asked of an exception -/
def XOut (W : WX) (Z H : Hp) (S : Fp) (σ : Sl) (x : XD) (ρ' : Env) : Prop :=
  ∀ cls dd Z' H' S', Step Z H S Z' H' S' → EnvR K Z' H' ρ' σ S' → ExcR K mg Z' x cls dd → W cls dd σ H'
def OutA (W : WX) (Z H : Hp) (S : Fp) (σ : Sl) (Q : List V → Hp → Prop) : Res (List EV) → Prop
  | .stuck => False
  | .ok es ρ' => ∀ vs Z' H' S' Sd, Step Z H S Z' H' (fun a => S' a ∨ Sd a) → (∀ a, S' a → Sd a → False) → EnvR K Z' H' ρ' σ S' → EVsR K Z' H' σ es vs Sd → Q vs H'
  | .exc x ρ' => XOut K mg W Z H S σ x ρ'
def OutE (W : WX) (Z H : Hp) (S : Fp) (σ : Sl) (Q : VK) : Res EV → Prop
  | .stuck => False
  | .ok e ρ' => ∀ v Z' H' S' Sd, Step Z H S Z' H' (fun a => S' a ∨ Sd a) → (∀ a, S' a → Sd a → False) → EnvR K Z' H' ρ' σ S' → EVR K Z' H' σ e v Sd → Q v H'
  | .exc x ρ' => XOut K mg W Z H S σ x ρ'
def OutT (W : WX) (Z H : Hp) (S : Fp) (σ : Sl) (Q : Bool → Hp → Prop) : Res Bool → Prop
  | .stuck => False
  | .ok b ρ' => ∀ Z' H' S', Step Z H S Z' H' S' → EnvR K Z' H' ρ' σ S' → Q b H'
  | .exc x ρ' => XOut K mg W Z H S σ x ρ'
def FlR (Z H : Hp) : Fl → V → Fp → Prop
  | .rt d, v, S => Rep K Z H d v S
  | _, _, _ => True
def FlGo (D : Ends) (σ : Sl) (v : V) (H : Hp) : Fl → Prop
  | .nx => D.nx σ H
  | .bk => D.bk σ H
  | .ct => D.ct σ H
  | .rt _ => D.rt v H
/-- slots that are not stored (A tells which may be) -/
def Keep (A : Nat → Bool) (σ σ' : Sl) : Prop := (∀ j : Nat, A j = false → σ'[j]? = σ[j]?) ∧ σ'.length = σ.length
def OutS (W : WX) (A : Nat → Bool) (σ : Sl) (Z H : Hp) (S : Fp) (D : Ends) : Res Fl → Prop
  | .stuck => False
  | .ok fl ρ' => ∀ σ' v Z' H' S' Sd, Keep A σ σ' → Step Z H S Z' H' (fun a => S' a ∨ Sd a) → (∀ a, S' a → Sd a → False) → EnvR K Z' H' ρ' σ' S' → FlR K Z' H' fl v Sd → FlGo D σ' v H' fl
  | .exc x ρ' => ∀ σ', Keep A σ σ' → XOut K mg W Z H S σ' x ρ'
def tE (W : WX) (f : M EV) : TE := fun σ H Q => ∃ Z ρ S, Wd Z H S ∧ EnvR K Z H ρ σ S ∧ OutE K mg W Z H S σ Q (f ρ)
def tA (W : WX) (f : M (List EV)) : TA := fun σ H Q => ∃ Z ρ S, Wd Z H S ∧ EnvR K Z H ρ σ S ∧ OutA K mg W Z H S σ Q (f ρ)
def tT (W : WX) (f : M Bool) : TT := fun σ H Q => ∃ Z ρ S, Wd Z H S ∧ EnvR K Z H ρ σ S ∧ OutT K mg W Z H S σ Q (f ρ)
def tS (W : WX) (A : Nat → Bool) (f : M Fl) : TS := fun D σ H => ∃ Z ρ S, Wd Z H S ∧ EnvR K Z H ρ σ S ∧ OutS K mg W A σ Z H S D (f ρ)
end

theorem Keep.refl {A : Nat → Bool} (σ : Sl) : Keep A σ σ := ⟨fun _ _ => rfl, rfl⟩
theorem Keep.trans {A : Nat → Bool} {σ σ1 σ2 : Sl} (a : Keep A σ σ1) (b : Keep A σ1 σ2) : Keep A σ σ2 := ⟨fun j h => (b.1 j h).trans (a.1 j h), b.2.trans a.2⟩
/-! ### weakening -/
section
variable {X : Cx} {e : Expr} {es : List Expr} {st : Stmt} {sts : List Stmt}
theorem PE.of {t t' : TE} (h : PE X e t) (i : ∀ σ H Q, t' σ H Q → t σ H Q) : PE X e t' := ⟨fun p s σ H Q I q => h.run p s σ H Q I (i σ H Q q)⟩
theorem PA.of {t t' : TA} (h : PA X es t) (i : ∀ σ H Q, t' σ H Q → t σ H Q) : PA X es t' := ⟨fun o p s σ H Q I q => h.run o p s σ H Q I (i σ H Q q)⟩
theorem PT.of {t t' : TT} (h : PT X e t) (i : ∀ σ H Q, t' σ H Q → t σ H Q) : PT X e t' := ⟨fun p s σ H Q I q => h.run p s σ H Q I (i σ H Q q)⟩
theorem PW.of {t t' : TT} (h : PW X e t) (i : ∀ σ H Q, t' σ H Q → t σ H Q) : PW X e t' := ⟨fun o p s σ H Q I q => h.run o p s σ H Q I (i σ H Q q)⟩
theorem PS.of {t t' : TS} (h : PS X st t) (i : ∀ D σ H, t' D σ H → t D σ H) : PS X st t' := ⟨fun p s σ H D I q => h.run p s σ H D I (i D σ H q)⟩
theorem PSs.of {t t' : TS} (h : PSs X sts t) (i : ∀ D σ H, t' D σ H → t D σ H) : PSs X sts t' := ⟨fun p s σ H D I q => h.run p s σ H D I (i D σ H q)⟩
end

section
variable {K : PySem.W.Frag} {mg : Str → Option Value} {W : WX} {Z H : Hp} {S : Fp} {σ : Sl}
theorem XOut.behind {Z1 H1 : Hp} {S1 Sa : Fp} {x : XD} {ρ' : Env} (st : Step Z H S Z1 H1 (fun a => S1 a ∨ Sa a)) (dj : ∀ a, S1 a → Sa a → False) (h : XOut K mg W Z H S σ x ρ') : XOut K mg W Z1 H1 S1 σ x ρ' :=
  fun cls dd Z' H' S' st' er xr => h cls dd Z' H' S' ((st.trans (st'.frame st.wd dj)).less fun a s => .inl s) er xr
/-! ### argument lists -/
def aNil : M (List EV) := ret []
def aCons (f : M EV) (fs : M (List EV)) : M (List EV) := bnd f fun e => bnd fs fun es => ret (e :: es)
theorem EVR.stay {Z' H' : Hp} {S1 Sa : Fp} {e : EV} {v : V} (h : EVR K Z H σ e v Sa) (st : Step Z H S1 Z' H' S) (dj : ∀ a, S1 a → Sa a → False) : EVR K Z' H' σ e v Sa := by
  cases e with
  | val d => exact st.stay dj h
  | ref i => exact h
theorem EVR.more {Sa Sb : Fp} {e : EV} {v : V} (h : EVR K Z H σ e v Sa) (m : ∀ a, Sa a → Sb a) : EVR K Z H σ e v Sb := by
  cases e with
  | val d => exact h.move (Same.refl Z) (fun _ _ _ x => x) m
  | ref i => exact h
theorem Step.to {Z' H' : Hp} {S1 S2 : Fp} (st : Step Z H S Z' H' S1) (m : ∀ a, S1 a ↔ S2 a) : Step Z H S Z' H' S2 := st.less fun a x => (m a).mpr x
theorem Wd.nil {Z H : Hp} {S : Fp} (w : Wd Z H S) : Step Z H S Z H (fun a => S a ∨ Fp0 a) := (Step.refl w).less fun a x => x.elim id False.elim
theorem tA_nil {Q : List V → Hp → Prop} (h : tA K mg W aNil σ H Q) : tNil σ H Q := by
  obtain ⟨Z, ρ, S, w, er, o⟩ := h
  exact o [] Z H S Fp0 w.nil (fun _ _ x => x) er trivial
theorem tA_cons {f : M EV} {fs : M (List EV)} {Q : List V → Hp → Prop} (h : tA K mg W (aCons f fs) σ H Q) : tCons (tE K mg W f) (tA K mg W fs) σ H Q := by
  obtain ⟨Z, ρ, S, w, er, o⟩ := h
  refine ⟨Z, ρ, S, w, er, ?_⟩
  simp only [aCons, bnd] at o
  cases e1 : f ρ with
  | stuck => rw [e1] at o; exact o
  | exc x ρ1 => rw [e1] at o; exact o
  | ok ev ρ1 =>
    rw [e1] at o
    intro v Z1 H1 S1 Sa st1 dj1 er1 r1
    refine ⟨Z1, ρ1, S1, st1.wd.less fun a x => .inl x, er1, ?_⟩
    cases e2 : fs ρ1 with
    | stuck => simp only [e2] at o; exact o
    | exc x ρ2 => simp only [e2] at o; exact o.behind st1 dj1
    | ok es ρ2 =>
      simp only [e2, ret] at o
      intro vs Z2 H2 S2 Sb st2 dj2 er2 r2
      have ap := st2.apart (T := Sa) (fun a x => st1.wd.live a (.inr x)) dj1
      refine o (v :: vs) Z2 H2 S2 (fun a => Sa a ∨ Sb a) ((st1.trans (st2.frame st1.wd dj1)).less fun a x => ?_) (fun a x y => y.elim (ap a (.inl x)) (dj2 a x)) er2 ?_
      · rcases x with x | x | x
        · exact .inl (.inl x)
        · exact .inr x
        · exact .inl (.inr x)
      · exact ⟨Sa, Sb, fun a x => .inl x, fun a x => .inr x, fun a x y => ap a (.inr y) x, r1.stay st2 dj1, r2⟩
theorem pa_n {X : Cx} : PA X [] (tA X.K X.mg W aNil) := PA.of pa_nil fun _ _ _ => tA_nil
theorem pa_c {X : Cx} {e : Expr} {es : List Expr} {f : M EV} {fs : M (List EV)} (h : PE X e (tE X.K X.mg W f)) (hs : PA X es (tA X.K X.mg W fs)) (st : starEach (e :: es) X.env = (false, eval e X.env) :: starEach es X.env) :
    PA X (e :: es) (tA X.K X.mg W (aCons f fs)) := PA.of (pa_cons h hs st) fun _ _ _ => tA_cons
/-! ### what is seen -/
theorem peek1_rep {ρ : Env} {e : EV} {v : V} {d : D} {Sa : Fp} (er : EnvR K Z H ρ σ S) (r : EVR K Z H σ e v Sa) (p : peek1 ρ e = some d) : Rep K Z H d v (fun a => S a ∨ Sa a) := by
  cases e with
  | val d' =>
    simp only [peek1, Option.some.injEq] at p
    subst p
    exact Rep.move r (Same.refl Z) (fun _ _ _ x => x) fun a x => .inr x
  | ref i =>
    have q : ρ[i]? = some (some d) := by
      simp only [peek1, List.getD_eq_getElem?_getD] at p
      cases h : ρ[i]? with
      | none => rw [h] at p; cases p
      | some o => rw [h] at p; simpa using p
    obtain ⟨u, S1, S2, hu, s1, s2, dj, ru, _⟩ := er.take q
    have e : v = u := by
      have r' : σ[i]? = some (some v) := r
      rw [hu] at r'
      simpa using r'.symm
    subst e
    exact ru.move (Same.refl Z) (fun _ _ _ x => x) fun a x => .inl (s1 a x)
/-- data borne one by one, all within S -/
def RepB (K : PySem.W.Frag) (Z H : Hp) (S : Fp) : List D → List V → Prop
  | [], [] => True
  | d :: ds, v :: vs => Rep K Z H d v S ∧ RepB K Z H S ds vs
  | _, _ => False
theorem RepB.more {S' : Fp} (m : ∀ a, S a → S' a) : ∀ {ds : List D} {vs : List V}, RepB K Z H S ds vs → RepB K Z H S' ds vs
  | [], [], _ => trivial
  | [], _ :: _, h => h.elim
  | _ :: _, [], h => h.elim
  | _ :: _, _ :: _, h => ⟨h.1.move (Same.refl Z) (fun _ _ _ x => x) m, RepB.more m h.2⟩
theorem peeks_rep {ρ : Env} (er : EnvR K Z H ρ σ S) : ∀ {es : List EV} {vs : List V} {ds : List D} {Sa : Fp}, EVsR K Z H σ es vs Sa → peeks ρ es = some ds → RepB K Z H (fun a => S a ∨ Sa a) ds vs
  | [], [], ds, _, _, p => by
    simp only [peeks, Option.some.injEq] at p
    subst p
    trivial
  | [], _ :: _, _, _, h, _ => h.elim
  | _ :: _, [], _, _, h, _ => h.elim
  | e :: es, v :: vs, ds, Sa, h, p => by
    obtain ⟨S1, S2, s1, s2, dj, r, q⟩ := h
    simp only [peeks] at p
    split at p
    · rename_i d ds' h1 h2
      simp only [Option.some.injEq] at p
      subst p
      refine ⟨(peek1_rep er r h1).move (Same.refl Z) (fun _ _ _ x => x) fun a x => x.elim .inl fun y => .inr (s1 a y), ?_⟩
      exact (peeks_rep er q h2).more fun a x => x.elim .inl fun y => .inr (s2 a y)
    · cases p
/-- an operation upon values and the function of data that it is -/
def Snd (X : Cx) (r : List V → Hp → VK → Prop) (g : List D → Option D) : Prop :=
  ∀ (Z H : Hp) (S : Fp) (ds : List D) (vs : List V) (d : D) (Q : VK), Wd Z H S → RepB X.K Z H S ds vs → g ds = some d →
    (∀ v Z' H' Sd, Step Z H S Z' H' (fun a => S a ∨ Sd a) → Same H H' → (∀ a, S a → Sd a → False) → Rep X.K Z' H' d v Sd → Q v H') → r vs H Q
def app (g : List D → Option D) (fs : M (List EV)) : M EV := bnd fs fun es => fun ρ => match peeks ρ es with
  | some ds => match g ds with
    | some d => .ok (.val d) ρ
    | none => .stuck
  | none => .stuck
theorem tE_app {X : Cx} {r : List V → Hp → VK → Prop} {g : List D → Option D} {fs : M (List EV)} {Q : VK} (hs : Snd X r g) (h : tE X.K X.mg W (app g fs) σ H Q) : tA X.K X.mg W fs σ H fun vs H1 => r vs H1 Q := by
  obtain ⟨Z, ρ, S, w, er, o⟩ := h
  refine ⟨Z, ρ, S, w, er, ?_⟩
  simp only [app, bnd] at o
  cases e1 : fs ρ with
  | stuck => rw [e1] at o; exact o
  | exc x ρ1 => rw [e1] at o; exact o
  | ok es ρ1 =>
    simp only [e1] at o
    intro vs Z1 H1 S1 Sa st1 dj1 er1 r1
    cases e2 : peeks ρ1 es with
    | none => simp only [e2] at o; exact o.elim
    | some ds =>
      cases e3 : g ds with
      | none => simp only [e2, e3] at o; exact o.elim
      | some d =>
        simp only [e2, e3] at o
        refine hs Z1 H1 _ ds vs d Q st1.wd (peeks_rep er1 r1 e2) e3 fun v Z2 H2 Sd st2 sm dj2 rd => ?_
        exact o v Z2 H2 S1 Sd ((st1.trans st2).less fun a x => x.elim (fun y => .inl (.inl y)) .inr) (fun a x y => dj2 a (.inl x) y) (er1.move st2.zz (fun a ob _ e => sm a ob e) fun _ x => x) rd
/-! ### names, constants -/
def loc (i : Nat) : M EV := fun ρ => match ρ.getD i none with
  | some _ => .ok (.ref i) ρ
  | none => .stuck
def con (d : D) : M EV := ret (.val d)
theorem getD_some {ρ : Env} {i : Nat} {d : D} (h : ρ.getD i none = some d) : ρ[i]? = some (some d) := by
  rw [List.getD_eq_getElem?_getD] at h
  cases e : ρ[i]? with
  | none => rw [e] at h; cases h
  | some o => rw [e] at h; simpa using h
theorem tE_loc {i : Nat} {Q : VK} (h : tE K mg W (loc i) σ H Q) : tVar i σ H Q := by
  obtain ⟨Z, ρ, S, w, er, o⟩ := h
  simp only [loc] at o
  cases e : ρ.getD i none with
  | none => simp only [e] at o; exact o.elim
  | some d =>
    simp only [e] at o
    obtain ⟨v, S1, S2, hv, _⟩ := er.take (getD_some e)
    exact ⟨v, hv, o v Z H S Fp0 w.nil (fun _ _ x => x) er hv⟩
theorem pe_loc {X : Cx} {i : Nat} {x : Str} {pos : Pos} (hN : X.N[i]? = some x) (hv : Vis X.env.scope x) (hd : (x == ("__debug__" : Str)) = false) (hcd : (x == ("__classdict__" : Str)) = false) : PE X (.Name x pos) (tE X.K X.mg W (loc i)) :=
  PE.of (pe_var hN hv hd hcd) fun _ _ _ => tE_loc
theorem tE_con {d : D} {v : V} {Q : VK} (r : ∀ Z H : Hp, Rep K Z H d v Fp0) (h : tE K mg W (con d) σ H Q) : tC v σ H Q := by
  obtain ⟨Z, ρ, S, w, er, o⟩ := h
  exact o v Z H S Fp0 w.nil (fun _ _ x => x) er (r Z H)
/-! ### for keeps -/
theorem use1_ok {ρ ρ' : Env} {e : EV} {v : V} {d : D} {Sa T : Fp} (w : Wd Z H (fun a => (S a ∨ Sa a) ∨ T a)) (dj : ∀ a, S a → Sa a → False) (djT : ∀ a, S a ∨ Sa a → T a → False) (er : EnvR K Z H ρ σ S) (r : EVR K Z H σ e v Sa) (u : use1 e ρ = .ok d ρ') :
    ∃ Z' S', Step Z H (fun a => (S a ∨ Sa a) ∨ T a) Z' H (fun a => (S' a ∨ Sa a) ∨ T a) ∧ (∀ a, S' a → S a) ∧ EnvR K Z' H ρ' σ S' ∧ Rep K Z' H d v Sa := by
  cases e with
  | val d' =>
    simp only [use1, Res.ok.injEq] at u
    obtain ⟨rfl, rfl⟩ := u
    exact ⟨Z, S, Step.refl w, fun _ x => x, er, r⟩
  | ref i =>
    simp only [use1] at u
    cases e : ρ.getD i none with
    | none => rw [e] at u; cases u
    | some d0 =>
      rw [e] at u
      simp only [Res.ok.injEq] at u
      obtain ⟨rfl, rfl⟩ := u
      obtain ⟨v0, S1, S2, hv, s1, s2, dj2, r0, er0⟩ := er.take (getD_some e)
      have ev : v0 = v := by
        have r' : σ[i]? = some (some v) := r
        rw [hv] at r'
        simpa using r'
      subst ev
      have stp : Step Z H (fun a => (S a ∨ Sa a) ∨ T a) (thaw Z H S1) H (fun a => (S2 a ∨ Sa a) ∨ T a) := Step.freeze w (fun a x => .inl (.inl (s1 a x))) (fun a x => x.elim (fun y => .inl (y.elim (fun z => .inl (s2 a z)) .inr)) .inr) fun a x y => x.elim (fun z => z.elim (fun t => dj2 a y t) (fun t => dj a (s1 a y) t)) fun t => djT a (.inl (s1 a y)) t
      have rf : Rep K (thaw Z H S1) H d0.frz v0 Fp0 := Rep.frz r0 (fun a x => w.sep a (.inl (.inl (s1 a x)))) fun _ x => x
      refine ⟨thaw Z H S1, S2, stp, s2, ?_, rf.move (Same.refl _) (fun _ _ _ x => x) fun _ x => x.elim⟩
      have hi : i < ρ.length := (List.getElem?_eq_some_iff.mp (getD_some e)).1
      have q := EnvR.put (S := S2) (S1 := Fp0) (v := v0) (er0.move stp.zz (fun _ _ _ x => x) fun _ x => x) hi rf (fun _ x => x.elim) (fun _ x => x) (fun _ x _ => x)
      have es : σ.set i (some v0) = σ := by
        obtain ⟨hl, e1⟩ := List.getElem?_eq_some_iff.mp hv
        rw [← e1, List.set_getElem_self]
      rw [es] at q
      exact q
theorem EVsR.more : ∀ {es : List EV} {vs : List V} {B C : Fp}, EVsR K Z H σ es vs B → (∀ a, B a → C a) → EVsR K Z H σ es vs C
  | [], [], _, _, _, _ => trivial
  | [], _ :: _, _, _, h, _ => h.elim
  | _ :: _, [], _, _, h, _ => h.elim
  | _ :: _, _ :: _, _, _, ⟨B1, B2, b1, b2, bj, r, q⟩, m => ⟨B1, B2, fun a x => m a (b1 a x), fun a x => m a (b2 a x), bj, r, q⟩
theorem useL_ok : ∀ {es : List EV} {vs : List V} {ds : List D} {ρ ρ' : Env} {Z : Hp} {S Sa T : Fp}, Wd Z H (fun a => (S a ∨ Sa a) ∨ T a) → (∀ a, S a → Sa a → False) → (∀ a, S a ∨ Sa a → T a → False) → EnvR K Z H ρ σ S → EVsR K Z H σ es vs Sa → useL es ρ = .ok ds ρ' →
    ∃ Z' S', Step Z H (fun a => (S a ∨ Sa a) ∨ T a) Z' H (fun a => (S' a ∨ Sa a) ∨ T a) ∧ (∀ a, S' a → S a) ∧ EnvR K Z' H ρ' σ S' ∧ RepL K Z' H ds vs Sa
  | [], [], ds, ρ, ρ', Z, S, Sa, T, w, _, _, er, _, u => by
    simp only [useL, ret, Res.ok.injEq] at u
    obtain ⟨rfl, rfl⟩ := u
    exact ⟨Z, S, Step.refl w, fun _ x => x, er, trivial⟩
  | [], _ :: _, _, _, _, _, _, _, _, _, _, _, _, h, _ => h.elim
  | _ :: _, [], _, _, _, _, _, _, _, _, _, _, _, h, _ => h.elim
  | e :: es, v :: vs, ds, ρ, ρ', Z, S, Sa, T, w, dj, djT, er, h, u => by
    obtain ⟨A1, A0, a1, a0, aj0, r, q0⟩ := h
    obtain ⟨A2, hA2⟩ : ∃ A2 : Fp, A2 = fun a => Sa a ∧ ¬ A1 a := ⟨_, rfl⟩
    have q : EVsR K Z H σ es vs A2 := q0.more fun a x => by rw [hA2]; exact ⟨a0 a x, fun y => aj0 a y x⟩
    have a2 : ∀ a, A2 a → Sa a := fun a x => by rw [hA2] at x; exact x.1
    have aj : ∀ a, A1 a → A2 a → False := fun a x y => by rw [hA2] at y; exact y.2 x
    have a12 : ∀ a, Sa a → A1 a ∨ A2 a := fun a x => by
      by_cases h : A1 a
      · exact .inl h
      · exact .inr (by rw [hA2]; exact ⟨x, h⟩)
    simp only [useL, bnd] at u
    cases u1 : use1 e ρ with
    | stuck => rw [u1] at u; cases u
    | exc x ρ1 => rw [u1] at u; cases u
    | ok d ρ1 =>
      simp only [u1] at u
      cases u2 : useL es ρ1 with
      | stuck => rw [u2] at u; cases u
      | exc x ρ2 => rw [u2] at u; cases u
      | ok ds' ρ2 =>
        simp only [u2, ret, Res.ok.injEq] at u
        obtain ⟨rfl, rfl⟩ := u
        have w1 : Wd Z H (fun a => (S a ∨ A1 a) ∨ (A2 a ∨ T a)) := w.less fun a x => x.elim (fun y => .inl (y.elim .inl fun z => .inr (a1 a z))) fun y => y.elim (fun z => .inl (.inr (a2 a z))) .inr
        obtain ⟨Z1, S1, st1, m1, er1, r1⟩ := use1_ok w1 (fun a x y => dj a x (a1 a y)) (fun a x y => y.elim (fun z => x.elim (fun t => dj a t (a2 a z)) fun t => aj a t z) fun z => djT a (x.elim .inl fun t => .inr (a1 a t)) z) er r u1
        have w2 : Wd Z1 H (fun a => (S1 a ∨ A2 a) ∨ (A1 a ∨ T a)) := st1.wd.less fun a x => x.elim (fun y => y.elim (fun z => .inl (.inl z)) fun z => .inr (.inl z)) fun y => y.elim (fun z => .inl (.inr z)) fun z => .inr (.inr z)
        have q1 : EVsR K Z1 H σ es vs A2 := by
          have stay : ∀ {es : List EV} {vs : List V} {B : Fp}, EVsR K Z H σ es vs B → EVsR K Z1 H σ es vs B := by
            intro es
            induction es with
            | nil => intro vs B h; cases vs with
              | nil => trivial
              | cons => exact h.elim
            | cons e es ih => intro vs B h; cases vs with
              | nil => exact h.elim
              | cons v vs =>
                obtain ⟨B1, B2, b1, b2, bj, r, q⟩ := h
                refine ⟨B1, B2, b1, b2, bj, ?_, ih q⟩
                cases e with
                | val d => exact Rep.move r st1.zz (fun _ _ _ x => x) fun _ x => x
                | ref i => exact r
          exact stay q
        obtain ⟨Z2, S2, st2, m2, er2, r2⟩ := useL_ok w2 (fun a x y => dj a (m1 a x) (a2 a y)) (fun a x y => y.elim (fun z => x.elim (fun t => dj a (m1 a t) (a1 a z)) fun t => aj a z t) fun z => djT a (x.elim (fun t => .inl (m1 a t)) fun t => .inr (a2 a t)) z) er1 q1 u2
        refine ⟨Z2, S2, ?_, fun a x => m1 a (m2 a x), er2, A1, A2, a1, a2, aj, r1.move st2.zz (fun _ _ _ x => x) fun _ x => x, r2⟩
        have st1' : Step Z H (fun a => (S a ∨ Sa a) ∨ T a) Z1 H (fun a => (S1 a ∨ A2 a) ∨ (A1 a ∨ T a)) := by
          have sub : ∀ a, ((S a ∨ A1 a) ∨ A2 a ∨ T a) → ((S a ∨ Sa a) ∨ T a) := fun a x => x.elim (fun y => .inl (y.elim .inl fun z => .inr (a1 a z))) fun y => y.elim (fun z => .inl (.inr (a2 a z))) .inr
          refine ⟨w2, st1.zz, fun a o n e => st1.fr a o (fun x => n (sub a x)) e, fun a x => (st1.new a ?_).elim (fun y => .inl ?_) .inr, fun a o e => (st1.znew a o e).elim .inl fun y => .inr (y.elim (fun z => .inl ?_) .inr)⟩
          · exact x.elim (fun y => y.elim (fun z => .inl (.inl z)) fun z => .inr (.inl z)) fun y => y.elim (fun z => .inl (.inr z)) fun z => .inr (.inr z)
          · exact y.elim (fun y => .inl (y.elim .inl fun z => .inr (a1 a z))) fun y => y.elim (fun z => .inl (.inr (a2 a z))) .inr
          · exact z.elim (fun y => .inl (y.elim .inl fun z => .inr (a1 a z))) fun y => y.elim (fun z => .inl (.inr (a2 a z))) .inr
        exact (st1'.trans st2).less fun a x => x.elim (fun y => y.elim (fun z => .inl (.inl z)) fun z => (a12 a z).elim (fun t => .inr (.inl t)) fun t => .inl (.inr t)) fun z => .inr (.inr z)
end
end Pm
/-! PmC: displays, tests, statements. -/
namespace Pm
open PySem PySem.Spec PyProof.Rows L2
section
variable {K : PySem.W.Frag} {mg : Str → Option Value} {W : WX} {Z H : Hp} {S : Fp} {σ : Sl} {X : Cx} {A : Nat → Bool}
/-- lists and tuples have at most so many items -/
abbrev cap : Nat := 1000000
theorem cap_le {n : Nat} (h : n ≤ cap) : n ≤ sizeLine := Nat.le_trans h (by rw [sizeLine_eq]; decide)
theorem cap_lt {n : Nat} (h : n ≤ cap) : n < sizeLine := Nat.lt_of_le_of_lt h (by rw [sizeLine_eq]; decide)
def cellOf (vs : List V) : Kd → HO
  | .tup => .tup vs
  | _ => .lst vs
/-- a display -/
def disp (o : Bool) (k : Kd) (fs : M (List EV)) : M EV := bnd fs fun es => bnd (useL es) fun ds => fun ρ => if ds.length ≤ cap then .ok (.val (.node o k ds)) ρ else .stuck
theorem disp_of {o : Bool} {k : Kd} {fs : M (List EV)} {Q : VK} (h : tE K mg W (disp o k fs) σ H Q)
    (f : ∀ (vs : List V) (Z1 H1 : Hp) (S1 Sd : Fp) (ds : List D), Wd Z1 H1 (fun a => S1 a ∨ Sd a) → (∀ a, S1 a → Sd a → False) → RepL K Z1 H1 ds vs Sd → ds.length ≤ cap → ∀ p, H1 p = none →
      ∃ Z2 H2 Sp, Step Z1 H1 (fun a => S1 a ∨ Sd a) Z2 H2 (fun a => S1 a ∨ Sp a) ∧ (∀ a, S1 a → Sp a → False) ∧ (∀ a o, H1 a = some o → H2 a = some o) ∧ Rep K Z2 H2 (.node o k ds) (.ref p) Sp ∧ H2 = upd H1 p (cellOf vs k)) :
    tA K mg W fs σ H fun vs H1 => vs.length ≤ sizeLine ∧ ∀ p, H1 p = none → Q (.ref p) (upd H1 p (cellOf vs k)) := by
  obtain ⟨Z, ρ, S, w, er, o⟩ := h
  refine ⟨Z, ρ, S, w, er, ?_⟩
  simp only [disp, bnd] at o
  cases e1 : fs ρ with
  | stuck => rw [e1] at o; exact o
  | exc x ρ1 => rw [e1] at o; exact o
  | ok es ρ1 =>
    simp only [e1] at o
    intro vs Z1 H1 S1 Sa st1 dj1 er1 r1
    cases e2 : useL es ρ1 with
    | stuck => rw [e2] at o; exact o.elim
    | exc x ρ2 =>
      exfalso
      have no : ∀ (es : List EV) (ρ ρ2 : Env) (x : XD), useL es ρ ≠ .exc x ρ2 := by
        intro es
        induction es with
        | nil => intro ρ ρ2 x q; cases q
        | cons e es ih =>
          intro ρ ρ2 x q
          simp only [useL, bnd] at q
          cases u1 : use1 e ρ with
          | stuck => rw [u1] at q; cases q
          | exc y ρ3 =>
            cases e with
            | val d => simp only [use1] at u1; cases u1
            | ref i =>
              simp only [use1] at u1
              split at u1 <;> cases u1
          | ok d ρ3 =>
            simp only [u1] at q
            cases u2 : useL es ρ3 with
            | stuck => rw [u2] at q; cases q
            | exc y ρ4 => exact ih _ _ _ u2
            | ok ds ρ4 => simp only [u2, ret] at q; cases q
      exact no _ _ _ _ e2
    | ok ds ρ2 =>
      simp only [e2] at o
      by_cases hl : ds.length ≤ cap
      · rw [if_pos hl] at o
        have w1 : Wd Z1 H1 (fun a => (S1 a ∨ Sa a) ∨ Fp0 a) := st1.wd.less fun a x => x.elim id False.elim
        obtain ⟨Z2, S2, st2, m2, er2, r2⟩ := useL_ok w1 dj1 (fun _ _ x => x) er1 r1 e2
        have len := r2.length
        refine ⟨by rw [← len]; exact cap_le hl, fun p hp => ?_⟩
        have w2 : Wd Z2 H1 (fun a => S2 a ∨ Sa a) := st2.wd.less fun a x => .inl x
        obtain ⟨Z3, H3, Sp, st3, dj3, k3, r3, e3⟩ := f vs Z2 H1 S2 Sa ds w2 (fun a x y => dj1 a (m2 a x) y) r2 hl p hp
        rw [← e3]
        refine o (.ref p) Z3 H3 S2 Sp ?_ dj3 (er2.move st3.zz (fun a ob _ e => k3 a ob e) fun _ x => x) r3
        have st2' : Step Z1 H1 (fun a => S1 a ∨ Sa a) Z2 H1 (fun a => S2 a ∨ Sa a) := ⟨w2, st2.zz, fun a o n e _ => e, fun a x => .inl (x.elim (fun y => .inl (m2 a y)) .inr), fun a o e => (st2.znew a o e).elim .inl fun y => .inr (y.elim (fun z => z.elim .inl False.elim) .inr)⟩
        exact (st1.trans st2').trans st3
      · rw [if_neg hl] at o
        exact o.elim
theorem pe_T {es : List Expr} {fs : M (List EV)} {x1 : Nat} {pos : Pos} (h : PA X es (tA X.K X.mg W fs)) : PE X (.Tuple es x1 pos) (tE X.K X.mg W (disp false .tup fs)) :=
  PE.of (pe_tup h) fun σ H Q q => disp_of q fun vs Z1 H1 S1 Sd ds w dj r hl p hp =>
    ⟨upd Z1 p (.tup vs), upd H1 p (.tup vs), Sd, Step.allocZ w hp, dj, fun a o e => by rw [upd_ne (ne_of_none e hp)]; exact e,
      ⟨p, vs, rfl, SqT.of upd_same, r.move (Step.allocZ (o := .tup vs) w hp).zz (fun a o _ e => by rw [upd_ne (ne_of_none e hp)]; exact e) fun _ x => x⟩, rfl⟩
theorem pe_L {es : List Expr} {fs : M (List EV)} {pos : Pos} (h : PA X es (tA X.K X.mg W fs)) : PE X (.List es pos) (tE X.K X.mg W (disp true .lst fs)) :=
  PE.of (pe_lst h) fun σ H Q q => disp_of q fun vs Z1 H1 S1 Sd ds w dj r hl p hp =>
    ⟨Z1, upd H1 p (.lst vs), fun a => Sd a ∨ a = p, (Step.alloc w hp).less fun a x => x.elim (fun y => .inl (.inl y)) fun y => y.elim (fun z => .inl (.inr z)) .inr,
      fun a x y => y.elim (dj a x) fun z => w.dom a (.inl x) (by rw [z]; exact hp), fun a o e => by rw [upd_ne (ne_of_none e hp)]; exact e,
      ⟨p, vs, Sd, rfl, upd_same, .inr rfl, fun x => w.dom p (.inr x) hp, fun a x => .inl x, r.move (Same.refl Z1) (fun a o _ e => by rw [upd_ne (ne_of_none e hp)]; exact e) fun _ x => x⟩, rfl⟩
/-! ### tests -/
def tst (f : M EV) : M Bool := bnd f fun e => fun ρ => match peek1 ρ e with
  | some (.bl b) => .ok b ρ
  | _ => .stuck
theorem tT_tst {f : M EV} {Q : Bool → Hp → Prop} (h : tT K mg W (tst f) σ H Q) : tE K mg W f σ H fun x H1 => ∃ c, x = .bl c ∧ Q c H1 := by
  obtain ⟨Z, ρ, S, w, er, o⟩ := h
  refine ⟨Z, ρ, S, w, er, ?_⟩
  simp only [tst, bnd] at o
  cases e1 : f ρ with
  | stuck => rw [e1] at o; exact o
  | exc x ρ1 => rw [e1] at o; exact o
  | ok ev ρ1 =>
    simp only [e1] at o
    intro v Z1 H1 S1 Sa st1 dj1 er1 r1
    split at o
    · rename_i b hb
      have r := peek1_rep er1 r1 hb
      exact ⟨b, r, o Z1 H1 S1 (st1.less fun a x => .inl x) er1⟩
    · exact o.elim
theorem pt_v {e : Expr} {f : M EV} (h : PE X e (tE X.K X.mg W f)) (he : ∀ whole, isTrue e X.env whole = (do let v ← whole; standAt e.pos; holding [v] (truthy v))) : PT X e (tT X.K X.mg W (tst f)) :=
  PT.of (pt_val h he) fun _ _ _ q => tT_tst q
def andT (a b : M Bool) : M Bool := bnd a fun c => if c = true then b else ret false
def orT (a b : M Bool) : M Bool := bnd a fun c => if c = true then ret true else b
def notT (a : M Bool) : M Bool := bnd a fun c => ret (!c)
theorem tT_bnd {α : Type} {a : M Bool} {k : Bool → M α} {R : Env → Prop} {Q : Bool → Hp → Prop} {ρ : Env} (w : Wd Z H S) (er : EnvR K Z H ρ σ S)
    (hx : ∀ x ρ1, a ρ = .exc x ρ1 → XOut K mg W Z H S σ x ρ1) (hs : a ρ ≠ .stuck)
    (hk : ∀ c ρ1 Z1 H1 S1, a ρ = .ok c ρ1 → Step Z H S Z1 H1 S1 → EnvR K Z1 H1 ρ1 σ S1 → Q c H1) : tT K mg W a σ H Q := by
  refine ⟨Z, ρ, S, w, er, ?_⟩
  cases e : a ρ with
  | stuck => exact absurd e hs
  | exc x ρ1 => exact hx x ρ1 e
  | ok c ρ1 => exact fun Z1 H1 S1 st er1 => hk c ρ1 Z1 H1 S1 e st er1
theorem XOut.after {Z1 H1 : Hp} {S1 : Fp} {x : XD} {ρ' : Env} (st : Step Z H S Z1 H1 S1) (h : XOut K mg W Z H S σ x ρ') : XOut K mg W Z1 H1 S1 σ x ρ' := fun cls dd Z' H' S' st' er xr => h cls dd Z' H' S' (st.trans st') er xr
theorem OutT.after {Z1 H1 : Hp} {S1 : Fp} {r : Res Bool} {Q : Bool → Hp → Prop} (st : Step Z H S Z1 H1 S1) (h : OutT K mg W Z H S σ Q r) : OutT K mg W Z1 H1 S1 σ Q r := by
  cases r with
  | stuck => exact h
  | exc x ρ => exact XOut.after st h
  | ok b ρ => exact fun Z' H' S' st' er => h Z' H' S' (st.trans st') er
theorem OutE.after {Z1 H1 : Hp} {S1 : Fp} {r : Res EV} {Q : VK} (st : Step Z H S Z1 H1 S1) (h : OutE K mg W Z H S σ Q r) : OutE K mg W Z1 H1 S1 σ Q r := by
  cases r with
  | stuck => exact h
  | exc x ρ => exact XOut.after st h
  | ok b ρ => exact fun v Z' H' S' Sd st' dj er r => h v Z' H' S' Sd (st.trans st') dj er r
theorem OutS.next {Z1 H1 : Hp} {S1 : Fp} {r : Res Fl} {D : Ends} {σ1 : Sl} (kp : Keep A σ σ1) (st : Step Z H S Z1 H1 S1) (h : OutS K mg W A σ Z H S D r) : OutS K mg W A σ1 Z1 H1 S1 D r := by
  cases r with
  | stuck => exact h
  | exc x ρ => exact fun σ' k => XOut.after st (h σ' (kp.trans k))
  | ok b ρ => exact fun σ' v Z' H' S' Sd k st' dj er r => h σ' v Z' H' S' Sd (kp.trans k) (st.trans st') dj er r
theorem OutS.after {Z1 H1 : Hp} {S1 : Fp} {r : Res Fl} {D : Ends} (st : Step Z H S Z1 H1 S1) (h : OutS K mg W A σ Z H S D r) : OutS K mg W A σ Z1 H1 S1 D r := h.next (Keep.refl σ) st
theorem tT_and {a b : M Bool} {Q : Bool → Hp → Prop} (h : tT K mg W (andT a b) σ H Q) : tAnd (tT K mg W a) (tT K mg W b) σ H Q := by
  obtain ⟨Z, ρ, S, w, er, o⟩ := h
  simp only [andT, bnd] at o
  refine tT_bnd (k := fun _ => a) (R := fun _ => True) w er (fun x ρ1 e => by rw [e] at o; exact o) (fun e => by rw [e] at o; exact o) fun c ρ1 Z1 H1 S1 e st er1 => ?_
  simp only [e] at o
  cases c with
  | true => exact ⟨Z1, ρ1, S1, st.wd, er1, by simpa using OutT.after st o⟩
  | false => exact OutT.after (r := .ok false ρ1) st (by simpa [ret] using o) Z1 H1 S1 (Step.refl st.wd) er1
theorem tT_or {a b : M Bool} {Q : Bool → Hp → Prop} (h : tT K mg W (orT a b) σ H Q) : tOr (tT K mg W a) (tT K mg W b) σ H Q := by
  obtain ⟨Z, ρ, S, w, er, o⟩ := h
  simp only [orT, bnd] at o
  refine tT_bnd (k := fun _ => a) (R := fun _ => True) w er (fun x ρ1 e => by rw [e] at o; exact o) (fun e => by rw [e] at o; exact o) fun c ρ1 Z1 H1 S1 e st er1 => ?_
  simp only [e] at o
  cases c with
  | false => exact ⟨Z1, ρ1, S1, st.wd, er1, by simpa using OutT.after st o⟩
  | true => exact OutT.after (r := .ok true ρ1) st (by simpa [ret] using o) Z1 H1 S1 (Step.refl st.wd) er1
theorem tT_not {a : M Bool} {Q : Bool → Hp → Prop} (h : tT K mg W (notT a) σ H Q) : tNot (tT K mg W a) σ H Q := by
  obtain ⟨Z, ρ, S, w, er, o⟩ := h
  simp only [notT, bnd] at o
  refine tT_bnd (k := fun _ => a) (R := fun _ => True) w er (fun x ρ1 e => by rw [e] at o; exact o) (fun e => by rw [e] at o; exact o) fun c ρ1 Z1 H1 S1 e st er1 => ?_
  simp only [e, ret] at o
  exact o Z1 H1 S1 st er1
/-- a test as a value -/
def bV (a : M Bool) : M EV := bnd a fun c => ret (.val (.bl c))
/-- and, or with bools ahead: values -/
def andE (a b : M EV) : M EV := bnd (tst a) fun c => if c = true then b else ret (.val (.bl false))
def orE (a b : M EV) : M EV := bnd (tst a) fun c => if c = true then ret (.val (.bl true)) else b
def notE (a : M EV) : M EV := bnd (tst a) fun c => ret (.val (.bl (!c)))
def ifE (c : M Bool) (a b : M EV) : M EV := bnd c fun t => if t = true then a else b
theorem tst_bnd {f : M EV} {R : V → Hp → Prop} {ρ : Env} (w : Wd Z H S) (er : EnvR K Z H ρ σ S)
    (hx : ∀ x ρ1, tst f ρ = .exc x ρ1 → XOut K mg W Z H S σ x ρ1) (hs : tst f ρ ≠ .stuck)
    (hk : ∀ c ρ1 Z1 H1 S1, tst f ρ = .ok c ρ1 → Step Z H S Z1 H1 S1 → EnvR K Z1 H1 ρ1 σ S1 → R (.bl c) H1) : tE K mg W f σ H R := by
  refine ⟨Z, ρ, S, w, er, ?_⟩
  simp only [tst, bnd] at hx hs hk
  cases e : f ρ with
  | stuck => simp only [e] at hs; exact absurd rfl hs
  | exc x ρ1 => simp only [e] at hx; exact hx x ρ1 rfl
  | ok ev ρ1 =>
    intro v Z1 H1 S1 Sa st dj er1 r1
    simp only [e] at hs hk
    split at hs
    · rename_i b hb
      simp only [hb] at hk
      have r : v = .bl b := peek1_rep er1 r1 hb
      subst r
      exact hk b ρ1 Z1 H1 S1 rfl (st.less fun a x => .inl x) er1
    · exact absurd rfl hs
theorem tE_and {a b : M EV} {Q : VK} (h : tE K mg W (andE a b) σ H Q) : tAndV (tE K mg W a) (tE K mg W b) σ H Q := by
  obtain ⟨Z, ρ, S, w, er, o⟩ := h
  simp only [andE, bnd] at o
  refine tst_bnd w er (fun x ρ1 e => by rw [e] at o; exact o) (fun e => by rw [e] at o; exact o) fun c ρ1 Z1 H1 S1 e st er1 => ?_
  simp only [e] at o
  refine ⟨c, rfl, ?_⟩
  cases c with
  | true => exact ⟨Z1, ρ1, S1, st.wd, er1, by simpa using OutE.after st o⟩
  | false => exact OutE.after (r := .ok (.val (.bl false)) ρ1) st (by simpa [ret] using o) (.bl false) Z1 H1 S1 Fp0 st.wd.nil (fun _ _ x => x) er1 rfl
theorem tE_or {a b : M EV} {Q : VK} (h : tE K mg W (orE a b) σ H Q) : tOrV (tE K mg W a) (tE K mg W b) σ H Q := by
  obtain ⟨Z, ρ, S, w, er, o⟩ := h
  simp only [orE, bnd] at o
  refine tst_bnd w er (fun x ρ1 e => by rw [e] at o; exact o) (fun e => by rw [e] at o; exact o) fun c ρ1 Z1 H1 S1 e st er1 => ?_
  simp only [e] at o
  refine ⟨c, rfl, ?_⟩
  cases c with
  | false => exact ⟨Z1, ρ1, S1, st.wd, er1, by simpa using OutE.after st o⟩
  | true => exact OutE.after (r := .ok (.val (.bl true)) ρ1) st (by simpa [ret] using o) (.bl true) Z1 H1 S1 Fp0 st.wd.nil (fun _ _ x => x) er1 rfl
theorem tE_not {a : M EV} {Q : VK} (h : tE K mg W (notE a) σ H Q) : tNotV (tE K mg W a) σ H Q := by
  obtain ⟨Z, ρ, S, w, er, o⟩ := h
  simp only [notE, bnd] at o
  refine tst_bnd w er (fun x ρ1 e => by rw [e] at o; exact o) (fun e => by rw [e] at o; exact o) fun c ρ1 Z1 H1 S1 e st er1 => ?_
  simp only [e, ret] at o
  exact ⟨c, rfl, o (.bl (!c)) Z1 H1 S1 Fp0 (st.trans st.wd.nil) (fun _ _ x => x) er1 rfl⟩
theorem tE_if {c : M Bool} {a b : M EV} {Q : VK} (h : tE K mg W (ifE c a b) σ H Q) : tIf (tT K mg W c) (tE K mg W a) (tE K mg W b) σ H Q := by
  obtain ⟨Z, ρ, S, w, er, o⟩ := h
  simp only [ifE, bnd] at o
  refine tT_bnd (k := fun _ => c) (R := fun _ => True) w er (fun x ρ1 e => by rw [e] at o; exact o) (fun e => by rw [e] at o; exact o) fun t ρ1 Z1 H1 S1 e st er1 => ?_
  simp only [e] at o
  cases t with
  | true => exact ⟨Z1, ρ1, S1, st.wd, er1, by simpa using OutE.after st o⟩
  | false => exact ⟨Z1, ρ1, S1, st.wd, er1, by simpa using OutE.after st o⟩
/-! ### statements -/
def sNx : M Fl := ret .nx
def seq (a b : M Fl) : M Fl := bnd a fun f => match f with
  | .nx => b
  | f => ret f
def ite (c : M Bool) (a b : M Fl) : M Fl := bnd c fun t => if t = true then a else b
def rtn (f : M EV) : M Fl := bnd f fun e => bnd (use1 e) fun d => ret (.rt d)
def drp (f : M EV) : M Fl := bnd f fun _ => ret .nx
theorem tS_nx {D : Ends} (h : tS K mg W A sNx D σ H) : tNext D σ H := by
  obtain ⟨Z, ρ, S, w, er, o⟩ := h
  exact o σ .non Z H S Fp0 (Keep.refl σ) w.nil (fun _ _ x => x) er trivial
theorem tS_seq {a b : M Fl} {D : Ends} (h : tS K mg W A (seq a b) D σ H) : tSeq (tS K mg W A a) (tS K mg W A b) D σ H := by
  obtain ⟨Z, ρ, S, w, er, o⟩ := h
  refine ⟨Z, ρ, S, w, er, ?_⟩
  simp only [seq, bnd] at o
  cases e1 : a ρ with
  | stuck => rw [e1] at o; exact o
  | exc x ρ1 => rw [e1] at o; exact o
  | ok f ρ1 =>
    simp only [e1] at o
    intro σ' v Z1 H1 S1 Sd kp st dj er1 r1
    cases f with
    | nx => exact ⟨Z1, ρ1, S1, st.wd.less fun a x => .inl x, er1, OutS.next kp (st.less fun a x => .inl x) o⟩
    | bk => exact o σ' v Z1 H1 S1 Sd kp st dj er1 r1
    | ct => exact o σ' v Z1 H1 S1 Sd kp st dj er1 r1
    | rt d => exact o σ' v Z1 H1 S1 Sd kp st dj er1 r1
theorem tS_if {c : M Bool} {a b : M Fl} {D : Ends} (h : tS K mg W A (ite c a b) D σ H) : tIfS (tT K mg W c) (tS K mg W A a) (tS K mg W A b) D σ H := by
  obtain ⟨Z, ρ, S, w, er, o⟩ := h
  simp only [ite, bnd] at o
  refine tT_bnd (k := fun _ => c) (R := fun _ => True) w er (fun x ρ1 e => by rw [e] at o; exact o σ (Keep.refl σ)) (fun e => by rw [e] at o; exact o) fun t ρ1 Z1 H1 S1 e st er1 => ?_
  simp only [e] at o
  cases t with
  | true => exact ⟨Z1, ρ1, S1, st.wd, er1, by simpa using OutS.after st o⟩
  | false => exact ⟨Z1, ρ1, S1, st.wd, er1, by simpa using OutS.after st o⟩
theorem use1_noexc {e : EV} {ρ ρ' : Env} {x : XD} : use1 e ρ ≠ .exc x ρ' := by
  cases e with
  | val d => exact fun q => nomatch q
  | ref i =>
    intro q
    simp only [use1] at q
    split at q <;> cases q
/-- an expression's data for keeps, then what follows -/
theorem keep_of {f : M EV} {k : D → M Fl} {D' : Ends} {R : V → Hp → Prop} {ρ : Env} (w : Wd Z H S) (er : EnvR K Z H ρ σ S) (o : OutS K mg W A σ Z H S D' (bnd f (fun e => bnd (use1 e) k) ρ))
    (hk : ∀ v d ρ1 Z1 H1 S1 Sd, Step Z H S Z1 H1 (fun a => S1 a ∨ Sd a) → (∀ a, S1 a → Sd a → False) → EnvR K Z1 H1 ρ1 σ S1 → Rep K Z1 H1 d v Sd → OutS K mg W A σ Z H S D' (k d ρ1) → R v H1) : tE K mg W f σ H R := by
  refine ⟨Z, ρ, S, w, er, ?_⟩
  simp only [bnd] at o
  cases e1 : f ρ with
  | stuck => rw [e1] at o; exact o
  | exc x ρ1 => rw [e1] at o; exact o σ (Keep.refl σ)
  | ok ev ρ1 =>
    simp only [e1] at o
    intro v Z1 H1 S1 Sa st dj er1 r1
    cases e2 : use1 ev ρ1 with
    | stuck => rw [e2] at o; exact o.elim
    | exc x ρ2 => exact absurd e2 use1_noexc
    | ok d ρ2 =>
      simp only [e2] at o
      have w1 : Wd Z1 H1 (fun a => (S1 a ∨ Sa a) ∨ Fp0 a) := st.wd.less fun a x => x.elim id False.elim
      obtain ⟨Z2, S2, st2, m2, er2, r2⟩ := use1_ok w1 dj (fun _ _ x => x) er1 r1 e2
      have st2' : Step Z1 H1 (fun a => S1 a ∨ Sa a) Z2 H1 (fun a => S2 a ∨ Sa a) := ⟨st2.wd.less fun a x => .inl x, st2.zz, fun a o n e _ => e, fun a x => .inl (x.elim (fun y => .inl (m2 a y)) .inr), fun a o e => (st2.znew a o e).elim .inl fun y => .inr (y.elim (fun z => z.elim .inl False.elim) .inr)⟩
      exact hk v d ρ2 Z2 H1 S2 Sa (st.trans st2') (fun a x y => dj a (m2 a x) y) er2 r2 o
theorem tS_rtn {f : M EV} {D : Ends} (h : tS K mg W A (rtn f) D σ H) : tRet (tE K mg W f) D σ H := by
  obtain ⟨Z, ρ, S, w, er, o⟩ := h
  exact keep_of w er o fun v d ρ1 Z1 H1 S1 Sd st dj er1 r1 o1 => o1 σ v Z1 H1 S1 Sd (Keep.refl σ) st dj er1 r1
theorem tS_drp {f : M EV} {D : Ends} (h : tS K mg W A (drp f) D σ H) : tDrop (tE K mg W f) D σ H := by
  obtain ⟨Z, ρ, S, w, er, o⟩ := h
  refine ⟨Z, ρ, S, w, er, ?_⟩
  simp only [drp, bnd] at o
  cases e1 : f ρ with
  | stuck => rw [e1] at o; exact o
  | exc x ρ1 => rw [e1] at o; exact o σ (Keep.refl σ)
  | ok ev ρ1 =>
    simp only [e1, ret] at o
    exact fun v Z1 H1 S1 Sa st dj er1 r1 => o σ .non Z1 H1 S1 Fp0 (Keep.refl σ) (st.less fun a x => x.elim .inl False.elim) (fun _ _ x => x) er1 trivial
/-- a local name is returned: it is the def's own -/
def mov (i : Nat) : M EV := fun ρ => match ρ.getD i none with
  | some d => .ok (.val d) (ρ.set i none)
  | none => .stuck
theorem tE_mov {i : Nat} {Q : VK} (h : tE K mg W (mov i) σ H Q) : tVar i σ H Q := by
  obtain ⟨Z, ρ, S, w, er, o⟩ := h
  simp only [mov] at o
  cases e : ρ.getD i none with
  | none => simp only [e] at o; exact o.elim
  | some d =>
    simp only [e] at o
    obtain ⟨v, S1, S2, hv, s1, s2, dj, r, er2⟩ := er.take (getD_some e)
    exact ⟨v, hv, o v Z H S2 S1 ((Step.refl w).less fun a x => x.elim (s2 a) (s1 a)) (fun a x y => dj a y x) er2 r⟩
/-! ### targets -/
abbrev Tg := D → M Unit
def tG (K : PySem.W.Frag) (A : Nat → Bool) (g : Tg) : TG := fun v σ H Q => ∃ Z ρ S Sd d, Wd Z H (fun a => S a ∨ Sd a) ∧ (∀ a, S a → Sd a → False) ∧ EnvR K Z H ρ σ S ∧ Rep K Z H d v Sd ∧
  match g d ρ with
  | .ok _ ρ' => ∀ σ' Z' H' S', Keep A σ σ' → Step Z H (fun a => S a ∨ Sd a) Z' H' S' → EnvR K Z' H' ρ' σ' S' → Q σ' H'
  | _ => False
def tGs (K : PySem.W.Frag) (A : Nat → Bool) (g : List D → M Unit) : TGs := fun vs σ H Q => ∃ Z ρ S Sd ds, Wd Z H (fun a => S a ∨ Sd a) ∧ (∀ a, S a → Sd a → False) ∧ EnvR K Z H ρ σ S ∧ RepL K Z H ds vs Sd ∧
  match g ds ρ with
  | .ok _ ρ' => ∀ σ' Z' H' S', Keep A σ σ' → Step Z H (fun a => S a ∨ Sd a) Z' H' S' → EnvR K Z' H' ρ' σ' S' → Q σ' H'
  | _ => False
theorem PG.of {tg : Expr} {t t' : TG} (h : PG X tg t) (i : ∀ v σ H Q, t' v σ H Q → t v σ H Q) : PG X tg t' := ⟨fun p s σ H v u Q I r q => h.run p s σ H v u Q I r (i v σ H Q q)⟩
theorem PGs.of {tg : List Expr} {t t' : TGs} (h : PGs X tg t) (i : ∀ v σ H Q, t' v σ H Q → t v σ H Q) : PGs X tg t' := ⟨fun p s σ H v u Q I r q => h.run p s σ H v u Q I r (i v σ H Q q)⟩
def gN (i : Nat) : Tg := fun d ρ => if i < ρ.length then .ok () (ρ.set i (some d)) else .stuck
theorem tG_N {i : Nat} {v : V} {Q : Sl → Hp → Prop} (hA : A i = true) (h : tG K A (gN i) v σ H Q) : gName i v σ H Q := by
  obtain ⟨Z, ρ, S, Sd, d, w, dj, er, r, o⟩ := h
  simp only [gN] at o
  by_cases hi : i < ρ.length
  · rw [if_pos hi] at o
    exact o _ Z H (fun a => S a ∨ Sd a) ⟨fun j hj => List.getElem?_set_ne (fun e => by rw [← e, hA] at hj; cases hj), List.length_set⟩ (Step.refl w) (EnvR.put (er.drop i) hi r (fun a x => .inr x) (fun a x => .inl x) fun a x y => dj a y x)
  · rw [if_neg hi] at o
    exact o.elim
def gs0 : List D → M Unit := fun ds ρ => match ds with
  | [] => .ok () ρ
  | _ => .stuck
def gsC (g : Tg) (gs : List D → M Unit) : List D → M Unit := fun ds => match ds with
  | d :: ds => bnd (g d) fun _ => gs ds
  | [] => fun _ => .stuck
def gT (gs : List D → M Unit) (n : Nat) : Tg := fun d => match d with
  | .node _ .tup ds => if ds.length = n then gs ds else fun _ => .stuck
  | _ => fun _ => .stuck
theorem tGs_0 {vs : List V} {Q : Sl → Hp → Prop} (h : tGs K A gs0 vs σ H Q) : gNil vs σ H Q := by
  obtain ⟨Z, ρ, S, Sd, ds, w, dj, er, r, o⟩ := h
  cases ds with
  | cons d ds => simp only [gs0] at o
  | nil =>
    cases vs with
    | cons v vs => exact r.elim
    | nil => exact ⟨rfl, by simp only [gs0] at o; exact o σ Z H S (Keep.refl σ) ((Step.refl w).less fun a x => .inl x) er⟩
theorem tGs_C {g : Tg} {gs : List D → M Unit} {vs : List V} {Q : Sl → Hp → Prop} (h : tGs K A (gsC g gs) vs σ H Q) : gCons (tG K A g) (tGs K A gs) vs σ H Q := by
  obtain ⟨Z, ρ, S, Sd, ds, w, dj, er, r, o⟩ := h
  cases ds with
  | nil => simp only [gsC] at o
  | cons d ds =>
    cases vs with
    | nil => exact r.elim
    | cons v vs =>
      obtain ⟨A1, A2, a1, a2, aj, r1, r2⟩ := r
      simp only [gsC, bnd] at o
      refine ⟨v, vs, rfl, Z, ρ, S, A1, d, w.less fun a x => x.elim .inl fun y => .inr (a1 a y), fun a x y => dj a x (a1 a y), er, r1, ?_⟩
      cases e1 : g d ρ with
      | stuck => simp only [e1] at o
      | exc x ρ1 => simp only [e1] at o
      | ok u ρ1 =>
        simp only [e1] at o
        intro σ1 Z1 H1 S1 kp st er1
        have w' : Wd Z H (fun a => (S a ∨ A1 a) ∨ A2 a) := w.less fun a x => x.elim (fun y => y.elim .inl fun z => .inr (a1 a z)) fun y => .inr (a2 a y)
        have d1 : ∀ a, (S a ∨ A1 a) → A2 a → False := fun a x y => x.elim (fun z => dj a z (a2 a y)) fun z => aj a z y
        have st' := st.frame w' d1
        refine ⟨Z1, ρ1, S1, A2, ds, st'.wd, st.apart (fun a x => w'.live a (.inr x)) d1, er1, st.stayL d1 r2, ?_⟩
        cases e2 : gs ds ρ1 with
        | stuck => rw [e2] at o; exact o
        | exc x ρ2 => rw [e2] at o; exact o
        | ok u2 ρ2 =>
          rw [e2] at o
          intro σ2 Z2 H2 S2 kp2 st2 er2
          refine o σ2 Z2 H2 S2 (kp.trans kp2) ?_ er2
          have st0 : Step Z H (fun a => S a ∨ Sd a) Z1 H1 (fun a => S1 a ∨ A2 a) := ⟨st'.wd, st'.zz, fun a o n e => st'.fr a o (fun x => n (x.elim (fun y => y.elim .inl fun z => .inr (a1 a z)) fun y => .inr (a2 a y))) e,
            fun a x => (st'.new a x).elim (fun y => .inl (y.elim (fun y => y.elim .inl fun z => .inr (a1 a z)) fun y => .inr (a2 a y))) .inr, fun a o e => (st'.znew a o e).elim .inl fun y => .inr (y.elim (fun y => .inl (y.elim (fun y => y.elim .inl fun z => .inr (a1 a z)) fun y => .inr (a2 a y))) .inr)⟩
          exact st0.trans st2
theorem tG_T {gs : List D → M Unit} {n : Nat} {v : V} {Q : Sl → Hp → Prop} (h : tG K A (gT gs n) v σ H Q) : gTup K n (tGs K A gs) v σ H Q := by
  obtain ⟨Z, ρ, S, Sd, d, w, dj, er, r, o⟩ := h
  cases d with
  | node b k ds =>
    cases k with
    | tup =>
      simp only [gT] at o
      by_cases hn : ds.length = n
      · rw [if_pos hn] at o
        cases b with
        | false =>
          obtain ⟨a, ys, rfl, c, rl⟩ := r
          exact ⟨a, ys, rfl, SqT.sam c w.same, by rw [← rl.length]; exact hn, Z, ρ, S, Sd, ds, w, dj, er, rl, o⟩
        | true =>
          obtain ⟨a, ys, S', rfl, c, sa, na, sub, rl⟩ := r
          refine ⟨a, ys, rfl, SqT.of c, by rw [← rl.length]; exact hn, Z, ρ, S, Sd, ds, w, dj, er, rl.move (Same.refl Z) (fun _ _ _ x => x) sub, o⟩
      · rw [if_neg hn] at o
        simp only at o
    | _ => simp only [gT] at o
  | _ => simp only [gT] at o
def asg (f : M EV) (g : Tg) : M Fl := bnd f fun e => bnd (use1 e) fun d => fun ρ => match g d ρ with
  | .ok _ ρ' => .ok .nx ρ'
  | _ => .stuck
theorem tS_asg {f : M EV} {g : Tg} {D : Ends} (h : tS K mg W A (asg f g) D σ H) : tAsg (tE K mg W f) (tG K A g) D σ H := by
  obtain ⟨Z, ρ, S, w, er, o⟩ := h
  refine keep_of w er o fun v d ρ1 Z1 H1 S1 Sd st dj er1 r1 o1 => ?_
  refine ⟨Z1, ρ1, S1, Sd, d, st.wd, dj, er1, r1, ?_⟩
  cases e1 : g d ρ1 with
  | stuck => simp only [e1] at o1; exact o1
  | exc x ρ2 => simp only [e1] at o1; exact o1
  | ok u ρ2 =>
    simp only [e1] at o1
    exact fun σ' Z' H' S' kp st' er' => o1 σ' .non Z' H' S' Fp0 kp (st.trans (st'.less fun a x => x.elim id False.elim)) (fun _ _ x => x) er' trivial
end
end Pm
/-! PmD: loops, calls, what a def keeps. -/
namespace Pm
open PySem PySem.Spec PyProof.Rows L2
section
variable {K : PySem.W.Frag} {mg : Str → Option Value} {W : WX} {Z H : Hp} {S : Fp} {σ : Sl} {X : Cx} {A : Nat → Bool}
/-! ### while -/
def wIt (c : M Bool) (b : M Fl) : Nat → Env → Option (Res Fl)
  | 0, _ => none
  | n + 1, ρ => match c ρ with
    | .stuck => some .stuck
    | .exc x ρ1 => some (.exc x ρ1)
    | .ok false ρ1 => some (.ok .nx ρ1)
    | .ok true ρ1 => match b ρ1 with
      | .stuck => some .stuck
      | .exc x ρ2 => some (.exc x ρ2)
      | .ok (.rt d) ρ2 => some (.ok (.rt d) ρ2)
      | .ok .bk ρ2 => some (.ok .nx ρ2)
      | .ok .nx ρ2 => wIt c b n ρ2
      | .ok .ct ρ2 => wIt c b n ρ2
noncomputable def whl (c : M Bool) (b : M Fl) : M Fl := fun ρ => open Classical in if h : ∃ n r, wIt c b n ρ = some r then Classical.choose (Classical.choose_spec h) else .stuck
theorem wIt_more {c : M Bool} {b : M Fl} : ∀ {n : Nat} {ρ : Env} {r : Res Fl}, wIt c b n ρ = some r → ∀ k, wIt c b (n + k) ρ = some r
  | 0, _, _, h, _ => nomatch h
  | n + 1, ρ, r, h, k => by
    rw [show n + 1 + k = (n + k) + 1 by omega]
    simp only [wIt] at h ⊢
    split at h
    · exact h
    · exact h
    · exact h
    · split at h
      · exact h
      · exact h
      · exact h
      · exact h
      · exact wIt_more h k
      · exact wIt_more h k
theorem wIt_one {c : M Bool} {b : M Fl} {n m : Nat} {ρ : Env} {r r' : Res Fl} (h : wIt c b n ρ = some r) (h' : wIt c b m ρ = some r') : r = r' := by
  have a := wIt_more h m
  have b' := wIt_more h' n
  rw [Nat.add_comm m n, a] at b'
  exact Option.some.inj b'
theorem whl_of {c : M Bool} {b : M Fl} {n : Nat} {ρ : Env} {r : Res Fl} (h : wIt c b n ρ = some r) : whl c b ρ = r := by
  have q : ∃ n r, wIt c b n ρ = some r := ⟨n, r, h⟩
  unfold whl
  rw [dif_pos q]
  exact wIt_one (Classical.choose_spec (Classical.choose_spec q)) h
theorem whl_or {c : M Bool} {b : M Fl} {ρ : Env} (h : whl c b ρ ≠ .stuck) : ∃ n, wIt c b n ρ = some (whl c b ρ) := by
  by_cases q : ∃ n r, wIt c b n ρ = some r
  · obtain ⟨n, r, e⟩ := q
    exact ⟨n, by rw [whl_of e]; exact e⟩
  · exfalso
    apply h
    unfold whl
    rw [dif_neg q]
/-- one turn of a while -/
theorem whl_eq {c : M Bool} {b : M Fl} {ρ : Env} : whl c b ρ = match c ρ with
    | .stuck => .stuck
    | .exc x ρ1 => .exc x ρ1
    | .ok false ρ1 => .ok .nx ρ1
    | .ok true ρ1 => match b ρ1 with
      | .stuck => .stuck
      | .exc x ρ2 => .exc x ρ2
      | .ok (.rt d) ρ2 => .ok (.rt d) ρ2
      | .ok .bk ρ2 => .ok .nx ρ2
      | .ok .nx ρ2 => whl c b ρ2
      | .ok .ct ρ2 => whl c b ρ2 := by
  have go : ∀ {ρ2 : Env}, (∀ n, wIt c b (n + 1) ρ = wIt c b n ρ2) → whl c b ρ = whl c b ρ2 := fun {ρ2} f => by
    by_cases q : ∃ n r, wIt c b n ρ2 = some r
    · obtain ⟨n, r, e⟩ := q
      rw [whl_of e]
      exact whl_of (n := n + 1) (by rw [f]; exact e)
    · have q2 : ¬ ∃ n r, wIt c b n ρ = some r := fun ⟨n, r, e⟩ => by
        cases n with
        | zero => cases e
        | succ n => exact q ⟨n, r, by rw [← f]; exact e⟩
      unfold whl
      rw [dif_neg q, dif_neg q2]
  cases e1 : c ρ with
  | stuck => exact whl_of (n := 1) (by simp only [wIt, e1])
  | exc x ρ1 => exact whl_of (n := 1) (by simp only [wIt, e1])
  | ok t ρ1 =>
    cases t with
    | false => exact whl_of (n := 1) (by simp only [wIt, e1])
    | true =>
      simp only
      cases e2 : b ρ1 with
      | stuck => exact whl_of (n := 1) (by simp only [wIt, e1, e2])
      | exc x ρ2 => exact whl_of (n := 1) (by simp only [wIt, e1, e2])
      | ok f ρ2 =>
        cases f with
        | rt d => exact whl_of (n := 1) (by simp only [wIt, e1, e2])
        | bk => exact whl_of (n := 1) (by simp only [wIt, e1, e2])
        | nx => exact go fun n => by simp only [wIt, e1, e2]
        | ct => exact go fun n => by simp only [wIt, e1, e2]
theorem tS_while {c : M Bool} {b : M Fl} {D : Ends} (h : tS K mg W A (whl c b) D σ H) : tWhile (tT K mg W c) (tS K mg W A b) D σ H := by
  obtain ⟨Z, ρ, S, w, er, o⟩ := h
  have ns : whl c b ρ ≠ .stuck := fun e => by rw [e] at o; exact o
  obtain ⟨n, hn⟩ := whl_or ns
  refine ⟨fun m σ' H' => ∃ Z ρ S r, Wd Z H' S ∧ EnvR K Z H' ρ σ' S ∧ wIt c b m ρ = some r ∧ OutS K mg W A σ' Z H' S D r, ⟨n, Z, ρ, S, _, w, er, hn, o⟩, ?_⟩
  rintro m σ H ⟨Z, ρ, S, r, w, er, hm, o⟩
  cases m with
  | zero => cases hm
  | succ m =>
    simp only [wIt] at hm
    refine tT_bnd (k := fun _ => c) (R := fun _ => True) w er (fun x ρ1 e => ?_) (fun e => ?_) fun t ρ1 Z1 H1 S1 e st er1 => ?_
    · simp only [e, Option.some.injEq] at hm
      subst hm
      exact o σ (Keep.refl σ)
    · simp only [e, Option.some.injEq] at hm
      subst hm
      exact o
    · simp only [e] at hm
      cases t with
      | false =>
        simp only [Option.some.injEq] at hm
        subst hm
        rw [if_neg Bool.false_ne_true]
        exact o σ .non Z1 H1 S1 Fp0 (Keep.refl σ) (st.less fun a x => x.elim id False.elim) (fun _ _ x => x) er1 trivial
      | true =>
        rw [if_pos rfl]
        refine ⟨fun σ' H' => ∃ Z ρ S r, Wd Z H' S ∧ EnvR K Z H' ρ σ' S ∧ wIt c b m ρ = some r ∧ OutS K mg W A σ' Z H' S D r, fun σ' H' q => ⟨m, Nat.lt_succ_self m, q⟩, Z1, ρ1, S1, st.wd, er1, ?_⟩
        simp only at hm
        cases e2 : b ρ1 with
        | stuck =>
          simp only [e2, Option.some.injEq] at hm
          subst hm
          exact o
        | exc x ρ2 =>
          simp only [e2, Option.some.injEq] at hm
          subst hm
          exact fun σ' k => XOut.after st (o σ' k)
        | ok f ρ2 =>
          simp only [e2] at hm
          intro σ' v Z2 H2 S2 Sd kp st2 dj er2 r2
          have again : wIt c b m ρ2 = some r → ∃ Z ρ S r, Wd Z H2 S ∧ EnvR K Z H2 ρ σ' S ∧ wIt c b m ρ = some r ∧ OutS K mg W A σ' Z H2 S D r := fun q =>
            ⟨Z2, ρ2, S2, r, st2.wd.less fun a x => .inl x, er2, q, OutS.next kp ((st.trans st2).less fun a x => .inl x) o⟩
          cases f with
          | rt d =>
            simp only [Option.some.injEq] at hm
            subst hm
            exact o σ' v Z2 H2 S2 Sd kp (st.trans st2) dj er2 r2
          | bk =>
            simp only [Option.some.injEq] at hm
            subst hm
            exact o σ' .non Z2 H2 S2 Fp0 kp (st.trans (st2.less fun a x => x.elim .inl False.elim)) (fun _ _ x => x) er2 trivial
          | nx => exact again hm
          | ct => exact again hm
theorem ps_whl {c : Expr} {body : List Stmt} {f : M Bool} {b : M Fl} {pos : Pos} (hp : PassesOwn (model X.prog X.w) X.A X.env X.xe) (hc : PT X c (tT X.K X.mg W f)) (hb : PSs X body (tS X.K X.mg W A b)) : PS X (.While c body [] pos) (tS X.K X.mg W A (whl f b)) :=
  PS.of (ps_while hp hc hb) fun _ _ _ q => tS_while q
/-! ### for -/
def WalkR (K : PySem.W.Frag) (J : It) (Z : Hp) (ds : List D) : Prop := ∀ (Z' H' : Hp), Same Z Z' → Sam Z' H' → (∀ i, ds.length ≤ i → J.stop i H') ∧
  ∀ i d, ds[i]? = some d → J.go i H' ∧ ∀ x H'' S', Wd Z' H' S' → J.yld i H' x H'' → ∃ Z'', Step Z' H' S' Z'' H'' S' ∧ (∀ a o, H' a = some o → H'' a = some o) ∧ Rep K Z'' H'' d x Fp0
def OutI (K : PySem.W.Frag) (mg : Str → Option Value) (W : WX) (Z H : Hp) (S : Fp) (σ : Sl) (R : It → Hp → Prop) : Res (List D) → Prop
  | .stuck => False
  | .ok ds ρ' => ∀ J Z' H' S', Step Z H S Z' H' S' → EnvR K Z' H' ρ' σ S' → WalkR K J Z' ds → R J H'
  | .exc x ρ' => XOut K mg W Z H S σ x ρ'
def tI (K : PySem.W.Frag) (mg : Str → Option Value) (W : WX) (s : M (List D)) : TI := fun σ H R => ∃ Z ρ S, Wd Z H S ∧ EnvR K Z H ρ σ S ∧ OutI K mg W Z H S σ R (s ρ)
theorem PI.of {tg iter : Expr} {t t' : TI} (h : PI X tg iter t) (i : ∀ σ H Q, t' σ H Q → t σ H Q) : PI X tg iter t' := ⟨fun p s σ H R I q => h.run p s σ H R I (i σ H R q)⟩
def forIt (g : Tg) (b : M Fl) : List D → M Fl
  | [] => ret .nx
  | d :: ds => fun ρ => match g d ρ with
    | .ok _ ρ' => bnd b (fun f => match f with
      | .nx => forIt g b ds
      | .ct => forIt g b ds
      | .bk => ret .nx
      | .rt d => ret (.rt d)) ρ'
    | _ => .stuck
def forS (s : M (List D)) (g : Tg) (b : M Fl) : M Fl := bnd s (forIt g b)
theorem tS_for {s : M (List D)} {g : Tg} {b : M Fl} {D : Ends} (h : tS K mg W A (forS s g b) D σ H) : tFor (tI K mg W s) (tG K A g) (tS K mg W A b) D σ H := by
  obtain ⟨Z, ρ, S, w, er, o⟩ := h
  refine ⟨Z, ρ, S, w, er, ?_⟩
  simp only [forS, bnd] at o
  cases e1 : s ρ with
  | stuck => rw [e1] at o; exact o
  | exc x ρ1 => rw [e1] at o; exact o σ (Keep.refl σ)
  | ok ds ρ1 =>
    simp only [e1] at o
    intro J Z1 H1 S1 st er1 wk
    refine ⟨fun i m σ' H' => ∃ Z' ρ' S', Same Z1 Z' ∧ Wd Z' H' S' ∧ EnvR K Z' H' ρ' σ' S' ∧ i + m = ds.length ∧ OutS K mg W A σ' Z' H' S' D (forIt g b (ds.drop i) ρ'), ⟨ds.length, Z1, ρ1, S1, Same.refl _, st.wd, er1, by omega, OutS.after st o⟩, ?_⟩
    rintro i m σ2 H2 ⟨Z2, ρ2, S2, z2, w2, er2, him, o2⟩
    obtain ⟨w3, w4⟩ := wk Z2 H2 z2 w2.same
    by_cases hi : i < ds.length
    · obtain ⟨go, yl⟩ := w4 i ds[i] (List.getElem?_eq_getElem hi)
      have ed : ds.drop i = ds[i] :: ds.drop (i + 1) := List.drop_eq_getElem_cons hi
      rw [ed] at o2
      refine .inr ⟨go, fun σ' H' => ∃ Z' ρ' S', Same Z1 Z' ∧ Wd Z' H' S' ∧ EnvR K Z' H' ρ' σ' S' ∧ (i + 1) + (m - 1) = ds.length ∧ OutS K mg W A σ' Z' H' S' D (forIt g b (ds.drop (i + 1)) ρ'), fun σ' H' q => ⟨m - 1, by omega, q⟩, fun x H3 y => ?_⟩
      obtain ⟨Z3, st3, k3, r3⟩ := yl x H3 S2 w2 y
      have er3 : EnvR K Z3 H3 ρ2 σ2 S2 := er2.move st3.zz (fun a o _ e => k3 a o e) fun _ x => x
      refine ⟨Z3, ρ2, S2, Fp0, ds[i], st3.wd.less fun a x => x.elim id False.elim, fun _ _ x => x, er3, r3, ?_⟩
      have o3 := OutS.after st3 o2
      simp only [forIt, bnd] at o3
      cases e2 : g ds[i] ρ2 with
      | stuck => simp only [e2] at o3; exact o3
      | exc x ρ3 => simp only [e2] at o3; exact o3
      | ok u ρ3 =>
        simp only [e2] at o3
        intro σ4 Z4 H4 S4 kp4 st4 er4
        have st34 : Step Z3 H3 S2 Z4 H4 S4 := (Step.less (Step.refl st3.wd) (S2 := fun a => S2 a ∨ Fp0 a) (fun a x => x.elim id False.elim)).trans st4
        have zz4 : Same Z1 Z4 := z2.trans (st3.zz.trans st4.zz)
        refine ⟨Z4, ρ3, S4, st4.wd, er4, ?_⟩
        cases e3 : b ρ3 with
        | stuck => simp only [e3] at o3; exact o3
        | exc x ρ4 => simp only [e3] at o3; exact fun σ' k => XOut.after st34 (o3 σ' (kp4.trans k))
        | ok f ρ4 =>
          simp only [e3] at o3
          intro σ5 v Z5 H5 S5 Sd kp5 st5 dj er5 r5
          have again : OutS K mg W A σ2 Z3 H3 S2 D (forIt g b (ds.drop (i + 1)) ρ4) → ∃ Z' ρ' S', Same Z1 Z' ∧ Wd Z' H5 S' ∧ EnvR K Z' H5 ρ' σ5 S' ∧ (i + 1) + (m - 1) = ds.length ∧ OutS K mg W A σ5 Z' H5 S' D (forIt g b (ds.drop (i + 1)) ρ') := fun q =>
            ⟨Z5, ρ4, S5, zz4.trans st5.zz, st5.wd.less fun a x => .inl x, er5, by omega, OutS.next (kp4.trans kp5) ((st34.trans st5).less fun a x => .inl x) q⟩
          cases f with
          | rt d => exact o3 σ5 v Z5 H5 S5 Sd (kp4.trans kp5) (st34.trans st5) dj er5 r5
          | bk => exact o3 σ5 .non Z5 H5 S5 Fp0 (kp4.trans kp5) (st34.trans (st5.less fun a x => x.elim .inl False.elim)) (fun _ _ x => x) er5 trivial
          | nx => exact again o3
          | ct => exact again o3
    · refine .inl ⟨w3 i (by omega), ?_⟩
      rw [List.drop_eq_nil_of_le (by omega)] at o2
      exact o2 σ2 .non Z2 H2 S2 Fp0 (Keep.refl σ2) w2.nil (fun _ _ x => x) er2 trivial
theorem ps_forS {tg iter : Expr} {body : List Stmt} {s : M (List D)} {g : Tg} {b : M Fl} {pos : Pos} (hp : PassesOwn (model X.prog X.w) X.A X.env X.xe) (hc : X.calm = true) (hi : PI X tg iter (tI X.K X.mg W s)) (hg : PG X tg (tG X.K A g))
    (hb : PSs X body (tS X.K X.mg W A b)) (hs : ∀ x, foldedSetIterable iter X.env x = pure x) : PS X (.For tg iter body [] pos) (tS X.K X.mg W A (forS s g b)) :=
  PS.of (ps_for hp hc hi hg hb hs) fun _ _ _ q => tS_for q
/-! ### what is walked -/
/-- a list or a tuple: what it holds is frozen -/
def srcSeq (f : M EV) (k : Kd) : M (List D) := bnd f fun e => bnd (use1 e) fun d => match d with
  | .node _ k' ds => if k' = k then ret (frzL ds) else fun _ => .stuck
  | _ => fun _ => .stuck
theorem srcSeq_of {f : M EV} {k : Kd} {R : It → Hp → Prop} (h : tI K mg W (srcSeq f k) σ H R) (hk : k = .lst ∨ k = .tup) :
    tE K mg W f σ H fun x H1 => ∃ a, x = .ref a ∧ ∃ Z' ys ds, Sam Z' H1 ∧ Frd K Z' a ys k ∧ RepL K Z' H1 ds ys Fp0 ∧ ∀ J, WalkR K J Z' ds → R J H1 := by
  obtain ⟨Z, ρ, S, w, er, o⟩ := h
  refine ⟨Z, ρ, S, w, er, ?_⟩
  simp only [srcSeq, bnd] at o
  cases e1 : f ρ with
  | stuck => rw [e1] at o; exact o
  | exc x ρ1 => rw [e1] at o; exact o
  | ok ev ρ1 =>
    simp only [e1] at o
    intro v Z1 H1 S1 Sa st1 dj1 er1 r1
    cases e2 : use1 ev ρ1 with
    | stuck => rw [e2] at o; exact o.elim
    | exc x ρ2 => exact absurd e2 use1_noexc
    | ok d ρ2 =>
      simp only [e2] at o
      have w1 : Wd Z1 H1 (fun a => (S1 a ∨ Sa a) ∨ Fp0 a) := st1.wd.less fun a x => x.elim id False.elim
      obtain ⟨Z2, S2, st2, m2, er2, r2⟩ := use1_ok w1 dj1 (fun _ _ x => x) er1 r1 e2
      have st2' : Step Z1 H1 (fun a => S1 a ∨ Sa a) Z2 H1 (fun a => S2 a ∨ Sa a) := ⟨st2.wd.less fun a x => .inl x, st2.zz, fun a o n e _ => e, fun a x => .inl (x.elim (fun y => .inl (m2 a y)) .inr), fun a o e => (st2.znew a o e).elim .inl fun y => .inr (y.elim (fun z => z.elim .inl False.elim) .inr)⟩
      cases d with
      | node b k' ds =>
        simp only at o
        by_cases hk' : k' = k
        · subst hk'
          rw [if_pos rfl] at o
          simp only [ret] at o
          have w2 := st2'.wd
          have st3 : Step Z2 H1 (fun a => S2 a ∨ Sa a) (thaw Z2 H1 Sa) H1 S2 := Step.freeze w2 (fun a x => .inr x) (fun a x => .inl x) fun a x y => dj1 a (m2 a x) y
          have r3 := Rep.frz (S := Sa) (H' := H1) r2 (fun a x => w2.sep a (.inr x)) fun _ x => x
          obtain ⟨a, ys, rfl, c, rl⟩ := r3
          exact ⟨a, rfl, thaw Z2 H1 Sa, ys, frzL ds, st3.wd.same, c, rl, fun J wk => o J _ H1 S2 ((st1.trans st2').trans st3) (er2.move st3.zz (fun _ _ _ x => x) fun _ x => x) wk⟩
        · rw [if_neg hk'] at o
          exact o.elim
      | _ => exact o.elim
theorem walk_tup {a : Addr} {ys : List V} {ds : List D} {H1 : Hp} (c : SqT K Z a ys) (rl : RepL K Z H1 ds ys Fp0) : WalkR K (Itt K a) Z ds := by
  intro Z' H' z1 z2
  have c' : SqT K H' a ys := SqT.sam (SqT.same c z1) z2
  refine ⟨fun i hi => ⟨ys, c', by rw [← rl.length]; exact hi⟩, fun i d hd => ?_⟩
  obtain ⟨x, hx, rx⟩ := rl.get hd
  refine ⟨⟨ys, x, c', hx⟩, fun y H'' S' w h => ?_⟩
  obtain ⟨rfl, h⟩ := h
  have e := h ys c'
  rw [hx] at e
  cases e
  exact ⟨Z', Step.refl w, fun _ _ e => e, rx.move z1 (fun _ _ x => x.elim) fun _ x => x⟩
theorem walk_lst' {a : Addr} {ys : List V} {ds : List D} {H1 : Hp} (c : SqL K Z a ys) (rl : RepL K Z H1 ds ys Fp0) : WalkR K (Itl K a) Z ds := by
  intro Z' H' z1 z2
  have c' : SqL K H' a ys := Sam.seq z2 (Same.seq z1 c)
  refine ⟨fun i hi => ⟨ys, c', by rw [← rl.length]; exact hi⟩, fun i d hd => ?_⟩
  obtain ⟨x, hx, rx⟩ := rl.get hd
  refine ⟨⟨ys, x, c', hx⟩, fun y H'' S' w h => ?_⟩
  obtain ⟨rfl, h⟩ := h
  have e := h ys c'
  rw [hx] at e
  cases e
  exact ⟨Z', Step.refl w, fun _ _ e => e, rx.move z1 (fun _ _ x => x.elim) fun _ x => x⟩
theorem pi_seqL {tg l : Expr} {f : M EV} (h : PE X l (tE X.K X.mg W f)) : PI X tg l (tI X.K X.mg W (srcSeq f .lst)) :=
  PI.of (pi_list h) fun σ H R q => by
    obtain ⟨Z, ρ, S, w, er, o⟩ := srcSeq_of q (.inl rfl)
    refine ⟨Z, ρ, S, w, er, ?_⟩
    cases e : f ρ with
    | stuck => rw [e] at o; exact o
    | exc x ρ1 => rw [e] at o; exact o
    | ok ev ρ1 =>
      rw [e] at o
      intro v Z1 H1 S1 Sd st dj er1 r1
      obtain ⟨a, rfl, Z', ys, ds, sm, c, rl, k⟩ := o v Z1 H1 S1 Sd st dj er1 r1
      exact ⟨a, rfl, ⟨ys, Sam.seq sm (SqL.of c)⟩, k _ (walk_lst' (SqL.of c) rl)⟩
theorem pi_seqT {tg l : Expr} {f : M EV} (h : PE X l (tE X.K X.mg W f)) : PI X tg l (tI X.K X.mg W (srcSeq f .tup)) :=
  PI.of (pi_tup h) fun σ H R q => by
    obtain ⟨Z, ρ, S, w, er, o⟩ := srcSeq_of q (.inr rfl)
    refine ⟨Z, ρ, S, w, er, ?_⟩
    cases e : f ρ with
    | stuck => rw [e] at o; exact o
    | exc x ρ1 => rw [e] at o; exact o
    | ok ev ρ1 =>
      rw [e] at o
      intro v Z1 H1 S1 Sd st dj er1 r1
      obtain ⟨a, rfl, Z', ys, ds, sm, c, rl, k⟩ := o v Z1 H1 S1 Sd st dj er1 r1
      exact ⟨a, rfl, ⟨ys, SqT.sam c sm⟩, k _ (walk_tup c rl)⟩
end
end Pm
/-! PmE: what a def keeps, calls, the law's end. -/
namespace Pm
open PySem PySem.Spec PyProof.Rows L2

/-- what a def makes of its arguments: what it hands back, and the arguments as they lie then -/
inductive FR where
  | stuck | ret (d : D) (as : List D) | exc (x : XD) (as : List D)
abbrev FSem := List D → FR
/-- a def by its body: n parameters, m slots in all; those at reb are stored anew -/
def reFrz (reb : List Nat) : Nat → List D → List D
  | _, [] => []
  | i, d :: ds => (if i ∈ reb then d.frz else d) :: reFrz reb (i + 1) ds
def argsBack (reb : List Nat) (ρ : Env) : Nat → List D → Option (List D)
  | _, [] => some []
  | i, d :: ds => match (if d.plain || decide (i ∈ reb) then some d else ρ.getD i none), argsBack reb ρ (i + 1) ds with
    | some a, some as => some (a :: as)
    | _, _ => none
def mkF (n m : Nat) (reb : List Nat) (b : M Fl) : FSem := fun ds =>
  if ds.length = n ∧ n ≤ m then
    match b ((reFrz reb 0 ds).map some ++ List.replicate (m - n) none) with
    | .stuck => .stuck
    | .ok (.rt d) ρ => match argsBack reb ρ 0 (reFrz reb 0 ds) with
      | some as => .ret d as
      | none => .stuck
    | .ok .nx ρ => match argsBack reb ρ 0 (reFrz reb 0 ds) with
      | some as => .ret .non as
      | none => .stuck
    | .ok _ _ => .stuck
    | .exc x ρ => match argsBack reb ρ 0 (reFrz reb 0 ds) with
      | some as => .exc x as
      | none => .stuck
  else .stuck
section
variable (K : PySem.W.Frag) (mg : Str → Option Value)
def OutF (Z H : Hp) (S : Fp) (vs : List V) (Q : VK) (E : XK) : FR → Prop
  | .stuck => False
  | .ret d as => ∀ v Z' H' S' Sd, Step Z H S Z' H' (fun a => S' a ∨ Sd a) → (∀ a, S' a → Sd a → False) → RepL K Z' H' as vs S' → Rep K Z' H' d v Sd → Q v H'
  | .exc x as => ∀ cls dd Z' H' S', Step Z H S Z' H' S' → RepL K Z' H' as vs S' → ExcR K mg Z' x cls dd → E cls dd H'
def spG (f : FSem) : Sp := fun vs H Q E => ∃ Z S ds, Marks K Z ∧ Wd Z H S ∧ RepL K Z H ds vs S ∧ OutF K mg Z H S vs Q E (f ds)
end
structure FnG (P : Program) (w : World) (K : PySem.W.Frag) (mg : Str → Option Value) (base : Heap) (k : Nat) (f : Addr) (fd : FuncData) (ps : List Str) (g : FSem) : Prop where
  len : ∀ ds, g ds ≠ .stuck → ds.length = ps.length
  run : ∀ (A : Around) (outer : List PySem.Env) (s : Shared) (H : Hp) (args : Args) (us : List Value) (vs : List V) (Q : VK) (E : XK),
    A.guards = some [] → Room k A → Env0 P w K mg base A outer s H → BindsTo s fd args (ps.zip us) → Vals vs us → spG K mg g vs H Q E →
    codeAny (model P w) A (.call (.ref f) args) (CR (L2.CX P w) outer P w H s Q E) s

section
variable {K : PySem.W.Frag} {mg : Str → Option Value} {W : WX} {Z H : Hp} {S : Fp} {σ : Sl} {X : Cx}
theorem spG_len {g : FSem} {n : Nat} {vs : List V} {Q : VK} {E : XK} (l : ∀ ds, g ds ≠ .stuck → ds.length = n) (h : spG K mg g vs H Q E) : vs.length = n := by
  obtain ⟨Z, S, ds, mk, w, r, o⟩ := h
  rw [← r.length]
  exact l ds fun e => by rw [e] at o; exact o
theorem mkF_len {n m : Nat} {reb : List Nat} {b : M Fl} (ds : List D) (h : mkF n m reb b ds ≠ .stuck) : ds.length = n := by
  unfold mkF at h
  by_cases e : ds.length = n ∧ n ≤ m
  · exact e.1
  · rw [if_neg e] at h
    exact absurd rfl h
/-! ### a body's function is its def's -/
theorem env_start : ∀ {ds : List D} {vs : List V} {S : Fp} (k : Nat), Marks K Z → RepL K Z H ds vs S → EnvR K Z H (ds.map some ++ List.replicate k none) (vs.map some ++ List.replicate k none) S
  | [], [], S, 0, m, _ => m
  | [], [], S, k + 1, m, h => by
    rw [List.replicate_succ, List.replicate_succ]
    exact env_start (ds := []) (vs := []) (S := S) k m trivial
  | [], _ :: _, _, _, _, h => h.elim
  | _ :: _, [], _, _, _, h => h.elim
  | d :: ds, v :: vs, S, k, m, ⟨S1, S2, s1, s2, dj, r, q⟩ => ⟨S1, S2, s1, s2, dj, r, env_start k m q⟩
theorem reFrz_ok {reb : List Nat} : ∀ {ds : List D} {vs : List V} {i : Nat} {Z : Hp} {S T : Fp}, Wd Z H (fun a => S a ∨ T a) → (∀ a, S a → T a → False) → RepL K Z H ds vs S →
    ∃ Z' S', Step Z H (fun a => S a ∨ T a) Z' H (fun a => S' a ∨ T a) ∧ (∀ a, S' a → S a) ∧ RepL K Z' H (reFrz reb i ds) vs S'
  | [], [], _, Z, S, T, w, _, _ => ⟨Z, S, Step.refl w, fun _ x => x, trivial⟩
  | [], _ :: _, _, _, _, _, _, _, h => h.elim
  | _ :: _, [], _, _, _, _, _, _, h => h.elim
  | d :: ds, v :: vs, i, Z, S, T, w, dj, ⟨S1, S2, s1, s2, sj, r, q⟩ => by
    have w2 : Wd Z H (fun a => S2 a ∨ (S1 a ∨ T a)) := w.less fun a x => x.elim (fun y => .inl (s2 a y)) fun y => y.elim (fun z => .inl (s1 a z)) .inr
    obtain ⟨Z1, S', st, m, r1⟩ := reFrz_ok (reb := reb) (i := i + 1) w2 (fun a x y => y.elim (fun z => sj a z x) fun z => dj a (s2 a x) z) q
    have st0 : Step Z H (fun a => S a ∨ T a) Z1 H (fun a => S' a ∨ (S1 a ∨ T a)) := by
      have sub : ∀ a, (S2 a ∨ (S1 a ∨ T a)) → (S a ∨ T a) := fun a x => x.elim (fun y => .inl (s2 a y)) fun y => y.elim (fun z => .inl (s1 a z)) .inr
      exact ⟨st.wd, st.zz, fun a o n e _ => e, fun a x => (st.new a x).elim (fun y => .inl (sub a y)) .inr, fun a o e => (st.znew a o e).elim .inl fun y => .inr (y.elim (fun z => .inl (sub a z)) .inr)⟩
    unfold reFrz
    by_cases hi : i ∈ reb
    · rw [if_pos hi]
      have st1 : Step Z1 H (fun a => S' a ∨ (S1 a ∨ T a)) (thaw Z1 H S1) H (fun a => S' a ∨ T a) := Step.freeze st.wd (fun a x => .inr (.inl x)) (fun a x => x.elim .inl fun y => .inr (.inr y)) fun a x y => x.elim (fun z => sj a y (m a z)) fun z => dj a (s1 a y) z
      have rf : Rep K (thaw Z1 H S1) H d.frz v Fp0 := Rep.frz (r.move st.zz (fun _ _ _ x => x) fun _ x => x) (fun a x => st.wd.sep a (.inr (.inl x))) fun _ x => x
      exact ⟨_, S', st0.trans st1, fun a x => s2 a (m a x), Fp0, S', fun _ x => x.elim, fun _ x => x, fun _ x _ => x, rf, r1.move st1.zz (fun _ _ _ x => x) fun _ x => x⟩
    · rw [if_neg hi]
      refine ⟨Z1, fun a => S1 a ∨ S' a, st0.less fun a x => x.elim (fun y => y.elim (fun z => .inr (.inl z)) .inl) fun y => .inr (.inr y), fun a x => x.elim (s1 a) fun y => s2 a (m a y), S1, S', fun a x => .inl x, fun a x => .inr x, fun a x y => sj a x (m a y), r.move st.zz (fun _ _ _ x => x) fun _ x => x, r1⟩
/-- the slots of the parameters that are not stored hold the arguments -/
def Held (reb : List Nat) (σ : Sl) : Nat → List V → Prop
  | _, [] => True
  | i, v :: vs => (i ∉ reb → σ[i]? = some (some v)) ∧ Held reb σ (i + 1) vs
theorem reFrz_plain {reb : List Nat} : ∀ {ds : List D} {i j : Nat} {d : D}, (reFrz reb i ds)[j]? = some d → (i + j) ∈ reb → d.plain = true
  | [], _, _, _, h, _ => by simp [reFrz] at h
  | e :: ds, i, 0, d, h, m => by
    simp only [reFrz, List.getElem?_cons_zero, Option.some.injEq] at h
    rw [if_pos (by simpa using m)] at h
    rw [← h]
    exact D.plain_frz e
  | e :: ds, i, j + 1, d, h, m => by
    simp only [reFrz, List.getElem?_cons_succ] at h
    exact reFrz_plain h (by rw [show i + 1 + j = i + (j + 1) by omega]; exact m)
theorem back_ok {reb : List Nat} {ρ : Env} : ∀ {ds : List D} {vs : List V} {as : List D} {i : Nat} {S S0 : Fp} {Z0 H0 : Hp} {ρ1 : Env}, RepL K Z0 H0 ds vs S0 → Same Z0 Z → (∀ j d, ds[j]? = some d → (i + j) ∈ reb → d.plain = true) → Held reb σ i vs → (∀ j, i ≤ j → ρ1[j]? = ρ[j]?) → EnvR K Z H ρ1 σ S → argsBack reb ρ i ds = some as → RepL K Z H as vs S
  | [], [], as, i, S, S0, Z0, H0, ρ1, _, _, _, _, _, _, h => by
    simp only [argsBack, Option.some.injEq] at h
    subst h
    trivial
  | [], _ :: _, _, _, _, _, _, _, _, r, _, _, _, _, _, _ => r.elim
  | _ :: _, [], _, _, _, _, _, _, _, r, _, _, _, _, _, _ => r.elim
  | d :: ds, v :: vs, as, i, S, S0, Z0, H0, ρ1, ⟨S1, S2, s1, s2, sj, r, q⟩, zz, pl, ⟨hv, hh⟩, hρ, er, h => by
    simp only [argsBack] at h
    split at h
    · rename_i a as' h1 h2
      simp only [Option.some.injEq] at h
      subst h
      by_cases hp : (d.plain || decide (i ∈ reb)) = true
      · rw [if_pos hp, Option.some.injEq] at h1
        subst h1
        have hpl : d.plain = true := by
          cases e : d.plain with
          | true => rfl
          | false =>
            rw [e, Bool.false_or, decide_eq_true_eq] at hp
            have := pl 0 d rfl (by simpa using hp)
            rw [e] at this
            exact this
        have rp : Rep K Z H d v Fp0 := (Rep.plain (H' := H0) r hpl).move zz (fun _ _ x => x.elim) fun _ x => x
        exact ⟨Fp0, S, fun _ x => x.elim, fun _ x => x, fun _ x _ => x, rp, back_ok q zz (fun j d' e m => pl (j + 1) d' (by simpa using e) (by rw [show i + (j + 1) = i + 1 + j by omega]; exact m)) hh (fun j hj => hρ j (by omega)) er h2⟩
      · rw [if_neg hp] at h1
        have ni : i ∉ reb := fun m => hp (by rw [decide_eq_true m, Bool.or_true])
        have e1 : ρ1[i]? = some (some a) := by rw [hρ i (Nat.le_refl _)]; exact getD_some h1
        obtain ⟨u, T1, T2, hu, t1, t2, tj, ra, er2⟩ := er.take e1
        have eu : u = v := by
          have := hv ni
          rw [hu] at this
          simpa using this
        subst eu
        refine ⟨T1, T2, t1, t2, tj, ra, ?_⟩
        exact back_ok q zz (fun j d' e m => pl (j + 1) d' (by simpa using e) (by rw [show i + (j + 1) = i + 1 + j by omega]; exact m)) hh (fun j hj => by rw [List.getElem?_set_ne (by omega)]; exact hρ j (by omega)) er2 h2
    · cases h
def parA (n : Nat) (reb : List Nat) (j : Nat) : Bool := decide (j ∈ reb) || decide (n ≤ j)
theorem held_of {reb : List Nat} {n : Nat} : ∀ {vs : List V} {i : Nat} {σ0 : Sl}, Keep (parA n reb) σ0 σ → i + vs.length ≤ n → (∀ j v, vs[j]? = some v → σ0[i + j]? = some (some v)) → Held reb σ i vs
  | [], _, _, _, _, _ => trivial
  | v :: vs, i, σ0, k, l, h => ⟨fun m => by
      rw [k.1 i (by
        rw [List.length_cons] at l
        simp only [parA, Bool.or_eq_false_iff, decide_eq_false_iff_not]
        exact ⟨m, by omega⟩)]
      exact h 0 v rfl, held_of k (by rw [List.length_cons] at l; omega) fun j u e => by
      rw [show i + 1 + j = i + (j + 1) by omega]
      exact h (j + 1) u (by simpa using e)⟩
theorem start_get {N : List Str} {vs : List V} {j : Nat} {v : V} (h : vs[j]? = some v) : (start N vs)[j]? = some (some v) := by
  have hj : j < vs.length := (List.getElem?_eq_some_iff.mp h).1
  unfold L2.start
  rw [List.getElem?_append_left (by simpa using hj), List.getElem?_map, h]
  rfl
/-- a body's reading from what its function makes of the arguments -/
theorem body_in {n m : Nat} {reb : List Nat} {b : M Fl} {N : List Str} {vs : List V} {Q : VK} {E : XK} (hm : N.length = m) (hn : vs.length = n) (h : spG K mg (mkF n m reb b) vs H Q E) :
    tS K mg (fun cls d _ H => E cls d H) (parA n reb) b { nx := fun _ H' => Q .non H', rt := Q } (start N vs) H := by
  obtain ⟨Z, S, ds, mk, w, r, o⟩ := h
  have hd : ds.length = n := r.length.trans hn
  unfold mkF at o
  by_cases hc : ds.length = n ∧ n ≤ m
  · rw [if_pos hc] at o
    have w0 : Wd Z H (fun a => S a ∨ Fp0 a) := w.less fun a x => x.elim id False.elim
    obtain ⟨Z1, S1, st, m1, r1⟩ := reFrz_ok (reb := reb) (i := 0) w0 (fun _ _ x => x) r
    have st' : Step Z H S Z1 H S1 := ⟨st.wd.less fun a x => .inl x, st.zz, fun _ _ _ e _ => e, fun a x => .inl (m1 a x), fun a o e => (st.znew a o e).elim .inl fun y => .inr (y.elim (fun z => z.elim .inl False.elim) .inr)⟩
    have er : EnvR K Z1 H ((reFrz reb 0 ds).map some ++ List.replicate (m - n) none) (start N vs) S1 := by
      have q := env_start (m - n) (mk.same st.zz) r1
      unfold L2.start
      rw [hm, hn]
      exact q
    refine ⟨Z1, _, S1, st'.wd, er, ?_⟩
    have back : ∀ {ρ' : Env} {as : List D} {σ' : Sl} {Z' H' : Hp} {S' : Fp}, Same Z1 Z' → Keep (parA n reb) (start N vs) σ' → EnvR K Z' H' ρ' σ' S' → argsBack reb ρ' 0 (reFrz reb 0 ds) = some as → RepL K Z' H' as vs S' := fun {ρ' as σ' Z' H' S'} zz kp er' ab =>
      back_ok r1 zz (fun j d e mm => reFrz_plain e mm) (held_of kp (by omega) fun j v e => by rw [Nat.zero_add]; exact start_get e) (fun _ _ => rfl) er' ab
    cases e1 : b ((reFrz reb 0 ds).map some ++ List.replicate (m - n) none) with
    | stuck => rw [e1] at o; exact o
    | exc x ρ' =>
      simp only [e1] at o
      cases e2 : argsBack reb ρ' 0 (reFrz reb 0 ds) with
      | none => rw [e2] at o; exact o.elim
      | some as =>
        simp only [e2] at o
        exact fun σ' kp cls dd Z' H' S' st2 er2 xr => o cls dd Z' H' S' (st'.trans st2) (back st2.zz kp er2 e2) xr
    | ok f ρ' =>
      simp only [e1] at o
      intro σ' v Z' H' S' Sd kp st2 dj er2 fr
      cases f with
      | bk => exact o.elim
      | ct => exact o.elim
      | nx =>
        simp only at o
        cases e2 : argsBack reb ρ' 0 (reFrz reb 0 ds) with
        | none => rw [e2] at o; exact o.elim
        | some as =>
          simp only [e2] at o
          exact o .non Z' H' S' Fp0 ((st'.trans st2).less fun a x => x.elim .inl False.elim) (fun _ _ x => x) (back st2.zz kp er2 e2) rfl
      | rt d =>
        simp only at o
        cases e2 : argsBack reb ρ' 0 (reFrz reb 0 ds) with
        | none => rw [e2] at o; exact o.elim
        | some as =>
          simp only [e2] at o
          exact o v Z' H' S' Sd (st'.trans st2) dj (back st2.zz kp er2 e2) fr
  · rw [if_neg hc] at o
    exact o.elim
end

/-! ### the rule for a def -/
section
variable {P : Program} {w : World} {K : PySem.W.Frag} {mg : Str → Option Value} {base : Heap}
/-- the context in which the body of a def at f runs -/
abbrev cxG (P : Program) (w : World) (K : PySem.W.Frag) (mg : Str → Option Value) (base : Heap) (N : List Str) (qual : Str) (sc : Scope) (f : Addr) (cdv : Value) (A : Around) (outer : List PySem.Env) (s : Shared) (H : Hp) (E : XK) : Cx :=
  cxOf (L2.CX P w) P w K mg base N qual sc f cdv A outer s H E
theorem fnGc {x qual : Str} {st : Stmt} {f : Addr} {fd : FuncData} {N ps : List Str} {k m : Nat} {reb : List Nat} {b : M Fl} (F : Fun K x qual st f fd) (Sc : FnScope N ps (defScope st)) (hm : N.length = m)
    (body : ∀ (cdv : Value) (A : Around) (outer : List PySem.Env) (s : Shared) (H : Hp) (E : XK), fd.code = cdv → A.guards = some [] → Room k (A.deeper (envOfC qual (defScope st) s.heap.objs.size f cdv)) →
      PSs (cxG P w K mg base N qual (defScope st) f cdv A outer s H E) (defBody st) (tS K mg (fun cls d _ H => E cls d H) (parA ps.length reb) b)) :
    FnG P w K mg base (k + 1) f fd ps (mkF ps.length m reb b) := by
  obtain ⟨oc, od, kV, doc, pm, an, cdv, ct, osl, rfl, lk, hcd⟩ := F.ex
  refine ⟨mkF_len, fun A outer s H args us vs Q E hgd hr e0 hb r hsp => ?_⟩
  have hl : vs.length = ps.length := spG_len mkF_len hsp
  have KX : K.In s.heap := e0.mod.kin.keeps fun b o e => (e0.bs b o e).1
  have lim : s.heap.NoLimit := e0.mod.nolimit.keeps fun b o e => (e0.bs b o e).1
  refine codeAny_call_function hr.depth (KX _ _ lk) rfl Sc.co Sc.gen rfl (PySem.W.codeRec_of KX hcd) (hb _ _ _ _ ?_)
  refine wpAny_newFunctionEnv_cells Sc.kind (fun y hy => ?_) fun env he s1 z => ?_
  · rcases Sc.par y.1 (List.of_mem_zip (a := y.1) (b := y.2) hy).1 with q | q
    · exact .inl q
    · exact .inr ⟨q, PySem.W.cellsFrom_some _ _ _ (.inl q)⟩
  · subst he
    refine ⟨lim.keeps z.toInCall.keep, codeAny_func ?_⟩
    have ht := body cdv A outer s H E rfl hgd (hr.deeper _)
    have I : Inv (cxG P w K mg base N qual (defScope st) f cdv A outer s H E) [] (start N vs) H s1 := inv_start Sc hr.hd e0 hl r z
    refine wpAny_mono (ht.run [] s1 (start N vs) H _ I (body_in hm hl hsp)) (fun fl s' hs => ?_) fun _ _ hs => hs
    cases fl with
    | ret u =>
      obtain ⟨v, σ', H', J, rv, q⟩ := hs
      exact ⟨v, H', J.os, J.bare, J.base, J.hok, rv, q⟩
    | next =>
      obtain ⟨σ', H', J, q⟩ := hs
      exact ⟨V.non, H', J.os, J.bare, J.base, J.hok, rfl, q⟩
    | brk =>
      obtain ⟨_, _, _, q⟩ := hs
      exact q.elim
    | cont =>
      obtain ⟨_, _, _, q⟩ := hs
      exact q.elim
theorem fnG {x qual : Str} {st : Stmt} {f : Addr} {fd : FuncData} {N ps : List Str} {k m : Nat} {reb : List Nat} {b : M Fl} (F : Fun K x qual st f fd) (Sc : FnScope N ps (defScope st)) (hm : N.length = m)
    (body : ∀ (cdv : Value) (A : Around) (outer : List PySem.Env) (s : Shared) (H : Hp) (E : XK), A.guards = some [] → Room k (A.deeper (envOfC qual (defScope st) s.heap.objs.size f cdv)) →
      PSs (cxG P w K mg base N qual (defScope st) f cdv A outer s H E) (defBody st) (tS K mg (fun cls d _ H => E cls d H) (parA ps.length reb) b)) :
    FnG P w K mg base (k + 1) f fd ps (mkF ps.length m reb b) := fnGc F Sc hm fun cdv A outer s H E _ h1 h2 => body cdv A outer s H E h1 h2
end
end Pm
/-! PmF: calls of defs, the law's end. -/
namespace Pm
open PySem PySem.Spec PyProof.Rows L2
def takes (ρ : Env) : List EV → Option (List D × Env)
  | [] => some ([], ρ)
  | .val d :: es => match takes ρ es with
    | some (ds, ρ') => some (d :: ds, ρ')
    | none => none
  | .ref i :: es => match ρ.getD i none with
    | none => none
    | some d => match takes (if d.plain then ρ else ρ.set i none) es with
      | some (ds, ρ') => some (d :: ds, ρ')
      | none => none
def puts : List EV → List D → List D → Env → Env
  | .ref i :: es, d :: ds, a :: as, ρ => puts es ds as (if d.plain then ρ else ρ.set i (some a))
  | .val _ :: es, _ :: ds, _ :: as, ρ => puts es ds as ρ
  | _, _, _, ρ => ρ
def callF (g : FSem) (fs : M (List EV)) : M EV := bnd fs fun es => fun ρ => match takes ρ es with
  | none => .stuck
  | some (ds, ρ1) => match g ds with
    | .stuck => .stuck
    | .ret d as => .ok (.val d) (puts es ds as ρ1)
    | .exc x as => .exc x (puts es ds as ρ1)
section
variable {K : PySem.W.Frag} {mg : Str → Option Value} {W : WX} {Z H : Hp} {S : Fp} {σ : Sl} {X : Cx}
theorem takes_ok : ∀ {es : List EV} {vs : List V} {ds : List D} {ρ ρ' : Env} {S Sa : Fp}, EnvR K Z H ρ σ S → EVsR K Z H σ es vs Sa → (∀ a, S a → Sa a → False) → takes ρ es = some (ds, ρ') →
    ∃ S1 T, (∀ a, S1 a → S a) ∧ (∀ a, T a → S a ∨ Sa a) ∧ (∀ a, S1 a → T a → False) ∧ EnvR K Z H ρ' σ S1 ∧ RepL K Z H ds vs T
  | [], [], ds, ρ, ρ', S, Sa, er, _, dj, h => by
    simp only [takes, Option.some.injEq, Prod.mk.injEq] at h
    obtain ⟨rfl, rfl⟩ := h
    exact ⟨S, Fp0, fun _ x => x, fun _ x => x.elim, fun _ _ x => x, er, trivial⟩
  | [], _ :: _, _, _, _, _, _, _, r, _, _ => r.elim
  | _ :: _, [], _, _, _, _, _, _, r, _, _ => r.elim
  | .val d :: es, v :: vs, ds, ρ, ρ', S, Sa, er, ⟨A1, A2, a1, a2, aj, r, q⟩, dj, h => by
    simp only [takes] at h
    cases e : takes ρ es with
    | none => rw [e] at h; cases h
    | some p =>
      obtain ⟨ds', ρ1⟩ := p
      simp only [e, Option.some.injEq, Prod.mk.injEq] at h
      obtain ⟨rfl, rfl⟩ := h
      obtain ⟨S1, T, m1, m2, tj, er1, rl⟩ := takes_ok er q (fun a x y => dj a x (a2 a y)) e
      refine ⟨S1, fun a => A1 a ∨ T a, m1, fun a x => x.elim (fun y => .inr (a1 a y)) fun y => (m2 a y).elim .inl fun z => .inr (a2 a z), fun a x y => y.elim (fun z => dj a (m1 a x) (a1 a z)) (tj a x), er1, ?_⟩
      refine ⟨A1, T, fun a x => .inl x, fun a x => .inr x, fun a x y => (m2 a y).elim (fun z => dj a z (a1 a x)) fun z => aj a x z, r, rl⟩
  | .ref i :: es, v :: vs, ds, ρ, ρ', S, Sa, er, ⟨A1, A2, a1, a2, aj, r, q⟩, dj, h => by
    simp only [takes] at h
    cases e0 : ρ.getD i none with
    | none => simp only [e0] at h; cases h
    | some d =>
      simp only [e0] at h
      obtain ⟨u, U1, U2, hu, u1, u2, uj, ru, eu⟩ := er.take (getD_some e0)
      have ev : u = v := by
        have r' : σ[i]? = some (some v) := r
        rw [hu] at r'
        simpa using r'
      subst ev
      cases hp : d.plain with
      | true =>
        simp only [hp, if_true] at h
        cases e : takes ρ es with
        | none => rw [e] at h; cases h
        | some p =>
          obtain ⟨ds', ρ1⟩ := p
          simp only [e, Option.some.injEq, Prod.mk.injEq] at h
          obtain ⟨rfl, rfl⟩ := h
          obtain ⟨S1, T, m1, m2, tj, er1, rl⟩ := takes_ok er q (fun a x y => dj a x (a2 a y)) e
          exact ⟨S1, T, m1, fun a x => (m2 a x).elim .inl fun z => .inr (a2 a z), tj, er1, Fp0, T, fun _ x => x.elim, fun _ x => x, fun _ x _ => x, ru.plain hp, rl⟩
      | false =>
        simp only [hp, Bool.false_eq_true, if_false] at h
        cases e : takes (ρ.set i none) es with
        | none => rw [e] at h; cases h
        | some p =>
          obtain ⟨ds', ρ1⟩ := p
          simp only [e, Option.some.injEq, Prod.mk.injEq] at h
          obtain ⟨rfl, rfl⟩ := h
          obtain ⟨S1, T, m1, m2, tj, er1, rl⟩ := takes_ok eu q (fun a x y => dj a (u2 a x) (a2 a y)) e
          refine ⟨S1, fun a => U1 a ∨ T a, fun a x => u2 a (m1 a x), fun a x => x.elim (fun y => .inl (u1 a y)) fun y => (m2 a y).elim (fun z => .inl (u2 a z)) fun z => .inr (a2 a z), fun a x y => y.elim (fun z => uj a z (m1 a x)) (tj a x), er1, ?_⟩
          exact ⟨U1, T, fun a x => .inl x, fun a x => .inr x, fun a x y => (m2 a y).elim (fun z => uj a x z) fun z => dj a (u1 a x) (a2 a z), ru, rl⟩
theorem puts_ok : ∀ {es : List EV} {vs : List V} {ds as : List D} {ρ : Env} {Z0 H0 : Hp} {S S0 T : Fp}, EnvR K Z H ρ σ S → EVsR K Z0 H0 σ es vs S0 → RepL K Z H as vs T → (∀ a, S a → T a → False) → EnvR K Z H (puts es ds as ρ) σ (fun a => S a ∨ T a)
  | [], _, ds, as, ρ, _, _, S, _, T, er, _, _, _ => by
    unfold puts
    exact er.move (Same.refl Z) (fun _ _ _ x => x) fun a x => .inl x
  | _ :: _, [], _, _, _, _, _, _, _, _, _, r, _, _ => r.elim
  | e :: es, v :: vs, [], as, ρ, _, _, S, _, T, er, _, _, _ => by
    have q : puts (e :: es) [] as ρ = ρ := by cases e <;> rfl
    rw [q]
    exact er.move (Same.refl Z) (fun _ _ _ x => x) fun a x => .inl x
  | e :: es, v :: vs, d :: ds, [], ρ, _, _, S, _, T, er, _, rl, _ => rl.elim
  | .val d' :: es, v :: vs, d :: ds, a' :: as, ρ, Z0, H0, S, S0, T, er, ⟨A1, A2, _, _, _, r, q⟩, ⟨T1, T2, t1, t2, tj, ra, rl⟩, dj =>
    (puts_ok (ds := ds) er q rl fun a x y => dj a x (t2 a y)).move (Same.refl Z) (fun _ _ _ x => x) fun a x => x.elim .inl fun y => .inr (t2 a y)
  | .ref i :: es, v :: vs, d :: ds, a' :: as, ρ, Z0, H0, S, S0, T, er, ⟨A1, A2, _, _, _, r, q⟩, ⟨T1, T2, t1, t2, tj, ra, rl⟩, dj => by
    unfold puts
    cases hp : d.plain with
    | true =>
      rw [if_pos rfl]
      exact (puts_ok (ds := ds) er q rl fun a x y => dj a x (t2 a y)).move (Same.refl Z) (fun _ _ _ x => x) fun a x => x.elim .inl fun y => .inr (t2 a y)
    | false =>
      rw [if_neg Bool.false_ne_true]
      have r' : σ[i]? = some (some v) := r
      obtain ⟨hi, e1⟩ := List.getElem?_eq_some_iff.mp r'
      have er2 : EnvR K Z H (ρ.set i (some a')) σ (fun a => S a ∨ T1 a) := by
        have p := EnvR.put (S := fun a => S a ∨ T1 a) (er.drop i) (by rw [er.length]; exact hi) ra (fun a x => .inr x) (fun a x => .inl x) fun a x y => dj a y (t1 a x)
        have es' : σ.set i (some v) = σ := by rw [← e1, List.set_getElem_self]
        rw [es'] at p
        exact p
      exact (puts_ok (ds := ds) er2 q rl fun a x y => x.elim (fun z => dj a z (t2 a y)) fun z => tj a z y).move (Same.refl Z) (fun _ _ _ x => x) fun a x => x.elim (fun y => y.elim .inl fun z => .inr (t1 a z)) fun y => .inr (t2 a y)
theorem tE_call {g : FSem} {fs : M (List EV)} {Q : VK} (h : tE K mg W (callF g fs) σ H Q) : tA K mg W fs σ H fun vs H1 => spG K mg g vs H1 Q (fun cls d H => W cls d σ H) := by
  obtain ⟨Z, ρ, S, w, er, o⟩ := h
  refine ⟨Z, ρ, S, w, er, ?_⟩
  simp only [callF, bnd] at o
  cases e1 : fs ρ with
  | stuck => rw [e1] at o; exact o
  | exc x ρ1 => rw [e1] at o; exact o
  | ok es ρ1 =>
    simp only [e1] at o
    intro vs Z1 H1 S1 Sa st1 dj1 er1 r1
    cases e2 : takes ρ1 es with
    | none => simp only [e2] at o; exact o.elim
    | some p =>
      obtain ⟨ds, ρ2⟩ := p
      simp only [e2] at o
      obtain ⟨S2, T, m1, m2, tj, er2, rl⟩ := takes_ok er1 r1 dj1 e2
      have w2 : Wd Z1 H1 (fun a => T a ∨ S2 a) := st1.wd.less fun a x => x.elim (m2 a) fun y => .inl (m1 a y)
      have st1' : Step Z H S Z1 H1 (fun a => T a ∨ S2 a) := st1.less fun a x => x.elim (m2 a) fun y => .inl (m1 a y)
      refine ⟨Z1, T, ds, er2.marks, w2.less fun a x => .inl x, rl, ?_⟩
      cases e3 : g ds with
      | stuck => simp only [e3] at o; exact o
      | ret d as =>
        simp only [e3] at o
        intro v Z3 H3 S3 Sd st3 dj3 ra rd
        have st3' := st3.frame w2 fun a x y => tj a y x
        have ap := st3.apart (fun a x => w2.live a (.inr x)) fun a x y => tj a y x
        have er3 : EnvR K Z3 H3 ρ2 σ S2 := st3.stayE (fun a x y => tj a y x) er2
        have er4 := puts_ok (ds := ds) er3 r1 ra fun a x y => ap a (.inl y) x
        exact o v Z3 H3 (fun a => S2 a ∨ S3 a) Sd ((st1'.trans st3').less fun a x => x.elim (fun y => y.elim .inr fun z => .inl (.inl z)) fun y => .inl (.inr y)) (fun a x y => x.elim (fun z => ap a (.inr y) z) fun z => dj3 a z y) er4 rd
      | exc x as =>
        simp only [e3] at o
        intro cls dd Z3 H3 S3 st3 ra xr
        have st3' := st3.frame w2 fun a x y => tj a y x
        have ap := st3.apart (fun a x => w2.live a (.inr x)) fun a x y => tj a y x
        have er3 : EnvR K Z3 H3 ρ2 σ S2 := st3.stayE (fun a x y => tj a y x) er2
        have er4 := puts_ok (ds := ds) er3 r1 ra fun a x y => ap a y x
        exact o cls dd Z3 H3 (fun a => S2 a ∨ S3 a) ((st1'.trans st3').less fun a x => x.elim .inr .inl) er4 xr
/-- a def of the module, called by its place -/
theorem run_G {k : Nat} {f : Addr} {fd : FuncData} {ps : List Str} {g : FSem} {pins : List (Addr × Obj)} {s : Shared} {Q : VK} {us : List Value} {kws : List (Str × Value)} {ws : List Value} {vs : List V} (F : FnG X.prog X.w X.K X.mg X.base k f fd ps g) (hgd : X.A.guards = some []) (hr : Room k X.A)
    (tk : Takes X W) (hb : ws.length = ps.length → BindsTo s fd ⟨us, kws⟩ (ps.zip ws)) (I : Inv X pins σ H s) (r : Vals vs ws) (h : spG X.K X.mg g vs H Q (fun cls d H => W cls d σ H)) :
    codeAny (model X.prog X.w) X.A (.call (.ref f) ⟨us, kws⟩) (fun r s' => match r with
      | .ok (.ret u) => EP X pins σ Q u s'
      | .ok _ => False
      | .error e => X.xe e s') s := by
  have hl : ws.length = ps.length := by rw [← r.length]; exact spG_len F.len h
  refine codeAny_mono (F.run X.A X.stack s H ⟨us, kws⟩ ws vs Q _ hgd hr I.env0 (hb hl) r h) fun r s' hq => ?_
  cases r with
  | error e => exact passAt tk σ pins H s e s' I hq
  | ok fl =>
    cases fl with
    | ret u => exact I.after hq
    | next => exact hq.elim
    | brk => exact hq.elim
    | cont => exact hq.elim
theorem pe_callG {k : Nat} {f : Addr} {fd : FuncData} {ps : List Str} {g : FSem} {x : Str} {p pos : Pos} {e : Expr} {es : List Expr} {fs : M (List EV)} (F : FnG X.prog X.w X.K X.mg X.base k f fd ps g) (hgd : X.A.guards = some []) (hr : Room k X.A) (tk : Takes X W)
    (hg : Gl X x) (hm : X.mg x = some (.ref f)) (hk : PySem.W.keepIn X.K (.ref f) = true) (hb : Binds X.K fd ps []) (ha : PA X (e :: es) (tA X.K X.mg W fs)) (hdb : (x == ("__debug__" : Str)) = false)
    (he : starEach (e :: es) X.env = (false, eval e X.env) :: starEach es X.env) (hpl : (backTo pos (starEach es X.env)).any (·.1) = false) : PE X (.Call (.Name x p) (e :: es) [] pos) (tE X.K X.mg W (callF g fs)) := by
  refine ⟨fun pins s σ H Q I h => ?_⟩
  refine wpAny_Call_Name_kw (ld_glob I hg hm ?_ hdb)
  refine PySem.W.callWith_K (h₀ := X.base) I.ok.mod.kin hk (thn (ha.run pos pins s σ H _ I (tE_call h)) fun us s1 ⟨vs, H1, I1, r, q⟩ => ⟨I1.kIn, ?_⟩) he hpl
  refine wpAny_call (codeAny_mono (run_G (ws := us) F hgd hr tk (fun hl => by have b := hb s1 us I1.kIn (by rw [List.append_nil]; exact hl); rw [List.append_nil] at b; exact b) I1 r q) fun r s' hq => ?_)
  cases r with
  | error e => exact hq
  | ok fl =>
    cases fl with
    | ret u => exact hq
    | next => exact hq.elim
    | brk => exact hq.elim
    | cont => exact hq.elim
theorem pe_callG0 {k : Nat} {f : Addr} {fd : FuncData} {ps : List Str} {g : FSem} {x : Str} {p pos : Pos} (F : FnG X.prog X.w X.K X.mg X.base k f fd ps g) (hgd : X.A.guards = some []) (hr : Room k X.A) (tk : Takes X W)
    (hg : Gl X x) (hm : X.mg x = some (.ref f)) (hk : PySem.W.keepIn X.K (.ref f) = true) (hb : Binds X.K fd ps []) (hdb : (x == ("__debug__" : Str)) = false) : PE X (.Call (.Name x p) [] [] pos) (tE X.K X.mg W (callF g aNil)) := by
  refine ⟨fun pins s σ H Q I h => ?_⟩
  refine wpAny_Call_Name_kw (ld_glob I hg hm ?_ hdb)
  have q : spG X.K X.mg g [] H Q _ := tA_nil (tE_call h)
  refine PySem.W.callWith_K0 I.kIn hk (wpAny_call (codeAny_mono (run_G (us := []) (kws := []) (ws := []) F hgd hr tk (fun hl => by have b := hb s [] I.kIn hl; exact b) I .nil q) fun r s' hq => ?_))
  cases r with
  | error e => exact hq
  | ok fl =>
    cases fl with
    | ret u => exact hq
    | next => exact hq.elim
    | brk => exact hq.elim
    | cont => exact hq.elim
end
end Pm
/-! PmH: operators and built-ins upon data. -/
namespace Pm
open PySem PySem.Spec PyProof.Rows L2
section
variable {K : PySem.W.Frag} {mg : Str → Option Value} {W : WX} {Z H : Hp} {S : Fp} {σ : Sl} {X : Cx}
theorem tE_mono {f : M EV} {Q Q' : VK} (i : ∀ v H, Q v H → Q' v H) (h : tE K mg W f σ H Q) : tE K mg W f σ H Q' := by
  obtain ⟨Z, ρ, S, w, er, o⟩ := h
  refine ⟨Z, ρ, S, w, er, ?_⟩
  cases e : f ρ with
  | stuck => rw [e] at o; exact o
  | exc x ρ1 => rw [e] at o; exact o
  | ok ev ρ1 =>
    rw [e] at o
    exact fun v Z' H' S' Sd st dj er r => i _ _ (o v Z' H' S' Sd st dj er r)
def Opd (X : Cx) (f : Value → Value → Sem Value) (g : List D → Option D) : Prop := ∃ r : R2, OpR X f r ∧ Snd X (fun vs H Q => ∃ x y, vs = [x, y] ∧ r x y H Q) g
theorem two_of {fa fb : M EV} {r : R2} {Q : VK} (h : tA K mg W (aCons fa (aCons fb aNil)) σ H fun vs H1 => ∃ x y, vs = [x, y] ∧ r x y H1 Q) : tOp r (tE K mg W fa) (tE K mg W fb) σ H Q := by
  refine tE_mono (fun x H1 q => ?_) (tA_cons h)
  refine tE_mono (fun y H2 q => ?_) (tA_cons q)
  have q' := tA_nil q
  obtain ⟨x', y', e, q''⟩ := q'
  cases e
  exact q''
abbrev bin (g : List D → Option D) (fa fb : M EV) : M EV := app g (aCons fa (aCons fb aNil))
abbrev un (g : List D → Option D) (fa : M EV) : M EV := app g (aCons fa aNil)
theorem pe_bin {a b : Expr} {op : Operator} {fa fb : M EV} {g : List D → Option D} {pos : Pos} (ho : Opd X (binaryOp op) g) (ha : PE X a (tE X.K X.mg W fa)) (hb : PE X b (tE X.K X.mg W fb)) : PE X (.BinOp a op b pos) (tE X.K X.mg W (bin g fa fb)) := by
  obtain ⟨r, h1, h2⟩ := ho
  exact PE.of (pe_op h1 ha hb) fun σ H Q q => two_of (tE_app h2 q)
theorem pe_cmpG {a b : Expr} {op : CmpOp} {fa fb : M EV} {g : List D → Option D} {pos : Pos} (ho : Opd X (compareOp op) g) (ha : PE X a (tE X.K X.mg W fa)) (hb : PE X b (tE X.K X.mg W fb)) (hm : behindInMarks op b = false) : PE X (.Compare a [op] [b] pos) (tE X.K X.mg W (bin g fa fb)) := by
  obtain ⟨r, h1, h2⟩ := ho
  exact PE.of (pe_cmpR h1 ha hb hm) fun σ H Q q => two_of (tE_app h2 q)
theorem pt_cmpG {a b : Expr} {op : CmpOp} {fa fb : M EV} {g : List D → Option D} {pos : Pos} (ho : Opd X (compareOp op) g) (ha : PE X a (tE X.K X.mg W fa)) (hb : PE X b (tE X.K X.mg W fb)) (hm : behindInMarks op b = false) : PT X (.Compare a [op] [b] pos) (tT X.K X.mg W (tst (bin g fa fb))) := by
  obtain ⟨r, h1, h2⟩ := ho
  refine PT.of (pt_cmpR h1 ha hb hm) fun σ H Q q => ?_
  exact two_of (r := r) (tE_app h2 (tT_tst q))
theorem Opd.or {f : Value → Value → Sem Value} {g1 g2 g : List D → Option D} (h1 : Opd X f g1) (h2 : Opd X f g2) (hg : ∀ ds d, g ds = some d → g1 ds = some d ∨ g2 ds = some d) : Opd X f g := by
  obtain ⟨r1, a1, b1⟩ := h1
  obtain ⟨r2, a2, b2⟩ := h2
  refine ⟨_, OpR.or a1 a2, fun Z H S ds vs d Q w r e k => ?_⟩
  rcases hg ds d e with e | e
  · obtain ⟨x, y, ev, q⟩ := b1 Z H S ds vs d Q w r e k
    exact ⟨x, y, ev, .inl q⟩
  · obtain ⟨x, y, ev, q⟩ := b2 Z H S ds vs d Q w r e k
    exact ⟨x, y, ev, .inr q⟩
/-- nothing is made -/
theorem snd_pure {r : List V → Hp → VK → Prop} {g : List D → Option D} (h : ∀ (Z H : Hp) (S : Fp) (ds : List D) (vs : List V) (d : D) (Q : VK), Wd Z H S → RepB X.K Z H S ds vs → g ds = some d → (∀ v, Rep X.K Z H d v Fp0 → Q v H) → r vs H Q) : Snd X r g :=
  fun Z H S ds vs d Q w rb e k => h Z H S ds vs d Q w rb e fun v rv => k v Z H Fp0 w.nil (fun _ _ e => e) (fun _ _ x => x) rv
/-! ### shapes of arguments -/
theorem rb1 {d : D} {vs : List V} (h : RepB K Z H S [d] vs) : ∃ v, vs = [v] ∧ Rep K Z H d v S := by
  cases vs with
  | nil => exact h.elim
  | cons v vs =>
    cases vs with
    | nil => exact ⟨v, rfl, h.1⟩
    | cons u us => exact h.2.elim
theorem rb2 {d e : D} {vs : List V} (h : RepB K Z H S [d, e] vs) : ∃ v u, vs = [v, u] ∧ Rep K Z H d v S ∧ Rep K Z H e u S := by
  cases vs with
  | nil => exact h.elim
  | cons v vs =>
    obtain ⟨u, rfl, r⟩ := rb1 h.2
    exact ⟨v, u, rfl, h.1, r⟩
/-- two ints -/
def on2I (g : Int → Int → Option D) : List D → Option D
  | [.int i, .int j] => g i j
  | _ => none
theorem on2I_inv {g : Int → Int → Option D} {ds : List D} {d : D} (h : on2I g ds = some d) : ∃ i j, ds = [.int i, .int j] ∧ g i j = some d := by
  unfold on2I at h
  split at h
  · exact ⟨_, _, rfl, h⟩
  · cases h
theorem opd_I {f : Value → Value → Sem Value} {C : Int → Int → Prop} {hv : Int → Int → V} {g : Int → Int → Option D} (ho : OpR X f (rI C hv)) (hg : ∀ i j d, g i j = some d → C i j ∧ ∀ Z H, Rep X.K Z H d (hv i j) Fp0) : Opd X f (on2I g) := by
  refine ⟨_, ho, snd_pure fun Z H S ds vs d Q w rb e k => ?_⟩
  obtain ⟨i, j, rfl, eg⟩ := on2I_inv e
  obtain ⟨v, u, rfl, rv, ru⟩ := rb2 rb
  obtain ⟨c, rd⟩ := hg i j d eg
  exact ⟨v, u, rfl, i, j, rv, ru, c, k _ (rd Z H)⟩
theorem opd_I0 {f : Value → Value → Sem Value} {hv : Int → Int → V} {g : Int → Int → Option D} (ho : OpR X f (rI0 hv)) (hg : ∀ i j d, g i j = some d → ∀ Z H, Rep X.K Z H d (hv i j) Fp0) : Opd X f (on2I g) := by
  refine ⟨_, ho, snd_pure fun Z H S ds vs d Q w rb e k => ?_⟩
  obtain ⟨i, j, rfl, eg⟩ := on2I_inv e
  obtain ⟨v, u, rfl, rv, ru⟩ := rb2 rb
  exact ⟨v, u, rfl, i, j, rv, ru, k _ (hg i j d eg Z H)⟩
/-! ### numbers -/
def mulOk (i j : Int) : Bool := decide (i.natAbs < 2 ^ 64 ∨ j.natAbs < 2 ^ 64 ∨ i.natAbs.log2 + j.natAbs.log2 < 1000000)
def divOk (j : Int) : Bool := decide (j.natAbs.log2 < 9000)
def powOk (i j : Int) : Bool := decide (0 ≤ j ∧ j ≤ 1000000 ∧ i.natAbs < 2 ^ 64)
def iDiv (i j : Int) : Option D := if 0 < j then (if divOk j = true then some (.int (i / j)) else none) else if j < 0 then (if divOk j = true then some (.int (i.fdiv j)) else none) else none
def iMod (i j : Int) : Option D := if 0 < j then some (.int (i % j)) else if j < 0 then some (.int (i.fmod j)) else none
def iMul (i j : Int) : Option D := if mulOk i j = true then some (.int (i * j)) else none
def iPow (i j : Int) : Option D := if powOk i j = true then some (.int (i ^ j.toNat)) else none
def CDivA (i j : Int) : Prop := j ≠ 0 ∧ j.natAbs.log2 < 9000
theorem op_fdivA : OpR X (binaryOp .FloorDiv) (rI CDivA fun i j => .int (i.fdiv j)) := opI fun _ _ _ _ _ _ _ hc q => floordiv_int hc.1 q (.inl (PyProof.noPylong_of_log2 hc.2))
theorem iop_fdivA : OpR X (inplaceOp .FloorDiv) (rI CDivA fun i j => .int (i.fdiv j)) := opI fun _ _ _ _ _ _ _ hc q => ifloordiv_int hc.1 q (.inl (PyProof.noPylong_of_log2 hc.2))
theorem iop_modA : OpR X (inplaceOp .Mod) (rI (fun _ j => j ≠ 0) fun i j => .int (i.fmod j)) := opI fun _ _ _ _ _ _ _ hc q => imod_int hc q
theorem mulOk_ok {i j : Int} (h : mulOk i j = true) : IntMulOk i j := by
  have h' := of_decide_eq_true h
  rcases h' with h' | h' | h'
  · exact .of_left (intBits_le_64 (by omega) (by omega))
  · exact .of_right (intBits_le_64 (by omega) (by omega))
  · exact CMulW.ok h'
theorem op_mulA : OpR X (binaryOp .Mult) (rI IntMulOk fun i j => .int (i * j)) := opI fun _ _ _ _ _ _ _ hc q => mul_int q hc
theorem iop_mulA : OpR X (inplaceOp .Mult) (rI IntMulOk fun i j => .int (i * j)) := opI fun _ _ _ _ _ _ _ hc q => imul_int q hc
theorem iDiv_ok {i j : Int} {d : D} (h : iDiv i j = some d) : CDivA i j ∧ d = .int (i.fdiv j) := by
  unfold iDiv at h
  split at h
  · split at h
    · rename_i hj hd
      refine ⟨⟨by omega, of_decide_eq_true hd⟩, ?_⟩
      rw [Int.fdiv_eq_ediv_of_nonneg i (by omega)]
      exact (Option.some.inj h).symm
    · cases h
  · split at h
    · split at h
      · rename_i hj hd
        exact ⟨⟨by omega, of_decide_eq_true hd⟩, (Option.some.inj h).symm⟩
      · cases h
    · cases h
theorem iMod_ok {i j : Int} {d : D} (h : iMod i j = some d) : j ≠ 0 ∧ d = .int (i.fmod j) := by
  unfold iMod at h
  split at h
  · refine ⟨by omega, ?_⟩
    rw [Int.fmod_eq_emod_of_nonneg i (by omega)]
    exact (Option.some.inj h).symm
  · split at h
    · exact ⟨by omega, (Option.some.inj h).symm⟩
    · cases h
theorem iMul_ok {i j : Int} {d : D} (h : iMul i j = some d) : IntMulOk i j ∧ d = .int (i * j) := by
  unfold iMul at h
  split at h
  · rename_i c
    exact ⟨mulOk_ok c, (Option.some.inj h).symm⟩
  · cases h
theorem opd_divI : Opd X (binaryOp .FloorDiv) (on2I iDiv) := opd_I op_fdivA fun i j d h => ⟨(iDiv_ok h).1, fun Z H => by rw [(iDiv_ok h).2]; rfl⟩
theorem opd_modI : Opd X (binaryOp .Mod) (on2I iMod) := opd_I op_modN fun i j d h => ⟨(iMod_ok h).1, fun Z H => by rw [(iMod_ok h).2]; rfl⟩
theorem opd_mulI : Opd X (binaryOp .Mult) (on2I iMul) := opd_I op_mulA fun i j d h => ⟨(iMul_ok h).1, fun Z H => by rw [(iMul_ok h).2]; rfl⟩
theorem opd_powI : Opd X (binaryOp .Pow) (on2I iPow) := opd_I op_pow fun i j d h => by
  unfold iPow at h
  split at h
  · rename_i c
    refine ⟨show 0 ≤ j ∧ j ≤ 1000000 ∧ i.natAbs < 2 ^ 64 from of_decide_eq_true c, fun Z H => ?_⟩
    rw [← Option.some.inj h]
    rfl
  · cases h
def iAdd (i j : Int) : Option D := some (.int (i + j))
def iSub (i j : Int) : Option D := some (.int (i - j))
theorem opd_addI : Opd X (binaryOp .Add) (on2I iAdd) := opd_I0 op_add fun i j d h Z H => by rw [← Option.some.inj h]; rfl
theorem opd_subI : Opd X (binaryOp .Sub) (on2I iSub) := opd_I0 op_sub fun i j d h Z H => by rw [← Option.some.inj h]; rfl
theorem iopd_addI : Opd X (inplaceOp .Add) (on2I iAdd) := opd_I0 iop_add fun i j d h Z H => by rw [← Option.some.inj h]; rfl
theorem iopd_subI : Opd X (inplaceOp .Sub) (on2I iSub) := opd_I0 iop_sub fun i j d h Z H => by rw [← Option.some.inj h]; rfl
theorem iopd_divI : Opd X (inplaceOp .FloorDiv) (on2I iDiv) := opd_I iop_fdivA fun i j d h => ⟨(iDiv_ok h).1, fun Z H => by rw [(iDiv_ok h).2]; rfl⟩
theorem iopd_modI : Opd X (inplaceOp .Mod) (on2I iMod) := opd_I iop_modA fun i j d h => ⟨(iMod_ok h).1, fun Z H => by rw [(iMod_ok h).2]; rfl⟩
theorem iopd_mulI : Opd X (inplaceOp .Mult) (on2I iMul) := opd_I iop_mulA fun i j d h => ⟨(iMul_ok h).1, fun Z H => by rw [(iMul_ok h).2]; rfl⟩
def iLt (i j : Int) : Option D := some (.bl (decide (i < j)))
def iLe (i j : Int) : Option D := some (.bl (decide (i ≤ j)))
def iGt (i j : Int) : Option D := some (.bl (decide (j < i)))
def iGe (i j : Int) : Option D := some (.bl (decide (j ≤ i)))
theorem opd_ltI : Opd X (compareOp .Lt) (on2I iLt) := opd_I0 op_lt fun i j d h Z H => by rw [← Option.some.inj h]; rfl
theorem opd_leI : Opd X (compareOp .LtE) (on2I iLe) := opd_I0 op_le fun i j d h Z H => by rw [← Option.some.inj h]; rfl
theorem opd_gtI : Opd X (compareOp .Gt) (on2I iGt) := opd_I0 op_gt fun i j d h Z H => by rw [← Option.some.inj h]; rfl
theorem opd_geI : Opd X (compareOp .GtE) (on2I iGe) := opd_I0 op_ge fun i j d h Z H => by rw [← Option.some.inj h]; rfl
end
end Pm
set_option maxHeartbeats 2000000
/-! PmIa: a text and a dict compared. -/
namespace Pm
open PySem PySem.Spec PyProof.Rows L2 SeqAt
theorem str_eq_dict (b : Str) (u : Tok) (l : Addr) (es : Array DictEntry) (n : Nat) (dd : Option Addr) (sl : Array (Option Value)) :
    Meets (Builtin.«str.__eq__» ⟨[.str b u, .ref l], []⟩) (fun _ R s => s.heap.get? l = some { cls := .type "dict", dict := dd, data := .dict es n, slots := sl } ∧ R (.ok (.ret .notImplemented)) s) :=
  .of_wp fun prog w A R s h => by
    obtain ⟨hp, g, d, tk, os⟩ := s
    obtain ⟨hl, h⟩ := h
    wp_walk using wpAny_loadPart' hl, wpAny_load hl
    exact ⟨_, rfl, h⟩
theorem dict_eq_str (b : Str) (u : Tok) (l : Addr) (es : Array DictEntry) (n : Nat) (dd : Option Addr) (sl : Array (Option Value)) :
    Meets (Builtin.«dict.__eq__» ⟨[.ref l, .str b u], []⟩) (fun _ R s => s.heap.get? l = some { cls := .type "dict", dict := dd, data := .dict es n, slots := sl } ∧ R (.ok (.ret .notImplemented)) s) :=
  .of_wp fun prog w A R s h => by
    obtain ⟨hp, g, d, tk, os⟩ := s
    obtain ⟨hl, h⟩ := h
    have f1 := F.sub_str_dict
    wp_walk using wpAny_loadPart' hl, wpAny_load hl
    exact ⟨_, rfl, h⟩
theorem rc_str_dict {A : Around} {s : Shared} {l : Addr} {es : Array DictEntry} {n : Nat} {dd : Option Addr} {sl : Array (Option Value)} (b : Str) (u : Tok) (ho : s.heap.get? l = some { cls := .type "dict", dict := dd, data := .dict es n, slots := sl }) (hu : A.units < cLine) : RcAt A s (.str b u) (.ref l) false := fun prog w E Q h =>
  rc_eq_decline_or (k := false) (typeIs_str s b u) ⟨_, ho, rfl⟩ (by decide) F.sub_dict_str F.slot_str_eq F.slot_dict_eq_refl
    (fun _ hq => call_meets F.slot_str_eq (typeIs_str s b u) F.entry_str_eq (F.args_str_eq_2 _ _) (str_eq_dict b u l es n dd sl) ⟨ho, hq⟩)
    (fun _ hq => call_meets F.slot_dict_eq_refl ⟨_, ho, rfl⟩ F.entry_dict_eq (F.args_dict_eq_2 _ _) (dict_eq_str b u l es n dd sl) ⟨ho, hq⟩)
    (fun _ hq => wpAny_of_eq (rfl : isSame (.str b u) (.ref l) = pure false) hq) (.inr hu) h
def rEqSD : R2 := fun x y H Q => ∃ (b : Str) (a : Addr) (kvs : List (Key × V)), x = .str b ∧ y = .ref a ∧ Rd H a (.dK kvs) ∧ Q (.bl false) H
theorem op_eq_sd {X : Cx} (hu : X.A.units + 64 < cLine) : OpR X (compareOp .Eq) rEqSD := by
  intro pins s σ H x y v u Q I rx ry h
  obtain ⟨b, a, kvs, rfl, rfl, hr, q⟩ := h
  obtain ⟨t, rfl⟩ := rx
  cases ry
  obtain ⟨_, _, vs, _, dd⟩ := dk_rd I.hok hr
  obtain ⟨⟨cls, dx, data, sl⟩, es, ep, h1, h2, h3, h4⟩ := dd
  simp only at h2 h3
  have hc : cls = .type "dict" := h2.1
  subst hc
  subst h3
  exact rc_str_dict (A := X.A) b t h1 (by omega) _ _ X.xe _ ⟨.bl false, H, I, rfl, q⟩
end Pm
/-! PmI: equality, membership, sequences, texts, repr upon data. -/
namespace Pm
open PySem PySem.Spec PyProof.Rows L2
/-! ### data without ownership -/
mutual
def toP : D → PyData
  | .non => .none
  | .bl b => .bool b
  | .int i => .int i
  | .str x => .str x
  | .op _ => .none
  | .node _ .lst xs => .list (toPL xs)
  | .node _ .tup xs => .tuple (toPL xs)
  | .node _ _ _ => .none
def toPL : List D → List PyData
  | [] => []
  | d :: ds => toP d :: toPL ds
end
mutual
def deq : D → D → Bool
  | .non, .non => true
  | .bl a, .bl b => a == b
  | .bl a, .int j => (if a then 1 else 0) == j
  | .int i, .bl b => i == (if b then 1 else 0)
  | .int i, .int j => i == j
  | .str x, .str y => x == y
  | .node _ .lst xs, .node _ .lst ys => deqL xs ys
  | .node _ .tup xs, .node _ .tup ys => deqL xs ys
  | _, _ => false
def deqL : List D → List D → Bool
  | [], [] => true
  | x :: xs, y :: ys => deq x y && deqL xs ys
  | _, _ => false
end
/-- data that are compared and shown: at most n deep, numbers of less than 1900 bits if they are to be shown -/
def shp : Nat → D → Bool
  | _, .non => true
  | _, .bl _ => true
  | _, .int _ => true
  | _, .str x => PyData.strOk x
  | n + 1, .node _ .lst xs => xs.all (shp n)
  | n + 1, .node _ .tup xs => xs.all (shp n)
  | _, _ => false
def shw : Nat → D → Bool
  | _, .non => true
  | _, .bl _ => true
  | _, .int i => decide (i.natAbs.log2 < 1900)
  | _, .str _ => true
  | n + 1, .node _ .lst xs => xs.all (shw n)
  | n + 1, .node _ .tup xs => xs.all (shw n)
  | _, _ => false
section
variable {K : PySem.W.Frag} {mg : Str → Option Value} {W : WX} {Z H : Hp} {S : Fp} {σ : Sl} {X : Cx}
theorem rep_lst {b : Bool} {ds : List D} {v : V} (w : Sam Z H) (r : Rep K Z H (.node b .lst ds) v S) : ∃ a ys, v = .ref a ∧ H a = some (.lst ys) ∧ RepL K Z H ds ys S := by
  cases b with
  | false =>
    obtain ⟨a, ys, e, c, q⟩ := r
    exact ⟨a, ys, e, w.get _ _ c nt_lst, q⟩
  | true =>
    obtain ⟨a, ys, S', e, c, sa, na, sub, q⟩ := r
    exact ⟨a, ys, e, c, q.move (Same.refl Z) (fun _ _ _ x => x) sub⟩
theorem rep_tup {b : Bool} {ds : List D} {v : V} (w : Sam Z H) (r : Rep K Z H (.node b .tup ds) v S) : ∃ a ys, v = .ref a ∧ SqT K H a ys ∧ RepL K Z H ds ys S := by
  cases b with
  | false =>
    obtain ⟨a, ys, e, c, q⟩ := r
    exact ⟨a, ys, e, SqT.sam c w, q⟩
  | true =>
    obtain ⟨a, ys, S', e, c, sa, na, sub, q⟩ := r
    exact ⟨a, ys, e, SqT.of c, q.move (Same.refl Z) (fun _ _ _ x => x) sub⟩
theorem dp_all (w : Sam Z H) {n : Nat} (ih : ∀ (d : D) (v : V) (S : Fp), shp n d = true → Rep K Z H d v S → Dp K H v (toP d)) : ∀ {ds : List D} {vs : List V} {S : Fp}, ds.all (shp n) = true → RepL K Z H ds vs S → DpAll K H vs (toPL ds)
  | [], [], _, _, _ => .nil
  | [], _ :: _, _, _, h => h.elim
  | _ :: _, [], _, _, h => h.elim
  | d :: ds, v :: vs, S, h, ⟨S1, S2, s1, s2, dj, r, q⟩ => by
    rw [List.all_cons, Bool.and_eq_true] at h
    exact .cons (ih d v S1 h.1 r) (dp_all w ih h.2 q)
theorem dp_of (w : Sam Z H) : ∀ (n : Nat) (d : D) (v : V) (S : Fp), shp n d = true → Rep K Z H d v S → Dp K H v (toP d) := by
  intro n
  induction n with
  | zero =>
    intro d v S h r
    cases d with
    | non => obtain rfl : v = .non := r; exact .non
    | bl b => obtain rfl : v = .bl b := r; exact .bl b
    | int i => obtain rfl : v = .int i := r; exact .int i
    | str x => obtain rfl : v = .str x := r; exact .str x
    | op u => simp [shp] at h
    | node b k xs => cases k <;> simp [shp] at h
  | succ n ih =>
    intro d v S h r
    cases d with
    | non => obtain rfl : v = .non := r; exact .non
    | bl b => obtain rfl : v = .bl b := r; exact .bl b
    | int i => obtain rfl : v = .int i := r; exact .int i
    | str x => obtain rfl : v = .str x := r; exact .str x
    | op u => simp [shp] at h
    | node b k xs =>
      cases k with
      | lst =>
        obtain ⟨a, ys, rfl, c, q⟩ := rep_lst w r
        exact .lst (SqL.of c) (dp_all w ih (by simpa [shp] using h) q)
      | tup =>
        obtain ⟨a, ys, rfl, c, q⟩ := rep_tup w r
        exact .tup c (dp_all w ih (by simpa [shp] using h) q)
      | dct ks => simp [shp] at h
      | scr => simp [shp] at h
      | obj C fs => simp [shp] at h
      | ins C fs => simp [shp] at h
theorem shp_can : ∀ (n : Nat) (d : D), shp n d = true → PyData.canLay0 (toP d) = true ∧ PyData.depth (toP d) ≤ n := by
  intro n
  induction n with
  | zero =>
    intro d h
    cases d with
    | non => exact ⟨rfl, Nat.zero_le _⟩
    | bl b => exact ⟨rfl, Nat.zero_le _⟩
    | int i => exact ⟨rfl, Nat.zero_le _⟩
    | str x => exact ⟨by simpa [shp, toP, PyData.canLay0] using h, Nat.zero_le _⟩
    | op u => simp [shp] at h
    | node b k xs => cases k <;> simp [shp] at h
  | succ n ih =>
    have all : ∀ xs : List D, xs.all (shp n) = true → PyData.canLayAll0 (toPL xs) = true ∧ PyData.depthAll (toPL xs) ≤ n := by
      intro xs
      induction xs with
      | nil => intro _; exact ⟨rfl, Nat.zero_le _⟩
      | cons x xs ih2 =>
        intro h
        rw [List.all_cons, Bool.and_eq_true] at h
        obtain ⟨a1, a2⟩ := ih x h.1
        obtain ⟨b1, b2⟩ := ih2 h.2
        refine ⟨by simp only [toPL, PyData.canLayAll0, a1, b1] <;> rfl, ?_⟩
        simp only [toPL, PyData.depthAll]
        omega
    intro d h
    cases d with
    | non => exact ⟨rfl, Nat.zero_le _⟩
    | bl b => exact ⟨rfl, Nat.zero_le _⟩
    | int i => exact ⟨rfl, Nat.zero_le _⟩
    | str x => exact ⟨by simpa [shp, toP, PyData.canLay0] using h, Nat.zero_le _⟩
    | op u => simp [shp] at h
    | node b k xs =>
      cases k with
      | lst =>
        obtain ⟨a1, a2⟩ := all xs (by simpa [shp] using h)
        refine ⟨by simpa [toP, PyData.canLay0] using a1, ?_⟩
        simp only [toP, PyData.depth]
        omega
      | tup =>
        obtain ⟨a1, a2⟩ := all xs (by simpa [shp] using h)
        refine ⟨by simpa [toP, PyData.canLay0] using a1, ?_⟩
        simp only [toP, PyData.depth]
        omega
      | dct ks => simp [shp] at h
      | scr => simp [shp] at h
      | obj C fs => simp [shp] at h
      | ins C fs => simp [shp] at h
theorem eqv_all {n : Nat} (ih : ∀ d e : D, shp n d = true → shp n e = true → PyData.eqv (toP d) (toP e) = deq d e) : ∀ xs ys : List D, xs.all (shp n) = true → ys.all (shp n) = true → PyData.eqvAll (toPL xs) (toPL ys) = deqL xs ys
  | [], [], _, _ => rfl
  | [], _ :: _, _, _ => rfl
  | _ :: _, [], _, _ => rfl
  | x :: xs, y :: ys, h1, h2 => by
    rw [List.all_cons, Bool.and_eq_true] at h1 h2
    simp only [toPL, PyData.eqvAll, deqL]
    rw [ih x y h1.1 h2.1, eqv_all ih xs ys h1.2 h2.2]
theorem eqv_deq : ∀ (n : Nat) (d e : D), shp n d = true → shp n e = true → PyData.eqv (toP d) (toP e) = deq d e := by
  intro n
  induction n with
  | zero =>
    intro d e h1 h2
    cases d with
    | op u => simp [shp] at h1
    | node b k xs => cases k <;> simp [shp] at h1
    | _ =>
      cases e with
      | op u => simp [shp] at h2
      | node b k xs => cases k <;> simp [shp] at h2
      | _ => simp [toP, PyData.eqv, deq]
  | succ n ih =>
    intro d e h1 h2
    cases d with
    | op u => simp [shp] at h1
    | node b k xs =>
      cases k with
      | dct ks => simp [shp] at h1
      | scr => simp [shp] at h1
      | obj C fs => simp [shp] at h1
      | ins C fs => simp [shp] at h1
      | lst =>
        cases e with
        | op u => simp [shp] at h2
        | node b' k' ys =>
          cases k' with
          | dct ks => simp [shp] at h2
          | scr => simp [shp] at h2
          | obj C fs => simp [shp] at h2
          | ins C fs => simp [shp] at h2
          | lst =>
            simp only [toP, PyData.eqv, deq]
            exact eqv_all ih xs ys (by simpa [shp] using h1) (by simpa [shp] using h2)
          | tup => simp [toP, PyData.eqv, deq]
        | _ => simp [toP, PyData.eqv, deq]
      | tup =>
        cases e with
        | op u => simp [shp] at h2
        | node b' k' ys =>
          cases k' with
          | dct ks => simp [shp] at h2
          | scr => simp [shp] at h2
          | obj C fs => simp [shp] at h2
          | ins C fs => simp [shp] at h2
          | tup =>
            simp only [toP, PyData.eqv, deq]
            exact eqv_all ih xs ys (by simpa [shp] using h1) (by simpa [shp] using h2)
          | lst => simp [toP, PyData.eqv, deq]
        | _ => simp [toP, PyData.eqv, deq]
    | _ =>
      cases e with
      | op u => simp [shp] at h2
      | node b k xs =>
        cases k with
        | dct ks => simp [shp] at h2
        | scr => simp [shp] at h2
        | obj C fs => simp [shp] at h2
        | ins C fs => simp [shp] at h2
        | _ => simp [toP, PyData.eqv, deq]
      | _ => simp [toP, PyData.eqv, deq]
/-! ### ==, != -/
def opEqD : List D → Option D
  | [d, e] => if shp 60 d && shp 60 e then some (.bl (deq d e)) else none
  | _ => none
def opNeD : List D → Option D
  | [d, e] => if shp 60 d && shp 60 e then some (.bl (!deq d e)) else none
  | _ => none
theorem shaped_of {d : D} (h : shp 60 d = true) : SeqAt.shaped (toP d) = true := by
  obtain ⟨a, b⟩ := shp_can 60 d h
  unfold SeqAt.shaped
  rw [a, decide_eq_true (by omega : PyData.depth (toP d) ≤ 64)]
  rfl
theorem opd_eqD (hu : X.A.units + 64 < cLine) : Opd X (compareOp .Eq) opEqD := by
  refine ⟨_, op_eqD hu, snd_pure fun Z H S ds vs d Q w rb e k => ?_⟩
  unfold opEqD at e
  split at e
  · rename_i x y
    split at e
    · rename_i c
      rw [Bool.and_eq_true] at c
      obtain ⟨v, u, rfl, rv, ru⟩ := rb2 rb
      refine ⟨v, u, rfl, toP x, toP y, dp_of w.same _ _ _ _ c.1 rv, dp_of w.same _ _ _ _ c.2 ru, shaped_of c.1, shaped_of c.2, ?_⟩
      rw [eqv_deq 60 x y c.1 c.2]
      exact k _ (by rw [← Option.some.inj e]; rfl)
    · cases e
  · cases e
theorem opd_neD (hu : X.A.units + 64 < cLine) : Opd X (compareOp .NotEq) opNeD := by
  refine ⟨_, op_neD hu, snd_pure fun Z H S ds vs d Q w rb e k => ?_⟩
  unfold opNeD at e
  split at e
  · rename_i x y
    split at e
    · rename_i c
      rw [Bool.and_eq_true] at c
      obtain ⟨v, u, rfl, rv, ru⟩ := rb2 rb
      refine ⟨v, u, rfl, toP x, toP y, dp_of w.same _ _ _ _ c.1 rv, dp_of w.same _ _ _ _ c.2 ru, shaped_of c.1, shaped_of c.2, ?_⟩
      rw [eqv_deq 60 x y c.1 c.2]
      exact k _ (by rw [← Option.some.inj e]; rfl)
    · cases e
  · cases e
def opEq : List D → Option D
  | [.str x, .str y] => some (.bl (x == y))
  | [.str _, .node _ (.dct _) _] => some (.bl false)
  | ds => opEqD ds
def opNe : List D → Option D
  | [.str x, .str y] => some (.bl (!(x == y)))
  | ds => opNeD ds
def opEqS : List D → Option D
  | [.str x, .str y] => some (.bl (x == y))
  | _ => none
def opNeS : List D → Option D
  | [.str x, .str y] => some (.bl (!(x == y)))
  | _ => none
theorem opd_eqS : Opd X (compareOp .Eq) opEqS := by
  refine ⟨_, op_eq, snd_pure fun Z H S ds vs d Q w rb e k => ?_⟩
  unfold opEqS at e
  split at e
  · rename_i x y
    obtain ⟨v, u, rfl, rv, ru⟩ := rb2 rb
    obtain rfl : v = .str x := rv
    obtain rfl : u = .str y := ru
    refine ⟨_, _, rfl, rfl, ?_⟩
    cases e
    refine k _ ?_
    show V.bl (decide (V.str x = V.str y)) = V.bl (x == y)
    rw [show (x == y) = decide (x = y) from rfl]
    simp
  · cases e
theorem opd_neS : Opd X (compareOp .NotEq) opNeS := by
  refine ⟨_, op_ne, snd_pure fun Z H S ds vs d Q w rb e k => ?_⟩
  unfold opNeS at e
  split at e
  · rename_i x y
    obtain ⟨v, u, rfl, rv, ru⟩ := rb2 rb
    obtain rfl : v = .str x := rv
    obtain rfl : u = .str y := ru
    refine ⟨_, _, rfl, rfl, ?_⟩
    cases e
    refine k _ ?_
    show V.bl (!decide (V.str x = V.str y)) = V.bl (!(x == y))
    rw [show (x == y) = decide (x = y) from rfl]
    simp
  · cases e
def opEqSD : List D → Option D
  | [.str _, .node _ (.dct _) _] => some (.bl false)
  | _ => none
def opEqSS : List D → Option D
  | [.str x, .str y] => some (.bl (x == y))
  | [.str _, .node _ (.dct _) _] => some (.bl false)
  | _ => none
theorem opd_eqSD (hu : X.A.units + 64 < cLine) : Opd X (compareOp .Eq) opEqSD := by
  refine ⟨_, op_eq_sd hu, snd_pure fun Z H S ds vs d Q w rb e k => ?_⟩
  unfold opEqSD at e
  split at e
  · rename_i x o ks xs
    obtain ⟨v, u, rfl, rv, ru⟩ := rb2 rb
    obtain rfl : v = .str x := rv
    cases e
    cases o with
    | false =>
      obtain ⟨a, ys, rfl, c, rl⟩ := ru
      exact ⟨_, _, rfl, x, a, _, rfl, rfl, .inl (w.same.get _ _ c.2 nt_dK), k _ rfl⟩
    | true =>
      obtain ⟨a, ys, S', rfl, c, sa, na, sub, rl⟩ := ru
      exact ⟨_, _, rfl, x, a, _, rfl, rfl, .inl c.2, k _ rfl⟩
  · cases e
theorem opd_eqSS (hu : X.A.units + 64 < cLine) : Opd X (compareOp .Eq) opEqSS := Opd.or opd_eqS (opd_eqSD hu) fun ds d h => by
  unfold opEqSS at h
  split at h
  · exact .inl h
  · exact .inr h
  · cases h
theorem opd_eq (hu : X.A.units + 64 < cLine) : Opd X (compareOp .Eq) opEq := Opd.or (opd_eqSS hu) (opd_eqD hu) fun ds d h => by
  unfold opEq at h
  split at h
  · exact .inl h
  · exact .inl h
  · exact .inr h
theorem opd_ne (hu : X.A.units + 64 < cLine) : Opd X (compareOp .NotEq) opNe := Opd.or opd_neS (opd_neD hu) fun ds d h => by
  unfold opNe at h
  split at h
  · exact .inl h
  · exact .inr h
/-! ### is None -/
def D.isNon : D → Bool
  | .non => true
  | _ => false
def opIsN : List D → Option D
  | [d, .non] => match d with
    | .op _ => none
    | _ => some (.bl d.isNon)
  | _ => none
def opNotN : List D → Option D
  | [d, .non] => match d with
    | .op _ => none
    | _ => some (.bl (!d.isNon))
  | _ => none
theorem isNon_rep {d : D} {v : V} (h : ∀ u, d ≠ .op u) (r : Rep K Z H d v S) : decide (v = .non) = d.isNon := by
  cases d with
  | op u => exact absurd rfl (h u)
  | node b k xs =>
    have q : ∃ a, v = .ref a := by
      cases b with
      | false => obtain ⟨a, _, e, _⟩ := r; exact ⟨a, e⟩
      | true => obtain ⟨a, _, _, e, _⟩ := r; exact ⟨a, e⟩
    obtain ⟨a, rfl⟩ := q
    rfl
  | non => obtain rfl : v = .non := r; rfl
  | bl b => obtain rfl : v = .bl b := r; rfl
  | int b => obtain rfl : v = .int b := r; rfl
  | str b => obtain rfl : v = .str b := r; rfl
theorem opd_isN : Opd X (compareOp .Is) opIsN := by
  refine ⟨_, op_isN, snd_pure fun Z H S ds vs d Q w rb e k => ?_⟩
  unfold opIsN at e
  split at e
  · rename_i x
    obtain ⟨v, u, rfl, rv, ru⟩ := rb2 rb
    split at e
    · cases e
    · rename_i hx
      refine ⟨v, u, rfl, ru, ?_⟩
      rw [isNon_rep (fun u q => hx u q) rv]
      exact k _ (by rw [← Option.some.inj e]; rfl)
  · cases e
theorem opd_notN : Opd X (compareOp .IsNot) opNotN := by
  refine ⟨_, op_notN, snd_pure fun Z H S ds vs d Q w rb e k => ?_⟩
  unfold opNotN at e
  split at e
  · rename_i x
    obtain ⟨v, u, rfl, rv, ru⟩ := rb2 rb
    split at e
    · cases e
    · rename_i hx
      refine ⟨v, u, rfl, ru, ?_⟩
      rw [isNon_rep (fun u q => hx u q) rv]
      exact k _ (by rw [← Option.some.inj e]; rfl)
  · cases e
end
end Pm
/-! PmJ: items, cuts, stores, methods, built-ins. -/
namespace Pm
open PySem PySem.Spec PyProof.Rows L2
section
variable {K : PySem.W.Frag} {mg : Str → Option Value} {W : WX} {Z H : Hp} {S : Fp} {σ : Sl} {X : Cx} {A : Nat → Bool}
theorem tE_fin {fs : M (List EV)} {F : List EV → M EV} {Q : VK} {R : List V → Hp → Prop} (h : tE K mg W (bnd fs F) σ H Q)
    (hR : ∀ es ρ1 vs Z1 H1 S1 Sa, Wd Z1 H1 (fun a => S1 a ∨ Sa a) → (∀ a, S1 a → Sa a → False) → EnvR K Z1 H1 ρ1 σ S1 → EVsR K Z1 H1 σ es vs Sa → OutE K mg W Z1 H1 (fun a => S1 a ∨ Sa a) σ Q (F es ρ1) → R vs H1) : tA K mg W fs σ H R := by
  obtain ⟨Z, ρ, S, w, er, o⟩ := h
  refine ⟨Z, ρ, S, w, er, ?_⟩
  simp only [bnd] at o
  cases e1 : fs ρ with
  | stuck => rw [e1] at o; exact o
  | exc x ρ1 => rw [e1] at o; exact o
  | ok es ρ1 =>
    simp only [e1] at o
    exact fun vs Z1 H1 S1 Sa st dj er1 r1 => hR es ρ1 vs Z1 H1 S1 Sa st.wd dj er1 r1 (OutE.after st o)
theorem ev1 {e : EV} {vs : List V} (h : EVsR K Z H σ [e] vs S) : ∃ v A1, vs = [v] ∧ (∀ a, A1 a → S a) ∧ EVR K Z H σ e v A1 := by
  cases vs with
  | nil => exact h.elim
  | cons v vs =>
    obtain ⟨S1, S2, s1, s2, dj, r, q⟩ := h
    cases vs with
    | nil => exact ⟨v, S1, rfl, s1, r⟩
    | cons u us => exact q.elim
theorem ev2 {e f : EV} {vs : List V} (h : EVsR K Z H σ [e, f] vs S) : ∃ v u A1 A2, vs = [v, u] ∧ (∀ a, A1 a → S a) ∧ (∀ a, A2 a → S a) ∧ (∀ a, A1 a → A2 a → False) ∧ EVR K Z H σ e v A1 ∧ EVR K Z H σ f u A2 := by
  cases vs with
  | nil => exact h.elim
  | cons v vs =>
    obtain ⟨S1, S2, s1, s2, dj, r, q⟩ := h
    obtain ⟨u, A2, rfl, a2, ru⟩ := ev1 q
    exact ⟨v, u, S1, A2, rfl, s1, fun a x => s2 a (a2 a x), fun a x y => dj a x (a2 a y), r, ru⟩
/-! ### items -/
/-- an item: of a slot's thing it stays there, frozen; of a thing of no name it is taken out -/
def itemOf (ea : EV) (k : Int) : M EV := fun ρ => match ea with
  | .val (.node _ .lst xs) => match atI xs k with
    | some d => .ok (.val d) ρ
    | none => .stuck
  | .val (.node _ .tup xs) => match atI xs k with
    | some d => .ok (.val d) ρ
    | none => .stuck
  | .val (.str x) => if x.length ≤ cap then (match atI x.cps.toList k with
    | some c => .ok (.val (.str ⟨#[c]⟩)) ρ
    | none => .stuck) else .stuck
  | .val _ => .stuck
  | .ref j => match ρ.getD j none with
    | some (.node b .lst xs) => (match ixN xs.length k with
      | some i => match xs[i]? with
        | some d => if d.plain then .ok (.val d) ρ else .ok (.val d.frz) (ρ.set j (some (.node b .lst (xs.set i d.frz))))
        | none => .stuck
      | none => .stuck)
    | some (.node b .tup xs) => (match ixN xs.length k with
      | some i => match xs[i]? with
        | some d => if d.plain then .ok (.val d) ρ else .ok (.val d.frz) (ρ.set j (some (.node b .tup (xs.set i d.frz))))
        | none => .stuck
      | none => .stuck)
    | some (.str x) => if x.length ≤ cap then (match atI x.cps.toList k with
      | some c => .ok (.val (.str ⟨#[c]⟩)) ρ
      | none => .stuck) else .stuck
    | _ => .stuck
def idx (fs : M (List EV)) : M EV := bnd fs fun es => fun ρ => match es with
  | [ea, ei] => match peek1 ρ ei with
    | some (.int k) => itemOf ea k ρ
    | _ => .stuck
  | _ => .stuck
theorem RepL.atI {ds : List D} {vs : List V} {k : Int} {d : D} (r : RepL K Z H ds vs S) (h : L2.atI ds k = some d) : ∃ v, L2.atI vs k = some v ∧ Rep K Z H d v S := by
  unfold L2.atI at h ⊢
  rw [← r.length]
  cases e : ixN ds.length k with
  | none => rw [e] at h; cases h
  | some j =>
    rw [e] at h
    exact r.get h
/-- a frozen item put back into a thing of a slot -/
theorem item_frz {b : Bool} {k : Kd} {xs : List D} {i j : Nat} {d : D} {ρ : Env} (hk : k = .lst ∨ k = .tup) (w : Wd Z H S) (er : EnvR K Z H ρ σ S) (e : ρ.getD j none = some (.node b k xs)) (hx : xs[i]? = some d) :
    ∃ v Z' S', σ[j]? = some (some v) ∧ Step Z H S Z' H S' ∧ (∀ a, S' a → S a) ∧ EnvR K Z' H (ρ.set j (some (.node b k (xs.set i d.frz)))) σ S' ∧
      ∃ a ys y, v = .ref a ∧ Frd K H a ys k ∧ ys[i]? = some y ∧ ys.length = xs.length ∧ Rep K Z' H d.frz y Fp0 := by
  obtain ⟨v, U1, U2, hv, u1, u2, uj, ru, eu⟩ := er.take (getD_some e)
  obtain ⟨hj, ej⟩ := List.getElem?_eq_some_iff.mp hv
  have es : σ.set j (some v) = σ := by rw [← ej, List.set_getElem_self]
  have hl : j < ρ.length := by rw [er.length]; exact hj
  cases b with
  | false =>
    obtain ⟨a, ys, rfl, c, rl⟩ := ru
    obtain ⟨y, T1, T2, hy, t1, t2, tj, ry, put⟩ := rl.take hx
    have st : Step Z H S (thaw Z H T1) H (fun a => T2 a ∨ U2 a) := Step.freeze w (fun a x => u1 a (t1 a x)) (fun a x => x.elim (fun z => u1 a (t2 a z)) (u2 a)) fun a x z => x.elim (fun q => tj a z q) fun q => uj a (t1 a z) q
    have rf : Rep K (thaw Z H T1) H d.frz y Fp0 := Rep.frz ry (fun a x => w.sep a (u1 a (t1 a x))) fun _ x => x
    have hs : ys.set i y = ys := by
      obtain ⟨hi, ei⟩ := List.getElem?_eq_some_iff.mp hy
      rw [← ei, List.set_getElem_self]
    have pl := put (thaw Z H T1) H d.frz y Fp0 T2 st.zz (fun _ _ _ x => x) rf (fun _ x => x.elim) (fun _ x => x) fun _ x _ => x
    rw [hs] at pl
    have rn : Rep K (thaw Z H T1) H (.node false k (xs.set i d.frz)) (.ref a) T2 := ⟨a, ys, rfl, c.same st.zz, pl⟩
    have q := EnvR.put (S := fun a => T2 a ∨ U2 a) (eu.move st.zz (fun _ _ _ x => x) fun _ x => x) hl rn (fun _ x => .inl x) (fun _ x => .inr x) fun a x z => uj a (t2 a x) z
    rw [es] at q
    exact ⟨.ref a, _, _, hv, st, fun a x => x.elim (fun z => u1 a (t2 a z)) (u2 a), q, a, ys, y, rfl, c.sam w.same, hy, rl.length.symm, rf⟩
  | true =>
    obtain ⟨a, ys, U', rfl, c, sa, na, sub, rl⟩ := ru
    obtain ⟨y, T1, T2, hy, t1, t2, tj, ry, put⟩ := rl.take hx
    have st : Step Z H S (thaw Z H T1) H (fun b => (b = a ∨ T2 b) ∨ U2 b) := Step.freeze w (fun b x => u1 b (sub b (t1 b x))) (fun b x => x.elim (fun z => z.elim (fun q => by rw [q]; exact u1 a sa) fun q => u1 b (sub b (t2 b q))) (u2 b)) fun b x z => x.elim (fun q => q.elim (fun p => na (by rw [← p]; exact t1 b z)) fun p => tj b z p) fun q => uj b (sub b (t1 b z)) q
    have rf : Rep K (thaw Z H T1) H d.frz y Fp0 := Rep.frz ry (fun b x => w.sep b (u1 b (sub b (t1 b x)))) fun _ x => x
    have hs : ys.set i y = ys := by
      obtain ⟨hi, ei⟩ := List.getElem?_eq_some_iff.mp hy
      rw [← ei, List.set_getElem_self]
    have pl := put (thaw Z H T1) H d.frz y Fp0 T2 st.zz (fun _ _ _ x => x) rf (fun _ x => x.elim) (fun _ x => x) fun _ x _ => x
    rw [hs] at pl
    have rn : Rep K (thaw Z H T1) H (.node true k (xs.set i d.frz)) (.ref a) (fun b => b = a ∨ T2 b) := ⟨a, ys, T2, rfl, c, .inl rfl, fun x => na (t2 a x), fun b x => .inr x, pl⟩
    have q := EnvR.put (S := fun b => (b = a ∨ T2 b) ∨ U2 b) (eu.move st.zz (fun _ _ _ x => x) fun _ x => x) hl rn (fun _ x => .inl x) (fun _ x => .inr x) fun b x z => x.elim (fun p => uj a sa (by rw [← p]; exact z)) fun p => uj b (sub b (t2 b p)) z
    rw [es] at q
    exact ⟨.ref a, _, _, hv, st, fun b x => x.elim (fun z => z.elim (fun q => by rw [q]; exact u1 a sa) fun q => u1 b (sub b (t2 b q))) (u2 b), q, a, ys, y, rfl, (c.frd (K := K)), hy, rl.length.symm, rf⟩
theorem tE_idx {fs : M (List EV)} {Q : VK} (h : tE K mg W (idx fs) σ H Q) : tA K mg W fs σ H fun vs H1 => ∃ x y, vs = [x, y] ∧ rIx K x y H1 Q := by
  refine tE_fin h fun es ρ1 vs Z1 H1 S1 Sa w dj er1 r1 o => ?_
  split at o
  · rename_i ea ei
    obtain ⟨x, y, A1, A2, rfl, a1, a2, aj, rx, ry⟩ := ev2 r1
    split at o
    · rename_i k hk
      have hy : y = .int k := peek1_rep er1 ry hk
      subst hy
      refine ⟨x, .int k, rfl, ?_⟩
      have w1 : Step Z1 H1 (fun a => S1 a ∨ Sa a) Z1 H1 (fun a => S1 a ∨ A1 a) := (Step.refl w).less fun a z => z.elim .inl fun t => .inr (a1 a t)
      have w0 : Step Z1 H1 (fun a => S1 a ∨ Sa a) Z1 H1 (fun a => S1 a ∨ Fp0 a) := (Step.refl w).less fun a z => z.elim .inl False.elim
      have d1 : ∀ a, S1 a → A1 a → False := fun a p q => dj a p (a1 a q)
      unfold itemOf at o
      split at o
      · rename_i b xs
        split at o
        · rename_i d hd
          obtain ⟨a, ys, rfl, c, rl⟩ := rep_lst w.same rx
          obtain ⟨v, hv, rv⟩ := rl.atI hd
          exact .inl ⟨a, ys, k, v, rfl, rfl, SqL.of c, hv, o v Z1 H1 S1 A1 w1 d1 er1 rv⟩
        · exact o.elim
      · rename_i b xs
        split at o
        · rename_i d hd
          obtain ⟨a, ys, rfl, c, rl⟩ := rep_tup w.same rx
          obtain ⟨v, hv, rv⟩ := rl.atI hd
          exact .inr (.inl ⟨a, ys, k, v, rfl, rfl, c, hv, o v Z1 H1 S1 A1 w1 d1 er1 rv⟩)
        · exact o.elim
      · rename_i z
        split at o
        · rename_i hz
          split at o
          · rename_i c hc
            obtain rfl : x = .str z := rx
            exact .inr (.inr ⟨z, k, c, rfl, rfl, cap_le hz, hc, o _ Z1 H1 S1 Fp0 w0 (fun _ _ x => x) er1 rfl⟩)
          · exact o.elim
        · exact o.elim
      · exact o.elim
      · rename_i j
        have hx : σ[j]? = some (some x) := rx
        split at o
        · rename_i b xs he
          split at o
          · rename_i i hi
            split at o
            · rename_i d hd
              split at o
              · rename_i hp
                have rn := peek1_rep (v := x) (Sa := Fp0) er1 (e := .ref j) hx (show peek1 ρ1 (.ref j) = _ from he)
                obtain ⟨a, ys, rfl, c, rl⟩ := rep_lst w.same rn
                obtain ⟨v, hv, rv⟩ := rl.get hd
                refine .inl ⟨a, ys, k, v, rfl, rfl, SqL.of c, ?_, o v Z1 H1 S1 Fp0 w0 (fun _ _ x => x) er1 (rv.plain hp)⟩
                unfold L2.atI
                rw [← rl.length, hi]
                exact hv
              · have wS : Wd Z1 H1 S1 := w.less fun a z => .inl z
                obtain ⟨v, Z2, S2, hv, st, m, er2, a, ys, y, rfl, c, hy, hl, ry2⟩ := item_frz (.inl rfl) wS er1 he hd
                rw [hv] at hx
                cases hx
                refine .inl ⟨a, ys, k, y, rfl, rfl, SqL.of c, ?_, o y Z2 H1 S2 Fp0 ((w1.less fun a z => .inl z).trans (st.less fun a z => z.elim id False.elim)) (fun _ _ x => x) er2 ry2⟩
                unfold L2.atI
                rw [hl, hi]
                exact hy
            · exact o.elim
          · exact o.elim
        · rename_i b xs he
          split at o
          · rename_i i hi
            split at o
            · rename_i d hd
              split at o
              · rename_i hp
                have rn := peek1_rep (v := x) (Sa := Fp0) er1 (e := .ref j) hx (show peek1 ρ1 (.ref j) = _ from he)
                obtain ⟨a, ys, rfl, c, rl⟩ := rep_tup w.same rn
                obtain ⟨v, hv, rv⟩ := rl.get hd
                refine .inr (.inl ⟨a, ys, k, v, rfl, rfl, c, ?_, o v Z1 H1 S1 Fp0 w0 (fun _ _ x => x) er1 (rv.plain hp)⟩)
                unfold L2.atI
                rw [← rl.length, hi]
                exact hv
              · have wS : Wd Z1 H1 S1 := w.less fun a z => .inl z
                obtain ⟨v, Z2, S2, hv, st, m, er2, a, ys, y, rfl, c, hy, hl, ry2⟩ := item_frz (.inr rfl) wS er1 he hd
                rw [hv] at hx
                cases hx
                refine .inr (.inl ⟨a, ys, k, y, rfl, rfl, c, ?_, o y Z2 H1 S2 Fp0 ((w1.less fun a z => .inl z).trans (st.less fun a z => z.elim id False.elim)) (fun _ _ x => x) er2 ry2⟩)
                unfold L2.atI
                rw [hl, hi]
                exact hy
            · exact o.elim
          · exact o.elim
        · rename_i z he
          split at o
          · rename_i hz
            split at o
            · rename_i c hc
              have rn : x = .str z := peek1_rep (v := x) (Sa := Fp0) er1 (e := .ref j) hx (show peek1 ρ1 (.ref j) = _ from he)
              subst rn
              exact .inr (.inr ⟨z, k, c, rfl, rfl, cap_le hz, hc, o _ Z1 H1 S1 Fp0 w0 (fun _ _ x => x) er1 rfl⟩)
            · exact o.elim
          · exact o.elim
        · exact o.elim
    · exact o.elim
  · exact o.elim
theorem pe_idx {a b : Expr} {fa fb : M EV} {pos : Pos} (ha : PE X a (tE X.K X.mg W fa)) (hb : PE X b (tE X.K X.mg W fb)) (hs : PlainIx b) : PE X (.Subscript a b pos) (tE X.K X.mg W (idx (aCons fa (aCons fb aNil)))) :=
  PE.of (pe_ix ix_seq ha hb hs) fun σ H Q q => two_of (tE_idx q)
end
end Pm
/-! PmK: operations that share what they are given, cuts, stores, built-ins. -/
namespace Pm
open PySem PySem.Spec PyProof.Rows L2
/-- what is in it is plain -/
def D.shal : D → Bool
  | .node _ _ xs => plainL xs
  | _ => true
section
variable {K : PySem.W.Frag} {mg : Str → Option Value} {W : WX} {Z H : Hp} {S : Fp} {σ : Sl} {X : Cx} {A : Nat → Bool}
/-- an operation whose result shares the items of what it is given: they are frozen first, if they are not plain -/
def appF (g : List D → Option D) (fs : M (List EV)) : M EV := bnd fs fun es => fun ρ => match peeks ρ es with
  | some ds => if ds.all D.shal then (match g ds with
      | some d => .ok (.val d) ρ
      | none => .stuck)
    else match useL es ρ with
      | .ok ds' ρ' => (match g (frzL ds') with
        | some d => .ok (.val d) ρ'
        | none => .stuck)
      | _ => .stuck
  | none => .stuck
theorem RepL.toB : ∀ {ds : List D} {vs : List V} {S : Fp}, RepL K Z H ds vs S → RepB K Z H S ds vs
  | [], [], _, _ => trivial
  | [], _ :: _, _, h => h.elim
  | _ :: _, [], _, h => h.elim
  | _ :: _, _ :: _, _, ⟨_, _, s1, s2, _, r, q⟩ => ⟨r.move (Same.refl Z) (fun _ _ _ x => x) s1, (RepL.toB q).more s2⟩
theorem tE_appF {r : List V → Hp → VK → Prop} {g : List D → Option D} {fs : M (List EV)} {Q : VK} (hs : Snd X r g) (h : tE X.K X.mg W (appF g fs) σ H Q) : tA X.K X.mg W fs σ H fun vs H1 => r vs H1 Q := by
  refine tE_fin h fun es ρ1 vs Z1 H1 S1 Sa w dj er1 r1 o => ?_
  split at o
  · rename_i ds hp
    split at o
    · split at o
      · rename_i d hd
        refine hs Z1 H1 _ ds vs d Q w (peeks_rep er1 r1 hp) hd fun v Z2 H2 Sd st2 sm dj2 rd => ?_
        exact o v Z2 H2 S1 Sd (st2.less fun a x => x.elim (fun y => .inl (.inl y)) .inr) (fun a x y => dj2 a (.inl x) y) (er1.move st2.zz (fun a ob _ e => sm a ob e) fun _ x => x) rd
      · exact o.elim
    · split at o
      · rename_i ds' ρ2 hu
        split at o
        · rename_i d hd
          have w1 : Wd Z1 H1 (fun a => (S1 a ∨ Sa a) ∨ Fp0 a) := w.less fun a x => x.elim id False.elim
          obtain ⟨Z2, S2, st2, m2, er2, r2⟩ := useL_ok w1 dj (fun _ _ x => x) er1 r1 hu
          have st2' : Step Z1 H1 (fun a => S1 a ∨ Sa a) Z2 H1 (fun a => S2 a ∨ Sa a) := ⟨st2.wd.less fun a x => .inl x, st2.zz, fun a o n e _ => e, fun a x => .inl (x.elim (fun y => .inl (m2 a y)) .inr), fun a o e => (st2.znew a o e).elim .inl fun y => .inr (y.elim (fun z => z.elim .inl False.elim) .inr)⟩
          have w2 := st2'.wd
          have st3 : Step Z2 H1 (fun a => S2 a ∨ Sa a) (thaw Z2 H1 Sa) H1 S2 := Step.freeze w2 (fun a x => .inr x) (fun a x => .inl x) fun a x y => dj a (m2 a x) y
          have r3 : RepL X.K (thaw Z2 H1 Sa) H1 (frzL ds') vs Fp0 := RepL.frz (S := Sa) r2 (fun a x => w2.sep a (.inr x)) fun _ x => x
          refine hs (thaw Z2 H1 Sa) H1 S2 (frzL ds') vs d Q st3.wd (r3.toB.more fun _ x => x.elim) hd fun v Z4 H4 Sd st4 sm dj4 rd => ?_
          exact o v Z4 H4 S2 Sd ((st2'.trans st3).trans st4) dj4 (er2.move (st3.zz.trans st4.zz) (fun a ob _ e => sm a ob e) fun _ x => x) rd
        · exact o.elim
      · exact o.elim
  · exact o.elim
/-- made anew: a list, a tuple of plain items -/
theorem fresh_lst {ds : List D} {vs : List V} {p : Addr} (w : Wd Z H S) (hp : H p = none) (r : RepL K Z H ds vs Fp0) :
    Step Z H S Z (upd H p (.lst vs)) (fun a => S a ∨ a = p) ∧ (∀ a o, H a = some o → upd H p (.lst vs) a = some o) ∧ (∀ a, S a → a = p → False) ∧ Rep K Z (upd H p (.lst vs)) (.lst true ds) (.ref p) (fun a => a = p) :=
  ⟨Step.alloc w hp, fun a o e => by rw [upd_ne (ne_of_none e hp)]; exact e, fun a s e => w.dom a s (by rw [e]; exact hp), ⟨p, vs, Fp0, rfl, upd_same, rfl, fun x => x, fun _ x => x.elim, r.move (Same.refl Z) (fun _ _ x => x.elim) fun _ x => x⟩⟩
theorem fresh_tup {ds : List D} {vs : List V} {p : Addr} (w : Wd Z H S) (hp : H p = none) (r : RepL K Z H ds vs Fp0) :
    Step Z H S (upd Z p (.tup vs)) (upd H p (.tup vs)) (fun a => S a ∨ Fp0 a) ∧ (∀ a o, H a = some o → upd H p (.tup vs) a = some o) ∧ Rep K (upd Z p (.tup vs)) (upd H p (.tup vs)) (.tup ds) (.ref p) Fp0 := by
  have st := Step.allocZ (o := .tup vs) w hp
  exact ⟨st.less fun a x => x.elim id False.elim, fun a o e => by rw [upd_ne (ne_of_none e hp)]; exact e, p, vs, rfl, SqT.of upd_same, r.move st.zz (fun _ _ x => x.elim) fun _ x => x⟩
/-! ### cuts -/
/-- a part of a slice -/
def optI : EV → Env → Option (Option Int) := fun e ρ => match peek1 ρ e with
  | some (.int i) => some (some i)
  | _ => none
def cutD (xs : List D) (lo hi : Option Int) : List D := (xs.drop (HT.sIx xs.length 0 lo)).take (HT.sIx xs.length xs.length hi - HT.sIx xs.length 0 lo)
def gCut (lo hi : Option Int) : D → Option D
  | .node _ .lst xs => if plainL xs then some (.lst true (cutD xs lo hi)) else none
  | .node _ .scr xs => if plainL xs then some (.lst true (cutD xs lo hi)) else none
  | .node false .tup xs => if plainL xs then some (.tup (cutD xs lo hi)) else none
  | .str x => if x.length ≤ cap then some (.str (cutS x lo hi)) else none
  | _ => none
theorem RepL.cut {ds : List D} {vs : List V} (r : RepL K Z H ds vs S) (p : plainL ds = true) (lo hi : Option Int) : RepL K Z H (cutD ds lo hi) (cutV vs lo hi) Fp0 := by
  have rp : RepL K Z H ds vs Fp0 := r.plain p
  have drop : ∀ (n : Nat) {ds : List D} {vs : List V}, RepL K Z H ds vs Fp0 → RepL K Z H (ds.drop n) (vs.drop n) Fp0 := by
    intro n
    induction n with
    | zero => exact fun r => r
    | succ n ih =>
      intro ds vs r
      cases ds with
      | nil => cases vs with
        | nil => trivial
        | cons => exact r.elim
      | cons d ds => cases vs with
        | nil => exact r.elim
        | cons v vs =>
          obtain ⟨_, _, _, s2, _, _, q⟩ := r
          exact ih (q.move (Same.refl Z) (fun _ _ _ x => x) s2)
  have take : ∀ (n : Nat) {ds : List D} {vs : List V}, RepL K Z H ds vs Fp0 → RepL K Z H (ds.take n) (vs.take n) Fp0 := by
    intro n
    induction n with
    | zero => exact fun _ => by simp only [List.take_zero]; trivial
    | succ n ih =>
      intro ds vs r
      cases ds with
      | nil => cases vs with
        | nil => trivial
        | cons => exact r.elim
      | cons d ds => cases vs with
        | nil => exact r.elim
        | cons v vs =>
          obtain ⟨_, _, s1, s2, _, r1, q⟩ := r
          exact ⟨Fp0, Fp0, fun _ x => x, fun _ x => x, fun _ x _ => x, r1.move (Same.refl Z) (fun _ _ _ x => x) s1, ih (q.move (Same.refl Z) (fun _ _ _ x => x) s2)⟩
  have e := r.length
  unfold cutD cutV
  rw [e]
  exact take _ (drop _ rp)
/-- o[lo:hi]; the parts are ints or left out -/
def cut (f : M EV) (lo hi : Option (M EV)) : M EV := bnd f fun e =>
  bnd (match lo with
    | none => ret none
    | some m => bnd m fun el => fun ρ => match peek1 ρ el with
      | some (.int i) => .ok (some i) ρ
      | _ => .stuck) fun l =>
  bnd (match hi with
    | none => ret none
    | some m => bnd m fun eh => fun ρ => match peek1 ρ eh with
      | some (.int i) => .ok (some i) ρ
      | _ => .stuck) fun h => fun ρ => match peek1 ρ e with
    | some d => match gCut l h d with
      | some d' => .ok (.val d') ρ
      | none => .stuck
    | none => .stuck
def OutO (K : PySem.W.Frag) (mg : Str → Option Value) (W : WX) (Z H : Hp) (S : Fp) (σ : Sl) (Q : Option Int → Hp → Prop) : Res (Option Int) → Prop
  | .stuck => False
  | .ok b ρ' => ∀ Z' H' S', Step Z H S Z' H' S' → EnvR K Z' H' ρ' σ S' → Q b H'
  | .exc x ρ' => XOut K mg W Z H S σ x ρ'
def tO (K : PySem.W.Frag) (mg : Str → Option Value) (W : WX) (f : M (Option Int)) : TO := fun σ H Q => ∃ Z ρ S, Wd Z H S ∧ EnvR K Z H ρ σ S ∧ OutO K mg W Z H S σ Q (f ρ)
def partO (o : Option (M EV)) : M (Option Int) := match o with
    | none => ret none
    | some m => bnd m fun el => fun ρ => match peek1 ρ el with
      | some (.int i) => .ok (some i) ρ
      | _ => .stuck
theorem PO.of {e : Option Expr} {t t' : TO} (h : PO X e t) (i : ∀ σ H Q, t' σ H Q → t σ H Q) : PO X e t' := ⟨fun p s σ H R I q => h.run p s σ H R I (i σ H R q)⟩
theorem tO_none {Q : Option Int → Hp → Prop} (h : tO K mg W (partO none) σ H Q) : tNoPart σ H Q := by
  obtain ⟨Z, ρ, S, w, er, o⟩ := h
  exact o Z H S (Step.refl w) er
theorem tO_some {f : M EV} {Q : Option Int → Hp → Prop} (h : tO K mg W (partO (some f)) σ H Q) : tPart (tE K mg W f) σ H Q := by
  obtain ⟨Z, ρ, S, w, er, o⟩ := h
  refine ⟨Z, ρ, S, w, er, ?_⟩
  simp only [partO, bnd] at o
  cases e1 : f ρ with
  | stuck => rw [e1] at o; exact o
  | exc x ρ1 => rw [e1] at o; exact o
  | ok ev ρ1 =>
    simp only [e1] at o
    intro v Z1 H1 S1 Sa st1 dj1 er1 r1
    split at o
    · rename_i i hi
      exact ⟨i, peek1_rep er1 r1 hi, o Z1 H1 S1 (st1.less fun a x => .inl x) er1⟩
    · exact o.elim
theorem po_N : PO X none (tO X.K X.mg W (partO none)) := PO.of po_none fun _ _ _ q => tO_none q
theorem po_S {e : Expr} {f : M EV} (h : PE X e (tE X.K X.mg W f)) : PO X (some e) (tO X.K X.mg W (partO (some f))) := PO.of (po_some h) fun _ _ _ q => tO_some q
def rCutAll (K : PySem.W.Frag) : V → Option Int → Option Int → Hp → VK → Prop := fun x lo hi H Q => rSlL K x lo hi H Q ∨ rSlA K x lo hi H Q ∨ rSlS x lo hi H Q
theorem tE_cut {f : M EV} {lo hi : Option (M EV)} {Q : VK} (h : tE K mg W (cut f lo hi) σ H Q) : tSl (fun x l u H Q => rSlL K x l u H Q ∨ rSlA K x l u H Q ∨ rSlS x l u H Q) (tE K mg W f) (tO K mg W (partO lo)) (tO K mg W (partO hi)) σ H Q := by
  have h' : tE K mg W (bnd f fun e => bnd (partO lo) fun l => bnd (partO hi) fun h => fun ρ => match peek1 ρ e with
    | some d => match gCut l h d with
      | some d' => .ok (.val d') ρ
      | none => .stuck
    | none => .stuck) σ H Q := h
  obtain ⟨Z, ρ, S, w, er, o⟩ := h'
  refine ⟨Z, ρ, S, w, er, ?_⟩
  simp only [bnd] at o
  cases e1 : f ρ with
  | stuck => rw [e1] at o; exact o
  | exc x ρ1 => rw [e1] at o; exact o
  | ok ev ρ1 =>
    simp only [e1] at o
    intro v Z1 H1 S1 Sa st1 dj1 er1 r1
    refine ⟨Z1, ρ1, S1, st1.wd.less fun a x => .inl x, er1, ?_⟩
    cases e2 : partO lo ρ1 with
    | stuck => simp only [e2] at o; exact o
    | exc x ρ2 => simp only [e2] at o; exact o.behind st1 dj1
    | ok l ρ2 =>
      simp only [e2] at o
      intro Z2 H2 S2 st2 er2
      refine ⟨Z2, ρ2, S2, st2.wd, er2, ?_⟩
      have st12 := st1.trans (st2.frame st1.wd dj1)
      have ap2 := st2.apart (fun a x => st1.wd.live a (.inr x)) dj1
      cases e3 : partO hi ρ2 with
      | stuck => simp only [e3] at o; exact o
      | exc x ρ3 => simp only [e3] at o; exact o.behind st12 ap2
      | ok u ρ3 =>
        simp only [e3] at o
        intro Z3 H3 S3 st3 er3
        have st13 := st12.trans (st3.frame st12.wd ap2)
        have ap3 := st3.apart (fun a x => st12.wd.live a (.inr x)) ap2
        have r3 : EVR K Z3 H3 σ ev v Sa := (r1.stay st2 dj1).stay st3 ap2
        have w3 := st13.wd
        split at o
        · rename_i d hd
          have rd := peek1_rep er3 r3 hd
          split at o
          · rename_i d' hc
            have o1 := OutE.after st13 (r := .ok (.val d') ρ3) o
            have fin : ∀ v' H' Z' Sd, Step Z3 H3 (fun a => S3 a ∨ Sa a) Z' H' (fun a => (S3 a ∨ Sa a) ∨ Sd a) → (∀ a o, H3 a = some o → H' a = some o) → (∀ a, (S3 a ∨ Sa a) → Sd a → False) → Rep K Z' H' d' v' Sd → Q v' H' := fun v' H' Z' Sd st sm dj r =>
              o1 v' Z' H' S3 Sd (st.less fun a x => x.elim (fun y => .inl (.inl y)) .inr) (fun a x y => dj a (.inl x) y) (er3.move st.zz (fun a ob _ e => sm a ob e) fun _ x => x) r
            unfold gCut at hc
            split at hc
            · rename_i b xs
              split at hc
              · rename_i hp
                cases hc
                obtain ⟨a, ys, rfl, c, rl⟩ := rep_lst w3.same rd
                refine .inl ⟨a, ys, rfl, SqL.of c, fun p np => ?_⟩
                obtain ⟨f1, f2, f3, f4⟩ := fresh_lst w3 np (rl.cut hp l u)
                exact fin _ _ _ _ f1 f2 f3 f4
              · cases hc
            · rename_i b xs
              split at hc
              · rename_i hp
                cases hc
                cases b with
                | true => obtain ⟨_, _, _, _, c, _⟩ := rd; exact c.elim
                | false =>
                  obtain ⟨a, ys, rfl, c, rl⟩ := rd
                  refine .inl ⟨a, ys, rfl, Sam.seq w3.same c, fun p np => ?_⟩
                  obtain ⟨f1, f2, f3, f4⟩ := fresh_lst w3 np (rl.cut hp l u)
                  exact fin _ _ _ _ f1 f2 f3 f4
              · cases hc
            · rename_i xs
              split at hc
              · rename_i hp
                cases hc
                have rd0 : Rep K Z3 H3 (.tup xs) v Fp0 := Rep.plain rd (by simp [D.plain, hp])
                obtain ⟨a, ys, rfl, c, rl⟩ := rep_tup w3.same rd0
                have el := rl.length
                refine .inr (.inl ⟨a, ys, rfl, c, fun hw => ?_, fun hw p np => ?_⟩)
                · have e : cutD xs l u = xs := by
                    unfold cutD
                    rw [← el] at hw
                    rw [hw.1, hw.2, List.drop_zero, Nat.sub_zero, List.take_length]
                  rw [e] at fin
                  exact fin _ _ _ Fp0 w3.nil (fun _ _ e => e) (fun _ _ x => x) rd0
                · obtain ⟨f1, f2, f3⟩ := fresh_tup w3 np (rl.cut hp l u)
                  exact fin _ _ _ _ f1 f2 (fun _ _ x => x) f3
              · cases hc
            · rename_i z
              split at hc
              · rename_i hz
                cases hc
                obtain rfl : v = .str z := rd
                exact .inr (.inr ⟨z, rfl, cap_le hz, fin _ _ _ Fp0 w3.nil (fun _ _ e => e) (fun _ _ x => x) rfl⟩)
              · cases hc
            · cases hc
          · exact o.elim
        · exact o.elim
end
end Pm
/-! PmL: built-ins, stores into lists, methods of lists, ranges. -/
namespace Pm
open PySem PySem.Spec PyProof.Rows L2
section
variable {K : PySem.W.Frag} {mg : Str → Option Value} {W : WX} {Z H : Hp} {S : Fp} {σ : Sl} {X : Cx} {A : Nat → Bool}
/-! ### built-in functions -/
theorem pe_blt {x : Str} {id : String} {p pos : Pos} {e : Expr} {es : List Expr} {fs : M (List EV)} {r : List V → Hp → VK → Prop} {g : List D → Option D} (hs : Snd X r g) (hc : CallR X (.builtin id) r) (hg : Gl X x) (hm : X.mg x = none) (hv : bootBuiltins x = some (.builtin id))
    (ha : PA X (e :: es) (tA X.K X.mg W fs)) (hn : x ≠ "__name__") (hdb : (x == ("__debug__" : Str)) = false) (he : starEach (e :: es) X.env = (false, eval e X.env) :: starEach es X.env) (hpl : (backTo pos (starEach es X.env)).any (·.1) = false) :
    PE X (.Call (.Name x p) (e :: es) [] pos) (tE X.K X.mg W (app g fs)) := PE.of (pe_callB hc hg hm hv ha hn hdb he hpl) fun σ H Q q => tE_app hs q
theorem pe_bltF {x : Str} {id : String} {p pos : Pos} {e : Expr} {es : List Expr} {fs : M (List EV)} {r : List V → Hp → VK → Prop} {g : List D → Option D} (hs : Snd X r g) (hc : CallR X (.builtin id) r) (hg : Gl X x) (hm : X.mg x = none) (hv : bootBuiltins x = some (.builtin id))
    (ha : PA X (e :: es) (tA X.K X.mg W fs)) (hn : x ≠ "__name__") (hdb : (x == ("__debug__" : Str)) = false) (he : starEach (e :: es) X.env = (false, eval e X.env) :: starEach es X.env) (hpl : (backTo pos (starEach es X.env)).any (·.1) = false) :
    PE X (.Call (.Name x p) (e :: es) [] pos) (tE X.K X.mg W (appF g fs)) := PE.of (pe_callB hc hg hm hv ha hn hdb he hpl) fun σ H Q q => tE_appF hs q
theorem pe_bty {x : Str} {T : String} {p pos : Pos} {e : Expr} {es : List Expr} {fs : M (List EV)} {r : List V → Hp → VK → Prop} {g : List D → Option D} (hs : Snd X r g) (hc : CallR X (.type T) r) (hg : Gl X x) (hm : X.mg x = none) (hv : bootBuiltins x = some (.type T))
    (ha : PA X (e :: es) (tA X.K X.mg W fs)) (hn : x ≠ "__name__") (hdb : (x == ("__debug__" : Str)) = false) (he : starEach (e :: es) X.env = (false, eval e X.env) :: starEach es X.env) (hpl : (backTo pos (starEach es X.env)).any (·.1) = false) :
    PE X (.Call (.Name x p) (e :: es) [] pos) (tE X.K X.mg W (app g fs)) := PE.of (pe_callTy hc hg hm hv ha hn hdb he hpl) fun σ H Q q => tE_app hs q
theorem pe_btyF {x : Str} {T : String} {p pos : Pos} {e : Expr} {es : List Expr} {fs : M (List EV)} {r : List V → Hp → VK → Prop} {g : List D → Option D} (hs : Snd X r g) (hc : CallR X (.type T) r) (hg : Gl X x) (hm : X.mg x = none) (hv : bootBuiltins x = some (.type T))
    (ha : PA X (e :: es) (tA X.K X.mg W fs)) (hn : x ≠ "__name__") (hdb : (x == ("__debug__" : Str)) = false) (he : starEach (e :: es) X.env = (false, eval e X.env) :: starEach es X.env) (hpl : (backTo pos (starEach es X.env)).any (·.1) = false) :
    PE X (.Call (.Name x p) (e :: es) [] pos) (tE X.K X.mg W (appF g fs)) := PE.of (pe_callTy hc hg hm hv ha hn hdb he hpl) fun σ H Q q => tE_appF hs q
/-! #### len -/
def opLen : List D → Option D
  | [.node _ .lst xs] => some (.int xs.length)
  | [.node _ .tup xs] => some (.int xs.length)
  | [.node _ .scr xs] => some (.int xs.length)
  | [.str x] => if x.length ≤ cap then some (.int x.length) else none
  | _ => none
theorem snd_len : Snd X (fun xs H Q => (∃ p ys, xs = [.ref p] ∧ (SqL X.K H p ys ∨ SqT X.K H p ys) ∧ Q (.int ys.length) H) ∨ (∃ z, xs = [.str z] ∧ z.length ≤ sizeLine ∧ Q (.int z.length) H)) opLen := by
  refine snd_pure fun Z H S ds vs d Q w rb e k => ?_
  unfold opLen at e
  split at e
  · obtain ⟨v, rfl, rv⟩ := rb1 rb
    obtain ⟨a, ys, rfl, c, rl⟩ := rep_lst w.same rv
    cases e
    exact .inl ⟨a, ys, rfl, .inl (SqL.of c), k _ (by rw [← rl.length]; rfl)⟩
  · obtain ⟨v, rfl, rv⟩ := rb1 rb
    obtain ⟨a, ys, rfl, c, rl⟩ := rep_tup w.same rv
    cases e
    exact .inl ⟨a, ys, rfl, .inr c, k _ (by rw [← rl.length]; rfl)⟩
  · rename_i b xs
    obtain ⟨v, rfl, rv⟩ := rb1 rb
    cases b with
    | true => obtain ⟨_, _, _, _, c, _⟩ := rv; exact c.elim
    | false =>
      obtain ⟨a, ys, rfl, c, rl⟩ := rv
      cases e
      exact .inl ⟨a, ys, rfl, .inl (Sam.seq w.same c), k _ (by rw [← rl.length]; rfl)⟩
  · split at e
    · rename_i z hz
      obtain ⟨v, rfl, rv⟩ := rb1 rb
      obtain rfl : v = .str z := rv
      cases e
      exact .inr ⟨z, rfl, cap_le hz, k _ rfl⟩
    · cases e
  · cases e
theorem call_lenA : CallR X (.builtin "len") (fun xs H Q => (∃ p ys, xs = [.ref p] ∧ (SqL X.K H p ys ∨ SqT X.K H p ys) ∧ Q (.int ys.length) H) ∨ (∃ z, xs = [.str z] ∧ z.length ≤ sizeLine ∧ Q (.int z.length) H)) := CallR.or call_len_seq call_len_str
/-! #### abs, max, min, int -/
def opAbs : List D → Option D
  | [.int i] => some (.int (if i < 0 then -i else i))
  | _ => none
theorem snd_abs : Snd X (fun xs H Q => ∃ i, xs = [.int i] ∧ Q (.int (if i < 0 then -i else i)) H) opAbs := by
  refine snd_pure fun Z H S ds vs d Q w rb e k => ?_
  unfold opAbs at e
  split at e
  · obtain ⟨v, rfl, rv⟩ := rb1 rb
    cases e
    obtain rfl : v = .int _ := rv
    exact ⟨_, rfl, k _ rfl⟩
  · cases e
def opMax2 : List D → Option D
  | [.int i, .int j] => some (.int (if j > i then j else i))
  | _ => none
theorem snd_max2 : Snd X (fun xs H Q => ∃ i j, xs = [.int i, .int j] ∧ Q (.int (if j > i then j else i)) H) opMax2 := by
  refine snd_pure fun Z H S ds vs d Q w rb e k => ?_
  unfold opMax2 at e
  split at e
  · obtain ⟨v, u, rfl, rv, ru⟩ := rb2 rb
    cases e
    obtain rfl : v = .int _ := rv
    obtain rfl : u = .int _ := ru
    exact ⟨_, _, rfl, k _ rfl⟩
  · cases e
def opMin2 : List D → Option D
  | [.int i, .int j] => some (.int (if j < i then j else i))
  | _ => none
theorem snd_min2 : Snd X (fun xs H Q => ∃ i j, xs = [.int i, .int j] ∧ Q (.int (if j < i then j else i)) H) opMin2 := by
  refine snd_pure fun Z H S ds vs d Q w rb e k => ?_
  unfold opMin2 at e
  split at e
  · obtain ⟨v, u, rfl, rv, ru⟩ := rb2 rb
    cases e
    obtain rfl : v = .int _ := rv
    obtain rfl : u = .int _ := ru
    exact ⟨_, _, rfl, k _ rfl⟩
  · cases e
def opInt1 : List D → Option D
  | [.int i] => some (.int i)
  | [.bl b] => some (.int (if b then 1 else 0))
  | _ => none
theorem snd_int1 : Snd X (fun xs H Q => (∃ i, xs = [.int i] ∧ Q (.int i) H) ∨ ∃ k, xs = [.bl k] ∧ Q (.int (if k then 1 else 0)) H) opInt1 := by
  refine snd_pure fun Z H S ds vs d Q w rb e k => ?_
  unfold opInt1 at e
  split at e
  · obtain ⟨v, rfl, rv⟩ := rb1 rb
    cases e
    obtain rfl : v = .int _ := rv
    exact .inl ⟨_, rfl, k _ rfl⟩
  · obtain ⟨v, rfl, rv⟩ := rb1 rb
    cases e
    obtain rfl : v = .bl _ := rv
    exact .inr ⟨_, rfl, k _ rfl⟩
  · cases e
/-! #### sums and the like of ints -/
def intsD : List D → Option (List Int)
  | [] => some []
  | .int i :: ds => (intsD ds).map (i :: ·)
  | _ => none
theorem intsD_map : ∀ ns : List Int, intsD (ns.map D.int) = some ns
  | [] => rfl
  | n :: ns => by rw [List.map_cons, intsD, intsD_map ns]; rfl
theorem intsD_inv : ∀ {ds : List D} {ns : List Int}, intsD ds = some ns → ds = ns.map D.int
  | [], ns, h => by cases h; rfl
  | .int i :: ds, ns, h => by
    rw [intsD] at h
    cases e : intsD ds with
    | none => rw [e] at h; cases h
    | some ms =>
      rw [e] at h
      cases h
      rw [intsD_inv e]
      rfl
  | .non :: _, _, h => by cases h
  | .bl _ :: _, _, h => by cases h
  | .str _ :: _, _, h => by cases h
  | .op _ :: _, _, h => by cases h
  | .node _ _ _ :: _, _, h => by cases h
theorem reps_intsV : ∀ {ns : List Int} {vs : List V} {S : Fp}, RepL K Z H (ns.map D.int) vs S → vs = ns.map V.int
  | [], [], _, _ => rfl
  | [], _ :: _, _, h => h.elim
  | _ :: _, [], _, h => h.elim
  | n :: ns, v :: vs, S, ⟨_, _, _, _, _, r, q⟩ => by
    obtain rfl : v = .int n := r
    rw [reps_intsV q]
    rfl
def opSum : List D → Option D
  | [.node _ .lst xs] => match intsD xs with
    | some ns => some (.int ns.sum)
    | none => none
  | _ => none
theorem snd_sum : Snd X (rSum X.K) opSum := by
  refine snd_pure fun Z H S ds vs d Q w rb e k => ?_
  unfold opSum at e
  split at e
  · split at e
    · rename_i ns hn
      obtain ⟨v, rfl, rv⟩ := rb1 rb
      obtain ⟨a, ys, rfl, c, rl⟩ := rep_lst w.same rv
      rw [intsD_inv hn] at rl
      have ey := reps_intsV rl
      subst ey
      cases e
      exact ⟨a, ns, rfl, SqL.of c, k _ rfl⟩
    · cases e
  · cases e
/-- the greatest of some ints -/
def maxI : List Int → Int
  | [] => 0
  | [n] => n
  | n :: ns => max n (maxI ns)
def minI : List Int → Int
  | [] => 0
  | [n] => n
  | n :: ns => min n (minI ns)
theorem maxI_of : ∀ {ns : List Int} {m : Int}, m ∈ ns → (∀ y, y ∈ ns → y ≤ m) → m = maxI ns
  | [n], m, h, _ => by
    show m = n
    simpa using h
  | n :: n2 :: ns, m, h, h2 => by
    show m = max n (maxI (n2 :: ns))
    have a := h2 n List.mem_cons_self
    rcases List.mem_cons.mp h with e | e
    · have : maxI (n2 :: ns) ≤ m := by
        have mem : ∀ l : List Int, l ≠ [] → maxI l ∈ l := by
          intro l
          induction l with
          | nil => intro z; exact absurd rfl z
          | cons x l ih =>
            intro _
            cases l with
            | nil => exact List.mem_cons_self
            | cons y l =>
              show max x (maxI (y :: l)) ∈ x :: y :: l
              rcases Int.le_total x (maxI (y :: l)) with q | q
              · rw [Int.max_eq_right q]
                exact List.mem_cons_of_mem _ (ih (by simp))
              · rw [Int.max_eq_left q]
                exact List.mem_cons_self
        exact h2 _ (List.mem_cons_of_mem _ (mem _ (by simp)))
      omega
    · have := maxI_of e fun y hy => h2 y (List.mem_cons_of_mem _ hy)
      omega
theorem minI_of : ∀ {ns : List Int} {m : Int}, m ∈ ns → (∀ y, y ∈ ns → m ≤ y) → m = minI ns
  | [n], m, h, _ => by
    show m = n
    simpa using h
  | n :: n2 :: ns, m, h, h2 => by
    show m = min n (minI (n2 :: ns))
    have a := h2 n List.mem_cons_self
    rcases List.mem_cons.mp h with e | e
    · have : m ≤ minI (n2 :: ns) := by
        have mem : ∀ l : List Int, l ≠ [] → minI l ∈ l := by
          intro l
          induction l with
          | nil => intro z; exact absurd rfl z
          | cons x l ih =>
            intro _
            cases l with
            | nil => exact List.mem_cons_self
            | cons y l =>
              show min x (minI (y :: l)) ∈ x :: y :: l
              rcases Int.le_total x (minI (y :: l)) with q | q
              · rw [Int.min_eq_left q]
                exact List.mem_cons_self
              · rw [Int.min_eq_right q]
                exact List.mem_cons_of_mem _ (ih (by simp))
        exact h2 _ (List.mem_cons_of_mem _ (mem _ (by simp)))
      omega
    · have := minI_of e fun y hy => h2 y (List.mem_cons_of_mem _ hy)
      omega
def opMaxL : List D → Option D
  | [.node _ .lst xs] => match intsD xs with
    | some ns => if ns = [] then none else some (.int (maxI ns))
    | none => none
  | _ => none
def opMinL : List D → Option D
  | [.node _ .lst xs] => match intsD xs with
    | some ns => if ns = [] then none else some (.int (minI ns))
    | none => none
  | _ => none
theorem snd_maxL : Snd X (rMax X.K) opMaxL := by
  refine snd_pure fun Z H S ds vs d Q w rb e k => ?_
  unfold opMaxL at e
  split at e
  · split at e
    · rename_i ns hn
      split at e
      · cases e
      · rename_i hne
        obtain ⟨v, rfl, rv⟩ := rb1 rb
        obtain ⟨a, ys, rfl, c, rl⟩ := rep_lst w.same rv
        rw [intsD_inv hn] at rl
        have ey := reps_intsV rl
        subst ey
        cases e
        exact ⟨a, ns, rfl, SqL.of c, List.length_pos_iff.mpr hne, fun m h1 h2 => k _ (by rw [← maxI_of h1 h2]; rfl)⟩
    · cases e
  · cases e
theorem snd_minL : Snd X (rMin X.K) opMinL := by
  refine snd_pure fun Z H S ds vs d Q w rb e k => ?_
  unfold opMinL at e
  split at e
  · split at e
    · rename_i ns hn
      split at e
      · cases e
      · rename_i hne
        obtain ⟨v, rfl, rv⟩ := rb1 rb
        obtain ⟨a, ys, rfl, c, rl⟩ := rep_lst w.same rv
        rw [intsD_inv hn] at rl
        have ey := reps_intsV rl
        subst ey
        cases e
        exact ⟨a, ns, rfl, SqL.of c, List.length_pos_iff.mpr hne, fun m h1 h2 => k _ (by rw [← minI_of h1 h2]; rfl)⟩
    · cases e
  · cases e
/-! #### list(x), tuple(x) -/
def opList : List D → Option D
  | [.node _ .lst xs] => if plainL xs then some (.lst true xs) else none
  | [.node _ .tup xs] => if plainL xs then some (.lst true xs) else none
  | _ => none
theorem snd_list : Snd X (fun xs H Q => ∃ p ys, xs = [.ref p] ∧ (SqL X.K H p ys ∨ SqT X.K H p ys) ∧ ∀ l, H l = none → Q (.ref l) (upd H l (.lst ys))) opList := by
  intro Z H S ds vs d Q w rb e k
  unfold opList at e
  split at e
  · split at e
    · rename_i hp
      obtain ⟨v, rfl, rv⟩ := rb1 rb
      obtain ⟨a, ys, rfl, c, rl⟩ := rep_lst w.same rv
      cases e
      refine ⟨a, ys, rfl, .inl (SqL.of c), fun p np => ?_⟩
      obtain ⟨f1, f2, f3, f4⟩ := fresh_lst w np (rl.plain hp)
      exact k _ _ _ _ f1 f2 f3 f4
    · cases e
  · split at e
    · rename_i hp
      obtain ⟨v, rfl, rv⟩ := rb1 rb
      obtain ⟨a, ys, rfl, c, rl⟩ := rep_tup w.same rv
      cases e
      refine ⟨a, ys, rfl, .inr c, fun p np => ?_⟩
      obtain ⟨f1, f2, f3, f4⟩ := fresh_lst w np (rl.plain hp)
      exact k _ _ _ _ f1 f2 f3 f4
    · cases e
  · cases e
def opTuple : List D → Option D
  | [.node _ .lst xs] => if plainL xs then some (.tup xs) else none
  | [.node false .tup xs] => if plainL xs then some (.tup xs) else none
  | _ => none
theorem snd_tuple : Snd X (fun xs H Q => ∃ p ys, xs = [.ref p] ∧ ((SqL X.K H p ys ∧ ∀ l, H l = none → Q (.ref l) (upd H l (.tup ys))) ∨ (SqT X.K H p ys ∧ Q (.ref p) H))) opTuple := by
  intro Z H S ds vs d Q w rb e k
  unfold opTuple at e
  split at e
  · split at e
    · rename_i hp
      obtain ⟨v, rfl, rv⟩ := rb1 rb
      obtain ⟨a, ys, rfl, c, rl⟩ := rep_lst w.same rv
      cases e
      refine ⟨a, ys, rfl, .inl ⟨SqL.of c, fun p np => ?_⟩⟩
      obtain ⟨f1, f2, f3⟩ := fresh_tup w np (rl.plain hp)
      exact k _ _ _ _ f1 f2 (fun _ _ x => x) f3
    · cases e
  · split at e
    · rename_i xs hp
      obtain ⟨v, rfl, rv⟩ := rb1 rb
      cases e
      have rp : Rep X.K Z H (.tup xs) v Fp0 := Rep.plain rv (by simp [D.plain, hp])
      obtain ⟨a, ys, rfl, c, rl⟩ := rep_tup w.same rv
      exact ⟨a, ys, rfl, .inr ⟨c, k _ Z H Fp0 w.nil (fun _ _ e => e) (fun _ _ x => x) rp⟩⟩
    · cases e
  · cases e
end
end Pm
/-! PmM: divmod, repr, isinstance, what is walked, comprehensions, stores, methods. -/
namespace Pm
open PySem PySem.Spec PyProof.Rows L2
section
variable {K : PySem.W.Frag} {mg : Str → Option Value} {W : WX} {Z H : Hp} {S : Fp} {σ : Sl} {X : Cx} {A : Nat → Bool}
/-! #### divmod -/
def opDivmod : List D → Option D
  | [.int i, .int j] => if 0 < j then (if divOk j = true then some (.tup [.int (i / j), .int (i % j)]) else none) else none
  | _ => none
theorem call_divmodA : CallR X (.builtin "divmod") (fun xs H Q => ∃ i j : Int, xs = [.int i, .int j] ∧ (0 < j ∧ j.natAbs.log2 < 9000) ∧ ∀ p, H p = none → Q (.ref p) (upd H p (.tup [.int (i / j), .int (i % j)]))) := by
  intro pins s σ H xs us Q I r h
  obtain ⟨i, j, rfl, hj, q⟩ := h
  obtain ⟨u1, u2, rfl, ⟨t1, rfl⟩, ⟨t2, rfl⟩⟩ := vals2 r
  refine divmod_int (by omega) ?_ (.inl (PyProof.noPylong_of_log2 hj.2))
  have e1 : i.fdiv j = i / j := Int.fdiv_eq_ediv_of_nonneg i (by omega)
  have e2 : i.fmod j = i % j := Int.fmod_eq_emod_of_nonneg i (by omega)
  rw [e1, e2]
  have new : H s.heap.objs.size = none := I.hok.fresh (Nat.le_refl _)
  have two : [V.int (i / j), V.int (i % j)].length ≤ sizeLine := by
    rw [sizeLine_eq]
    show 2 ≤ 16777216
    decide
  exact ⟨.ref s.heap.objs.size, _, I.laid (o := .tup [.int (i / j), .int (i % j)]) (fun _ _ e => Heap.get?_push_of_some _ e) (Nat.le_refl _) ⟨two, [.int (i / j) s.toks, .int (i % j) (s.toks + 1)], .cons ⟨_, rfl⟩ (.cons ⟨_, rfl⟩ .nil), _, Heap.get?_push_size s.heap rfl, rfl, 0, rfl⟩, rfl, q _ new⟩
theorem snd_divmod : Snd X (fun xs H Q => ∃ i j : Int, xs = [.int i, .int j] ∧ (0 < j ∧ j.natAbs.log2 < 9000) ∧ ∀ p, H p = none → Q (.ref p) (upd H p (.tup [.int (i / j), .int (i % j)]))) opDivmod := by
  intro Z H S ds vs d Q w rb e k
  unfold opDivmod at e
  split at e
  · split at e
    · rename_i hj
      split at e
      · rename_i hd
        cases e
        obtain ⟨v, u, rfl, rv, ru⟩ := rb2 rb
        obtain rfl : v = .int _ := rv
        obtain rfl : u = .int _ := ru
        refine ⟨_, _, rfl, ⟨hj, of_decide_eq_true hd⟩, fun p np => ?_⟩
        obtain ⟨f1, f2, f3⟩ := fresh_tup (K := X.K) (ds := [.int _, .int _]) (vs := [.int _, .int _]) w np ⟨Fp0, Fp0, fun _ x => x, fun _ x => x, fun _ x _ => x, rfl, Fp0, Fp0, fun _ x => x, fun _ x => x, fun _ x _ => x, rfl, trivial⟩
        exact k _ _ _ _ f1 f2 (fun _ _ x => x) f3
      · cases e
    · cases e
  · cases e
/-! #### repr -/
mutual
theorem shw_ok : ∀ (n : Nat) (d : D), shw n d = true → PyData.showable (toP d) = true
  | _, .non, _ => rfl
  | _, .bl _, _ => rfl
  | n, .int i, h => by
    have q : i.natAbs.log2 < 1900 := by cases n <;> simpa [shw] using h
    simp only [toP, PyData.showable]
    exact decide_eq_true (by omega)
  | _, .str _, _ => rfl
  | _, .op _, _ => rfl
  | n, .node b k xs, h => by
    cases n with
    | zero => cases k <;> simp [shw] at h
    | succ n =>
      cases k with
      | lst =>
        simp only [toP, PyData.showable]
        exact shw_all n xs (by simpa [shw] using h)
      | tup =>
        simp only [toP, PyData.showable]
        exact shw_all n xs (by simpa [shw] using h)
      | scr => simp [shw] at h
      | dct ks => simp [shw] at h
      | obj C fs => simp [shw] at h
      | ins C fs => simp [shw] at h
theorem shw_all : ∀ (n : Nat) (xs : List D), (∀ x ∈ xs, shw n x = true) → PyData.showableAll (toPL xs) = true
  | _, [], _ => rfl
  | n, x :: xs, h => by
    simp only [toPL, PyData.showableAll]
    rw [shw_ok n x (h x List.mem_cons_self), shw_all n xs fun y hy => h y (List.mem_cons_of_mem _ hy)]
    rfl
end
def reprD (d : D) : Str := (toP d).shown
def opRepr : List D → Option D
  | [.int i] => if shw 60 (.int i) = true then some (.str (reprD (.int i))) else none
  | [d] => if shp 60 d && shw 60 d && decide ((reprD d).length ≤ cap) then some (.str (reprD d)) else none
  | _ => none
def rRepr (K : PySem.W.Frag) : List V → Hp → VK → Prop := fun xs H Q => ∃ x d, xs = [x] ∧ Dp K H x d ∧ PyData.canLay0 d = true ∧ PyData.depth d ≤ 60 ∧ PyData.showable d = true ∧ (d.shown.length ≤ sizeLine ∨ ∃ i, d = .int i) ∧ Q (.str d.shown) H
theorem call_reprA (hg : X.A.guards = some []) (hu : X.A.units + 64 < cLine) : CallR X (.builtin "repr") (rRepr X.K) := by
  intro pins s σ H xs us Q I r h
  obtain ⟨x, d, rfl, hd, hc, hp, hs, hz, q⟩ := h
  obtain ⟨u, rfl, rx⟩ := vals1 r
  obtain ⟨as, rd⟩ := Dp.reads I d x u hd rx
  have nd : d.hasDict = false := PyData.hasDict_of_canLay d hc
  cases rd with
  | none => exact PySem.P.repr_of_none ⟨.str _, H, I.tok _, ⟨_, rfl⟩, q⟩
  | bool b => exact PySem.P.repr_of_bool ⟨.str _, H, I.tok _, ⟨_, rfl⟩, q⟩
  | int i t => exact PySem.P.repr_of_int (of_decide_eq_true hs) ⟨.str _, H, I.tok _, ⟨_, rfl⟩, q⟩
  | str z t => exact PySem.P.repr_of_str ⟨.str _, H, I.tok _, ⟨_, rfl⟩, q⟩ (hz.elim id fun ⟨_, e⟩ => nomatch e)
  | list h1 h2 h3 h4 => exact repr_of_reads' (Reads.list h1 h2 h3 h4) hs (PyData.noDict_hsm nd) hg (by omega) (fun _ _ e => e) (fun h' u tk k => ⟨.str _, H, I.kept k, ⟨_, rfl⟩, q⟩) (hz.elim id fun ⟨_, e⟩ => nomatch e)
  | tuple h1 h2 h3 h4 => exact repr_of_reads' (Reads.tuple h1 h2 h3 h4) hs (PyData.noDict_hsm nd) hg (by omega) (fun _ _ e => e) (fun h' u tk k => ⟨.str _, H, I.kept k, ⟨_, rfl⟩, q⟩) (hz.elim id fun ⟨_, e⟩ => nomatch e)
  | dict => simp [PyData.hasDict] at nd
theorem snd_repr : Snd X (rRepr X.K) opRepr := by
  refine snd_pure fun Z H S ds vs d Q w rb e k => ?_
  unfold opRepr at e
  split at e
  · rename_i x
    split at e
    · rename_i c
      obtain ⟨v, rfl, rv⟩ := rb1 rb
      cases e
      exact ⟨v, toP (.int x), rfl, dp_of w.same 60 (.int x) v S rfl rv, (shp_can 60 (.int x) rfl).1, (shp_can 60 (.int x) rfl).2, shw_ok 60 (.int x) c, .inr ⟨x, rfl⟩, k _ rfl⟩
    · cases e
  · rename_i x _
    split at e
    · rename_i c
      rw [Bool.and_eq_true, Bool.and_eq_true] at c
      obtain ⟨⟨c1, c2⟩, c3⟩ := c
      obtain ⟨v, rfl, rv⟩ := rb1 rb
      obtain ⟨a, b⟩ := shp_can 60 x c1
      cases e
      exact ⟨v, toP x, rfl, dp_of w.same 60 x v S c1 rv, a, b, shw_ok 60 x c2, .inl (cap_le (of_decide_eq_true c3)), k _ rfl⟩
    · cases e
  · cases e
/-! #### isinstance -/
def tyN : D → Option String
  | .non => some "NoneType"
  | .bl _ => some "bool"
  | .int _ => some "int"
  | .str _ => some "str"
  | .node _ .lst _ => some "list"
  | .node _ .tup _ => some "tuple"
  | .node _ (.dct _) _ => some "dict"
  | _ => none
def opIsi : List D → Option D
  | [d, .op (.ty n)] => match tyN d with
    | some t => match kitB t n with
      | some b => some (.bl b)
      | none => none
    | none => none
  | _ => none
theorem tyX_of {d : D} {v : V} {t : String} (w : Sam Z H) (r : Rep K Z H d v S) (h : tyN d = some t) : TyX K H v (.type t) := by
  cases d with
  | non => obtain rfl : v = .non := r; cases h; exact .base .non
  | bl b => obtain rfl : v = .bl b := r; cases h; exact .base (.bl b)
  | int b => obtain rfl : v = .int b := r; cases h; exact .base (.int b)
  | str b => obtain rfl : v = .str b := r; cases h; exact .base (.str b)
  | op u => cases h
  | node b k xs =>
    cases k with
    | lst =>
      obtain ⟨a, ys, rfl, c, rl⟩ := rep_lst w r
      cases h
      exact .base (.lst c)
    | tup =>
      obtain ⟨a, ys, rfl, c, rl⟩ := rep_tup w r
      cases h
      rcases c with (c | ⟨o, c⟩) | ⟨o, its, n, c, oc, _⟩
      · exact .base (.tup c)
      · exact .fTuple c
      · exact .kTuple c oc
    | scr => cases h
    | obj C fs => cases h
    | ins C fs => cases h
    | dct ks =>
      cases h
      cases b with
      | false =>
        obtain ⟨a, ys, rfl, c, rl⟩ := r
        exact .base (.dK (w.get _ _ c.2 nt_dK))
      | true =>
        obtain ⟨a, ys, S', rfl, c, _⟩ := r
        exact .base (.dK c.2)
theorem snd_isi : Snd X (rIsi X.K) opIsi := by
  refine snd_pure fun Z H S ds vs d Q w rb e k => ?_
  unfold opIsi at e
  split at e
  · split at e
    · rename_i t ht
      split at e
      · rename_i b hb
        obtain ⟨v, u, rfl, rv, ru⟩ := rb2 rb
        obtain rfl : u = .ty _ := ru
        cases e
        exact ⟨v, _, _, _, b, rfl, .ty _, tyX_of w.same rv ht, kit_ty hb, k _ rfl⟩
      · cases e
    · cases e
  · cases e
/-! ### what is walked -/
def rangeD (lo : Int) (n : Nat) : List D := (List.range n).map fun (i : Nat) => .int (lo + (i : Int))
/-- (not to be unfolded with numbers that are not known: the kernel would count) -/
noncomputable def sm62 (i : Int) : Bool := @decide (-(2 ^ 62) ≤ i ∧ i < 2 ^ 62) (Classical.propDecidable _)
theorem sm62_ok {i : Int} (h : sm62 i = true) : -(2 ^ 62) ≤ i ∧ i < 2 ^ 62 := @of_decide_eq_true _ (Classical.propDecidable _) h
theorem sm62_of {i : Int} (h : -(2 ^ 62) ≤ i ∧ i < 2 ^ 62) : sm62 i = true := @decide_eq_true _ (Classical.propDecidable _) h
noncomputable def srcR1 (fs : M (List EV)) : M (List D) := bnd fs fun es => fun ρ => match peeks ρ es with
  | some [.int j] => if sm62 j then .ok (rangeD 0 j.toNat) ρ else .stuck
  | _ => .stuck
noncomputable def srcR2 (fs : M (List EV)) : M (List D) := bnd fs fun es => fun ρ => match peeks ρ es with
  | some [.int i, .int j] => if sm62 i && sm62 j then .ok (rangeD i (j - i).toNat) ρ else .stuck
  | _ => .stuck
theorem walk_rng (lo : Int) (n : Nat) : WalkR K (Itr lo n) Z (rangeD lo n) := by
  intro Z' H' _ _
  refine ⟨fun i hi => by unfold rangeD at hi; rw [List.length_map, List.length_range] at hi; exact hi, fun i d hd => ?_⟩
  unfold rangeD at hd
  rw [List.getElem?_map] at hd
  cases e : (List.range n)[i]? with
  | none => rw [e] at hd; cases hd
  | some j =>
    rw [e] at hd
    obtain ⟨hl, ej⟩ := List.getElem?_eq_some_iff.mp e
    rw [List.getElem_range] at ej
    subst ej
    rw [List.length_range] at hl
    refine ⟨hl, fun x H'' S' w h => ?_⟩
    obtain ⟨rfl, rfl⟩ := h
    cases hd
    exact ⟨Z', Step.refl w, fun _ _ e => e, rfl⟩
theorem pi_R1 {tg a : Expr} {fs : M (List EV)} {p pos : Pos} (hg : Gl X "range") (hm : X.mg "range" = none) (ha : PA X [a] (tA X.K X.mg W fs)) (hs : starEach [a] X.env = [(false, eval a X.env)]) : PI X tg (.Call (.Name "range" p) [a] [] pos) (tI X.K X.mg W (srcR1 fs)) :=
  PI.of (pi_range1 hg hm ha hs) fun σ H R q => by
    obtain ⟨Z, ρ, S, w, er, o⟩ := q
    refine ⟨Z, ρ, S, w, er, ?_⟩
    simp only [srcR1, bnd] at o
    cases e1 : fs ρ with
    | stuck => rw [e1] at o; exact o
    | exc x ρ1 => rw [e1] at o; exact o
    | ok es ρ1 =>
      simp only [e1] at o
      intro vs Z1 H1 S1 Sa st dj er1 r1
      split at o
      · rename_i j hp
        obtain ⟨v, rfl, rv⟩ := rb1 (peeks_rep er1 r1 hp)
        obtain rfl : v = .int j := rv
        split at o
        · rename_i hs
          have hs' : -(2 ^ 62) ≤ j ∧ j < 2 ^ 62 := sm62_ok hs
          exact ⟨j, rfl, hs'.1, hs'.2, o _ Z1 H1 S1 (st.less fun a x => .inl x) er1 (walk_rng 0 _)⟩
        · exact o.elim
      · exact o.elim
theorem pi_R2 {tg a b : Expr} {fs : M (List EV)} {p pos : Pos} (hg : Gl X "range") (hm : X.mg "range" = none) (ha : PA X [a, b] (tA X.K X.mg W fs)) (hs : starEach [a, b] X.env = [(false, eval a X.env), (false, eval b X.env)]) (hs2 : starEach [b] X.env = [(false, eval b X.env)]) :
    PI X tg (.Call (.Name "range" p) [a, b] [] pos) (tI X.K X.mg W (srcR2 fs)) :=
  PI.of (pi_range2 hg hm ha hs hs2) fun σ H R q => by
    obtain ⟨Z, ρ, S, w, er, o⟩ := q
    refine ⟨Z, ρ, S, w, er, ?_⟩
    simp only [srcR2, bnd] at o
    cases e1 : fs ρ with
    | stuck => rw [e1] at o; exact o
    | exc x ρ1 => rw [e1] at o; exact o
    | ok es ρ1 =>
      simp only [e1] at o
      intro vs Z1 H1 S1 Sa st dj er1 r1
      split at o
      · rename_i i j hp
        obtain ⟨v, u, rfl, rv, ru⟩ := rb2 (peeks_rep er1 r1 hp)
        obtain rfl : v = .int i := rv
        obtain rfl : u = .int j := ru
        split at o
        · rename_i hs
          rw [Bool.and_eq_true] at hs
          have hs1 : -(2 ^ 62) ≤ i ∧ i < 2 ^ 62 := sm62_ok hs.1
          have hs2 : -(2 ^ 62) ≤ j ∧ j < 2 ^ 62 := sm62_ok hs.2
          exact ⟨i, j, rfl, ⟨hs1.1, hs1.2, hs2.1, hs2.2⟩, o _ Z1 H1 S1 (st.less fun a x => .inl x) er1 (walk_rng i _)⟩
        · exact o.elim
      · exact o.elim
/-! #### a text, sign by sign; anything of these -/
def signsD (x : Str) : List D := x.cps.toList.map fun c => .str ⟨#[c]⟩
theorem walk_str (x : Str) : WalkR K (Its x) Z (signsD x) := by
  intro Z' H' _ _
  refine ⟨fun i hi => by unfold signsD at hi; rw [List.length_map, Array.length_toList] at hi; exact hi, fun i d hd => ?_⟩
  unfold signsD at hd
  rw [List.getElem?_map] at hd
  cases e : x.cps.toList[i]? with
  | none => rw [e] at hd; cases hd
  | some c =>
    rw [e] at hd
    have hl : i < x.cps.size := by
      have := (List.getElem?_eq_some_iff.mp e).1
      simpa using this
    refine ⟨hl, fun y H'' S' w h => ?_⟩
    obtain ⟨rfl, c', hc', rfl⟩ := h
    have ec : c' = c := by
      have e' : x.cps[i]? = some c := by simpa using e
      rw [e'] at hc'
      exact (Option.some.inj hc').symm
    subst ec
    cases hd
    exact ⟨Z', Step.refl w, fun _ _ e => e, rfl⟩
def srcA (f : M EV) : M (List D) := bnd f fun e => bnd (use1 e) fun d => match d with
  | .node _ .lst ds => ret (frzL ds)
  | .node _ .tup ds => ret (frzL ds)
  | .str x => ret (signsD x)
  | _ => fun _ => .stuck
theorem PI.or {tg iter : Expr} {t1 t2 : TI} (h1 : PI X tg iter t1) (h2 : PI X tg iter t2) : PI X tg iter (fun σ H R => t1 σ H R ∨ t2 σ H R) := ⟨fun p s σ H R I q => q.elim (h1.run p s σ H R I) (h2.run p s σ H R I)⟩
theorem srcA_lst {f : M EV} {ρ : Env} {r : Res (List D)} (h : ∀ ev ρ1 d ρ2, f ρ = .ok ev ρ1 → use1 ev ρ1 = .ok d ρ2 → ∃ b ds, d = .node b .lst ds) : srcA f ρ = srcSeq f .lst ρ := by
  simp only [srcA, srcSeq, bnd]
  cases e1 : f ρ with
  | stuck => rfl
  | exc x ρ1 => rfl
  | ok ev ρ1 =>
    simp only
    cases e2 : use1 ev ρ1 with
    | stuck => rfl
    | exc x ρ2 => rfl
    | ok d ρ2 =>
      obtain ⟨b, ds, rfl⟩ := h ev ρ1 d ρ2 e1 e2
      simp
theorem pi_A {tg l : Expr} {f : M EV} (h : PE X l (tE X.K X.mg W f)) : PI X tg l (tI X.K X.mg W (srcA f)) := by
  refine PI.of (PI.or (pi_seqL h) (PI.or (pi_seqT h) (pi_str h))) fun σ H R q => ?_
  obtain ⟨Z, ρ, S, w, er, o⟩ := q
  cases e1 : f ρ with
  | stuck => simp only [srcA, bnd, e1] at o; exact o.elim
  | exc x ρ1 =>
    refine .inl ⟨Z, ρ, S, w, er, ?_⟩
    simp only [srcA, bnd, e1] at o
    simp only [srcSeq, bnd, e1]
    exact o
  | ok ev ρ1 =>
    cases e2 : use1 ev ρ1 with
    | stuck => simp only [srcA, bnd, e1, e2] at o; exact o.elim
    | exc x ρ2 => exact absurd e2 use1_noexc
    | ok d ρ2 =>
      simp only [srcA, bnd, e1, e2] at o
      split at o
      · refine .inl ⟨Z, ρ, S, w, er, ?_⟩
        simp only [srcSeq, bnd, e1, e2, if_true]
        exact o
      · refine .inr (.inl ⟨Z, ρ, S, w, er, ?_⟩)
        simp only [srcSeq, bnd, e1, e2, if_true]
        exact o
      · rename_i x
        refine .inr (.inr ⟨Z, ρ, S, w, er, ?_⟩)
        simp only [e1]
        intro v Z1 H1 S1 Sa st dj er1 r1
        have w1 : Wd Z1 H1 (fun a => (S1 a ∨ Sa a) ∨ Fp0 a) := st.wd.less fun a x => x.elim id False.elim
        obtain ⟨Z2, S2, st2, m2, er2, r2⟩ := use1_ok w1 dj (fun _ _ x => x) er1 r1 e2
        obtain rfl : v = .str x := r2
        have st2' : Step Z1 H1 (fun a => S1 a ∨ Sa a) Z2 H1 S2 := ⟨st2.wd.less fun a x => .inl (.inl x), st2.zz, fun a o n e _ => e, fun a x => .inl (.inl (m2 a x)), fun a o e => (st2.znew a o e).elim .inl fun y => .inr (y.elim (fun z => z.elim .inl False.elim) .inr)⟩
        exact ⟨x, rfl, o (Its x) Z2 H1 S2 (st.trans st2') er2 (walk_str x)⟩
      · exact o.elim
end
end Pm
/-! PmN: comprehensions, stores, methods of lists, calls with keywords. -/
namespace Pm
open PySem PySem.Spec PyProof.Rows L2
section
variable {K : PySem.W.Frag} {mg : Str → Option Value} {W : WX} {Z H : Hp} {S : Fp} {σ : Sl} {X : Cx} {A : Nat → Bool}
/-! ### comprehensions -/
abbrev wF : WX := fun _ _ _ _ => False
def wipeE (ρ : Env) : List Nat → Env
  | [] => ρ
  | v :: vs => (wipeE ρ vs).set v none
/-- plain things come back to the names of the block -/
def backE (ρ ρ' : Env) : List Nat → Env
  | [] => ρ'
  | v :: vs => match ρ.getD v none with
    | some d => if d.plain then (backE ρ ρ' vs).set v (some d) else backE ρ ρ' vs
    | none => backE ρ ρ' vs
def compIt (own : List Nat) (g : Tg) (c : M Bool) (e : M EV) : List D → Env → List D → Res (List D)
  | [], ρ, acc => .ok acc ρ
  | d :: ds, ρ, acc => match g d ρ with
    | .ok _ ρ1 => match c ρ1 with
      | .ok true ρ2 => match e ρ2 with
        | .ok ev ρ3 => match use1 ev ρ3 with
          | .ok d' ρ4 => if acc.length < cap then compIt own g c e ds (wipeE ρ4 own) (acc ++ [d']) else .stuck
          | _ => .stuck
        | _ => .stuck
      | .ok false ρ2 => compIt own g c e ds (wipeE ρ2 own) acc
      | _ => .stuck
    | _ => .stuck
def comp (own : List Nat) (s : M (List D)) (g : Tg) (c : M Bool) (e : M EV) : M EV := bnd s fun ds => fun ρ => match compIt own g c e ds (wipeE ρ own) [] with
  | .ok acc ρ' => .ok (.val (.lst true acc)) (backE ρ ρ' own)
  | _ => .stuck
theorem EnvR.wipe {ρ : Env} : ∀ {own : List Nat}, EnvR K Z H ρ σ S → EnvR K Z H (wipeE ρ own) (L2.wipe σ own) S
  | [], h => h
  | v :: vs, h => by
    have q := (EnvR.wipe (own := vs) h).drop v
    have hn : ∀ {ρ : Env} {σ : Sl}, EnvR K Z H (ρ.set v none) σ S → EnvR K Z H (ρ.set v none) (σ.set v none) S := fun {ρ σ} h => by
      by_cases hv : v < ρ.length
      · exact h.any none (by rw [List.getElem?_set_self hv])
      · have hl := h.length
        rw [List.length_set] at hl
        rw [List.set_eq_of_length_le (l := σ) (by omega)]
        exact h
    exact hn q
theorem EnvR.unwipe {ρ : Env} : ∀ {own : List Nat}, EnvR K Z H (wipeE ρ own) (L2.wipe σ own) S → EnvR K Z H (wipeE ρ own) σ S
  | [], h => h
  | v :: vs, h => by
    have key : ∀ (own : List Nat) (ρ : Env) (σ : Sl), (∀ v ∈ own, ρ[v]? = some none ∨ ρ.length ≤ v) → EnvR K Z H ρ (L2.wipe σ own) S → EnvR K Z H ρ σ S := by
      intro own
      induction own with
      | nil => exact fun _ _ _ h => h
      | cons v vs ih =>
        intro ρ σ hn h
        have h' : EnvR K Z H ρ ((L2.wipe σ vs).set v none) S := h
        refine ih ρ σ (fun u hu => hn u (List.mem_cons_of_mem _ hu)) ?_
        rcases hn v List.mem_cons_self with e | e
        · have lv : v < (L2.wipe σ vs).length := by
            have := h'.length
            rw [List.length_set] at this
            have := (List.getElem?_eq_some_iff.mp e).1
            omega
          have q := h'.any ((L2.wipe σ vs)[v]) e
          rw [List.set_set, List.set_getElem_self] at q
          exact q
        · have := h'.length
          rw [List.length_set] at this
          rw [List.set_eq_of_length_le (by omega)] at h'
          exact h'
    refine key (v :: vs) (wipeE ρ (v :: vs)) σ (fun u hu => ?_) h
    have all : ∀ (own : List Nat) (ρ : Env), ∀ u ∈ own, (wipeE ρ own)[u]? = some none ∨ (wipeE ρ own).length ≤ u := by
      intro own
      induction own with
      | nil => exact fun _ u hu => by cases hu
      | cons v vs ih =>
        intro ρ u hu
        unfold wipeE
        by_cases e : u = v
        · subst e
          by_cases hl : u < (wipeE ρ vs).length
          · exact .inl (by rw [List.getElem?_set_self hl])
          · exact .inr (by rw [List.length_set]; omega)
        · rw [List.getElem?_set_ne (Ne.symm e), List.length_set]
          exact ih ρ u ((List.mem_cons.mp hu).resolve_left e)
    exact all _ _ u hu
theorem wipeE_back {ρ0 : Env} {Z0 H0 : Hp} {S0 : Fp} (e0 : EnvR K Z0 H0 ρ0 σ S0) (zz : Same Z0 Z) : ∀ {own : List Nat} {ρ : Env}, EnvR K Z H ρ σ S → EnvR K Z H (backE ρ0 ρ own) σ S
  | [], _, h => h
  | v :: vs, ρ, h => by
    unfold backE
    have ih := wipeE_back e0 zz (own := vs) h
    split
    · rename_i d hd
      split
      · rename_i hp
        obtain ⟨u, S1, S2, hu, s1, s2, dj, r, _⟩ := e0.take (getD_some hd)
        have rp : Rep K Z H d u Fp0 := (Rep.plain (H' := H0) r hp).move zz (fun _ _ x => x.elim) fun _ x => x
        obtain ⟨hl, he⟩ := List.getElem?_eq_some_iff.mp hu
        have q := EnvR.put (S := S) (ih.drop v) (by rw [ih.length]; exact hl) rp (fun _ x => x.elim) (fun _ x => x) fun _ x _ => x
        rw [← he, List.set_getElem_self] at q
        exact q
      · exact ih
    · exact ih
theorem wipe_keep {own : List Nat} {σ' : Sl} (kp : Keep (fun j => decide (j ∈ own)) σ σ') : L2.wipe σ' own = L2.wipe σ own := by
  have hl := kp.2
  refine List.ext_getElem? fun i => ?_
  have key : ∀ (own2 : List Nat), (∀ σ : Sl, (L2.wipe σ own2)[i]? = if i ∈ own2 then (if i < σ.length then some none else none) else σ[i]?) := by
    intro own2
    induction own2 with
    | nil => intro σ; simp [L2.wipe]
    | cons v vs ih =>
      intro σ
      unfold L2.wipe
      by_cases e : i = v
      · subst e
        rw [if_pos List.mem_cons_self]
        by_cases hi : i < σ.length
        · rw [if_pos hi, List.getElem?_set_self (by rw [wipe_length]; exact hi)]
        · rw [if_neg hi, List.getElem?_eq_none (by rw [List.length_set, wipe_length]; omega)]
      · rw [List.getElem?_set_ne (Ne.symm e), ih σ]
        by_cases m : i ∈ vs
        · rw [if_pos m, if_pos (List.mem_cons_of_mem _ m)]
        · rw [if_neg m, if_neg fun q => m ((List.mem_cons.mp q).resolve_left e)]
  rw [key own σ', key own σ, hl]
  by_cases m : i ∈ own
  · rw [if_pos m, if_pos m]
  · rw [if_neg m, if_neg m]
    exact kp.1 i (decide_eq_false m)
theorem wipe_wipe {own : List Nat} : L2.wipe (L2.wipe σ own) own = L2.wipe σ own := by
  refine wipe_keep (σ := σ) ⟨fun j hj => ?_, wipe_length _ _⟩
  have hj' : j ∉ own := of_decide_eq_false hj
  have : ∀ (vs : List Nat), j ∉ vs → (L2.wipe σ vs)[j]? = σ[j]? := by
    intro vs
    induction vs with
    | nil => exact fun _ => rfl
    | cons v vs ih =>
      intro h
      unfold L2.wipe
      rw [List.getElem?_set_ne (fun e => h (by rw [e]; exact List.mem_cons_self))]
      exact ih fun q => h (List.mem_cons_of_mem _ q)
  exact this own hj'
theorem tE_comp {own : List Nat} {s : M (List D)} {g : Tg} {c : M Bool} {e : M EV} {Q : VK} (h : tE K mg W (comp own s g c e) σ H Q) :
    tLc (tI K mg W s) (tG K (fun j => decide (j ∈ own)) g) (tT K mg wF c) (tE K mg wF e) own σ H Q := by
  obtain ⟨Z, ρ, S, w, er, o⟩ := h
  refine ⟨Z, ρ, S, w, er, ?_⟩
  simp only [comp, bnd] at o
  cases e1 : s ρ with
  | stuck => rw [e1] at o; exact o
  | exc x ρ1 => rw [e1] at o; exact o
  | ok ds ρ1 =>
    simp only [e1] at o
    intro J Z1 H1 S1 st er1 wk L hL
    cases e2 : compIt own g c e ds (wipeE ρ1 own) [] with
    | stuck => simp only [e2] at o; exact o.elim
    | exc x ρ2 => simp only [e2] at o; exact o.elim
    | ok accF ρF =>
      simp only [e2] at o
      -- the turns: what was made so far stands at L
      obtain ⟨f1, f2, f3, f4⟩ := fresh_lst (K := K) (ds := []) (vs := []) st.wd hL trivial
      refine ⟨fun i m H' => ∃ Z' ρ' S' Sa acc ys, Step Z1 H1 S1 Z' H' (fun a => S' a ∨ (a = L ∨ Sa a)) ∧ (∀ a, S' a → (a = L ∨ Sa a) → False) ∧ EnvR K Z' H' (wipeE ρ' own) (L2.wipe σ own) S' ∧ H' L = some (.lst ys) ∧ ¬ Sa L ∧ RepL K Z' H' acc ys Sa ∧ i + m = ds.length ∧
        compIt own g c e (ds.drop i) (wipeE ρ' own) acc = .ok accF ρF, ⟨ds.length, Z1, ρ1, S1, Fp0, [], [], f1.less fun a x => x.elim .inl fun y => .inr (y.elim id False.elim), fun a x y => y.elim (f3 a x) False.elim, (er1.move (Same.refl _) (fun a o _ e => f2 a o e) fun _ x => x).wipe, upd_same, fun x => x, trivial, by omega, e2⟩, ?_⟩
      rintro i m H2 ⟨Z2, ρ2, S2, Sa, acc, ys, st2, dj2, er2, hys, nL, ra, him, ci⟩
      obtain ⟨w3, w4⟩ := wk Z2 H2 st2.zz st2.wd.same
      by_cases hi : i < ds.length
      · obtain ⟨go, yl⟩ := w4 i ds[i] (List.getElem?_eq_getElem hi)
        have ed : ds.drop i = ds[i] :: ds.drop (i + 1) := List.drop_eq_getElem_cons hi
        rw [ed] at ci
        refine .inr ⟨go, fun H' => ∃ Z' ρ' S' Sa acc ys, Step Z1 H1 S1 Z' H' (fun a => S' a ∨ (a = L ∨ Sa a)) ∧ (∀ a, S' a → (a = L ∨ Sa a) → False) ∧ EnvR K Z' H' (wipeE ρ' own) (L2.wipe σ own) S' ∧ H' L = some (.lst ys) ∧ ¬ Sa L ∧ RepL K Z' H' acc ys Sa ∧ (i + 1) + (m - 1) = ds.length ∧
          compIt own g c e (ds.drop (i + 1)) (wipeE ρ' own) acc = .ok accF ρF, fun H' q => ⟨m - 1, by omega, q⟩, fun x H3 y => ?_⟩
        obtain ⟨Z3, st3, k3, r3⟩ := yl x H3 (fun a => S2 a ∨ (a = L ∨ Sa a)) st2.wd y
        have er3 : EnvR K Z3 H3 (wipeE ρ2 own) (L2.wipe σ own) S2 := er2.move st3.zz (fun a o _ e => k3 a o e) fun _ x => x
        have w3' : Wd Z3 H3 (fun a => S2 a ∨ Fp0 a) := st3.wd.less fun a x => x.elim .inl False.elim
        refine ⟨Z3, wipeE ρ2 own, S2, Fp0, ds[i], w3', fun _ _ x => x, er3, r3, ?_⟩
        simp only [compIt] at ci
        cases e3 : g ds[i] (wipeE ρ2 own) with
        | stuck => rw [e3] at ci; cases ci
        | exc x ρ3 => rw [e3] at ci; cases ci
        | ok u ρ3 =>
          simp only [e3] at ci
          intro σ4 Z4 H4 S4 kp4 st4 er4
          have hw4 : L2.wipe σ4 own = L2.wipe σ own := (wipe_keep kp4).trans wipe_wipe
          refine ⟨hw4, ?_⟩
          obtain ⟨F, hF⟩ : ∃ F : Fp, F = fun a => a = L ∨ Sa a := ⟨_, rfl⟩
          have dF : ∀ a, S2 a → F a → False := fun a x y => dj2 a x (by rw [hF] at y; exact y)
          have w3F : Wd Z3 H3 (fun a => S2 a ∨ F a) := by rw [hF]; exact st3.wd
          have st13 : Step Z1 H1 S1 Z3 H3 (fun a => S2 a ∨ F a) := by rw [hF]; exact st2.trans st3
          have st4' : Step Z3 H3 S2 Z4 H4 S4 := (Step.less (Step.refl (w3F.less fun a x => .inl x)) (S2 := fun a => S2 a ∨ Fp0 a) (fun a x => x.elim id False.elim)).trans st4
          have st4F := st4'.frame w3F dF
          have dF4 := st4'.apart (fun a x => w3F.live a (.inr x)) dF
          have ra3 : RepL K Z3 H3 acc ys Sa := ra.move st3.zz (fun a o _ e => k3 a o e) fun _ x => x
          have subSa : ∀ a, Sa a → F a := fun a x => by rw [hF]; exact .inr x
          have inL : F L := by rw [hF]; exact .inl rfl
          have ra4 : RepL K Z4 H4 acc ys Sa := st4'.stayL (fun a x y => dF a x (subSa a y)) ra3
          have hy4 : H4 L = some (.lst ys) := st4'.fr L _ (fun x => dF L x inL) (k3 _ _ hys) nt_lst
          refine ⟨Z4, ρ3, S4, st4.wd, er4, ?_⟩
          cases e4 : c ρ3 with
          | stuck => rw [e4] at ci; cases ci
          | exc x ρ4 => rw [e4] at ci; cases ci
          | ok t ρ4 =>
            intro Z5 H5 S5 st5 er5
            have st5F := st5.frame st4F.wd dF4
            have dF5 := st5.apart (fun a x => st4F.wd.live a (.inr x)) dF4
            have ra5 : RepL K Z5 H5 acc ys Sa := st5.stayL (fun a x y => dF4 a x (subSa a y)) ra4
            have hy5 : H5 L = some (.lst ys) := st5.fr L _ (fun x => dF4 L x inL) hy4 nt_lst
            have st15 : Step Z1 H1 S1 Z5 H5 (fun a => S5 a ∨ F a) := (st13.trans st4F).trans st5F
            cases t with
            | false =>
              rw [if_neg Bool.false_ne_true]
              simp only [e4] at ci
              refine ⟨Z5, ρ4, S5, Sa, acc, ys, by rw [hF] at st15; exact st15, fun a x y => dF5 a x (by rw [hF]; exact y), ?_, hy5, nL, ra5, by omega, ci⟩
              have q := er5.wipe (own := own)
              rw [hw4] at q
              exact q
            | true =>
              rw [if_pos rfl]
              simp only [e4] at ci
              refine ⟨Z5, ρ4, S5, st5.wd, er5, ?_⟩
              cases e5 : e ρ4 with
              | stuck => rw [e5] at ci; cases ci
              | exc x ρ5 => rw [e5] at ci; cases ci
              | ok ev ρ5 =>
                simp only [e5] at ci
                intro v Z6 H6 S6 Sd st6 dj6 er6 r6
                have st6F := st6.frame st5F.wd dF5
                have dF6 := st6.apart (fun a x => st5F.wd.live a (.inr x)) dF5
                have ra6 : RepL K Z6 H6 acc ys Sa := st6.stayL (fun a x y => dF5 a x (subSa a y)) ra5
                have hy6 : H6 L = some (.lst ys) := st6.fr L _ (fun x => dF5 L x inL) hy5 nt_lst
                cases e6 : use1 ev ρ5 with
                | stuck => rw [e6] at ci; cases ci
                | exc x ρ6 => rw [e6] at ci; cases ci
                | ok d' ρ6 =>
                  simp only [e6] at ci
                  by_cases hz : acc.length < cap
                  · rw [if_pos hz] at ci
                    have w6 : Wd Z6 H6 (fun a => (S6 a ∨ Sd a) ∨ F a) := st6F.wd
                    obtain ⟨Z7, S7, st7, m7, er7, r7⟩ := use1_ok w6 dj6 dF6 er6 r6 e6
                    have ra7 : RepL K Z7 H6 acc ys Sa := ra6.move st7.zz (fun _ _ _ x => x) fun _ x => x
                    refine ⟨ys, hy6, by rw [← ra.length]; exact Nat.lt_trans hz (by rw [sizeLine_eq]; decide), ?_⟩
                    have st8 : Step Z7 H6 (fun a => (S7 a ∨ Sd a) ∨ F a) Z7 (upd H6 L (.lst (ys ++ [v]))) (fun a => (S7 a ∨ Sd a) ∨ F a) := Step.write st7.wd (.inr inL)
                    have neL : ∀ {T : Fp}, (∀ a, T a → a = L → False) → ∀ a o, T a → H6 a = some o → upd H6 L (.lst (ys ++ [v])) a = some o := fun {T} n a o t e => by rw [upd_ne fun q => n a t q]; exact e
                    refine ⟨Z7, ρ6, S7, fun a => Sa a ∨ Sd a, acc ++ [d'], ys ++ [v], ?_, ?_, ?_, upd_same, ?_, ?_, by omega, ci⟩
                    · refine ((((st15.trans st6F).trans st7).trans st8)).less fun a x => ?_
                      rcases x with x | x | x | x
                      · exact .inl (.inl x)
                      · exact .inr (by rw [hF]; exact .inl x)
                      · exact .inr (subSa a x)
                      · exact .inl (.inr x)
                    · intro a x y
                      rcases y with y | y | y
                      · exact dF6 a (.inl (m7 a x)) (by rw [hF]; exact .inl y)
                      · exact dF6 a (.inl (m7 a x)) (subSa a y)
                      · exact dj6 a (m7 a x) y
                    · have q := er7.wipe (own := own)
                      rw [hw4] at q
                      exact q.move (Same.refl _) (neL fun a t q => dF6 a (.inl (m7 a t)) (by rw [q]; exact inL)) fun _ x => x
                    · rintro (x | x)
                      · exact nL x
                      · exact dF6 L (.inr x) inL
                    · exact RepL.append (ra7.move (Same.refl _) (neL fun a t q => nL (by rw [← q]; exact t)) fun _ x => x) ⟨Sd, Fp0, fun _ x => x, fun _ x => x.elim, fun _ _ x => x, r7.move (Same.refl _) (neL fun a t q => dF6 a (.inr t) (by rw [q]; exact inL)) fun _ x => x, trivial⟩ (fun a x => .inl x) (fun a x => .inr x) fun a x y => dF6 a (.inr y) (subSa a x)
                  · rw [if_neg hz] at ci
                    cases ci
      · refine .inl ⟨w3 i (by omega), ?_⟩
        rw [List.drop_eq_nil_of_le (by omega)] at ci
        simp only [compIt, Res.ok.injEq] at ci
        obtain ⟨rfl, rfl⟩ := ci
        have er2' := wipeE_back er1 st2.zz (own := own) er2.unwipe
        exact o (.ref L) Z2 H2 S2 (fun a => a = L ∨ Sa a) (st.trans st2) dj2 er2' ⟨L, ys, Sa, rfl, hys, .inl rfl, nL, fun a x => .inr x, ra⟩
end
end Pm
/-! PmO: statements with comprehensions, stores, methods of lists, calls with keywords, two names at once, op=. -/
namespace Pm
open PySem PySem.Spec PyProof.Rows L2
section
variable {K : PySem.W.Frag} {mg : Str → Option Value} {W : WX} {Z H : Hp} {S : Fp} {σ : Sl} {X : Cx} {A : Nat → Bool}
def yesT : M Bool := ret true
theorem tT_yes {Q : Bool → Hp → Prop} (h : tT K mg W yesT σ H Q) : tYes σ H Q := by
  obtain ⟨Z, ρ, S, w, er, o⟩ := h
  exact o Z H S (Step.refl w) er
theorem PTs.of {es : List Expr} {t t' : TT} (h : PTs X es t) (i : ∀ σ H Q, t' σ H Q → t σ H Q) : PTs X es t' := ⟨fun p s σ H Q I q => h.run p s σ H Q I (i σ H Q q)⟩
theorem pts_N : PTs X [] (tT X.K X.mg W yesT) := PTs.of pts_nil fun _ _ _ q => tT_yes q
theorem pts_1 {c : Expr} {f : M Bool} (h : PT X c (tT X.K X.mg W f)) : PTs X [c] (tT X.K X.mg W f) := pts_one h
abbrev ownA (own : List (Str × Nat)) : Nat → Bool := fun j => decide (j ∈ own.map (·.2))
theorem pe_C {elt tg iter : Expr} {ifs : List Expr} {scope : Scope} {own : List (Str × Nat)} {pos : Pos} {s : M (List D)} {g : Tg} {c : M Bool} {e : M EV} (hc : X.calm = true) (hN : X.N.Nodup) (hi : PI X tg iter (tI X.K X.mg W s)) (ok : BlkOk X.N X.env.scope scope own)
    (hg : ∀ (s : Shared) (H : Hp) (C : Addr) (cl : List (Str × Addr)) (fp : List Addr), PG (X.blk s H scope (compEnvC scope cl C X.env) fp) tg (tG X.K (ownA own) g)) (ht : ∀ (s : Shared) (H : Hp) (C : Addr) (cl : List (Str × Addr)) (fp : List Addr), PTs (X.blk s H scope (compEnvC scope cl C X.env) fp) ifs (tT X.K X.mg wF c))
    (he : ∀ (s : Shared) (H : Hp) (C : Addr) (cl : List (Str × Addr)) (fp : List Addr), PE (X.blk s H scope (compEnvC scope cl C X.env) fp) elt (tE X.K X.mg wF e)) (hs : ∀ x, foldedSetIterable iter X.env x = pure x) :
    PE X (.ListComp elt [⟨tg, iter, ifs, 0⟩] scope pos) (tE X.K X.mg W (comp (own.map (·.2)) s g c e)) := PE.of (pe_lc hc hN hi ok hg ht he hs) fun _ _ _ q => tE_comp q
theorem ps_C {i : Nat} {y : Str} {py : Pos} {elt tg iter : Expr} {ifs : List Expr} {scope : Scope} {own : List (Str × Nat)} {pos spos : Pos} {s : M (List D)} {g : Tg} {c : M Bool} {e : M EV} (hc : X.calm = true) (hN : X.N.Nodup) (hy : X.N[i]? = some y) (hyl : X.env.scope.names.lookup y = some .local) (hA : A i = true)
    (hsw : swapsWith (.ListComp elt [⟨tg, iter, ifs, 0⟩] scope pos) (some (.Name y py)) spos.line X.env = pure true) (hi : PI X tg iter (tI X.K X.mg W s)) (ok : BlkOk X.N X.env.scope scope own)
    (hg : ∀ (s : Shared) (H : Hp) (C : Addr) (cl : List (Str × Addr)) (fp : List Addr), PG (X.blk s H scope (compEnvC scope cl C X.env) fp) tg (tG X.K (ownA own) g)) (ht : ∀ (s : Shared) (H : Hp) (C : Addr) (cl : List (Str × Addr)) (fp : List Addr), PTs (X.blk s H scope (compEnvC scope cl C X.env) fp) ifs (tT X.K X.mg wF c))
    (he : ∀ (s : Shared) (H : Hp) (C : Addr) (cl : List (Str × Addr)) (fp : List Addr), PE (X.blk s H scope (compEnvC scope cl C X.env) fp) elt (tE X.K X.mg wF e)) (hs : ∀ x, foldedSetIterable iter X.env x = pure x) :
    PS X (.Assign [.Name y py] (.ListComp elt [⟨tg, iter, ifs, 0⟩] scope pos) spos) (tS X.K X.mg W A (asg (comp (own.map (·.2)) s g c e) (gN i))) :=
  PS.of (ps_setLc hc hN hy hyl hsw hi ok hg ht he hs) fun D σ H q => by
    have q1 := tS_asg q
    refine tE_comp (Q := _) ?_
    exact tE_mono (fun v H1 r => tG_N hA r) q1
/-! ### name = e, targets -/
theorem pg_N {i : Nat} {x : Str} {pos : Pos} (hN : X.N.Nodup) (hi : X.N[i]? = some x) (hx : Loc X.env.scope x) (hA : A i = true) (hf : X.fn x = true ∨ X.env.scope.names.lookup x = some .local) : PG X (.Name x pos) (tG X.K A (gN i)) := PG.of (pg_name hN hi hx hf) fun _ _ _ _ q => tG_N hA q
theorem ps_N {i : Nat} {x : Str} {e : Expr} {f : M EV} {pos pos' : Pos} (hN : X.N.Nodup) (hi : X.N[i]? = some x) (hx : Loc X.env.scope x) (hA : A i = true) (he : PE X e (tE X.K X.mg W f)) (hs : swapsWith e (some (.Name x pos')) pos.line X.env = pure false) (hf : X.fn x = true ∨ X.env.scope.names.lookup x = some .local) :
    PS X (.Assign [.Name x pos'] e pos) (tS X.K X.mg W A (asg f (gN i))) := PS.of (ps_set hN hi hx he hs hf) fun D σ H q => tE_mono (fun v H1 r => tG_N hA r) (tS_asg q)
theorem ps_G {tg e : Expr} {f : M EV} {g : Tg} {pos : Pos} (he : PE X e (tE X.K X.mg W f)) (hg : PG X tg (tG X.K A g)) (hs : swapsWithSole [tg] e pos.line X.env = pure false) (hw : swappedStores [tg] e X.env = pure none)
    (h1 : (assignEach [tg] X.env).map (·.2) = [assign tg X.env]) : PS X (.Assign [tg] e pos) (tS X.K X.mg W A (asg f g)) := PS.of (ps_asg he hg hs hw h1) fun D σ H q => tS_asg q
theorem pgs_0 : PGs X [] (tGs X.K A gs0) := PGs.of pgs_nil fun _ _ _ _ q => tGs_0 q
theorem pgs_C {e : Expr} {es : List Expr} {g : Tg} {gs : List D → M Unit} (h1 : PG X e (tG X.K A g)) (h2 : PGs X es (tGs X.K A gs)) (hs : (assignEach (e :: es) X.env).map (·.2) = assign e X.env :: (assignEach es X.env).map (·.2)) : PGs X (e :: es) (tGs X.K A (gsC g gs)) :=
  PGs.of (pgs_cons h1 h2 hs) fun _ _ _ _ q => tGs_C q
theorem pg_T {es : List Expr} {k n : Nat} {gs : List D → M Unit} {pos : Pos} (hc : X.calm = true) (h : PGs X es (tGs X.K A gs)) (hn : (assignEach es X.env).length = n) (hst : (assignEach es X.env).findIdx? (·.1) = none) : PG X (.Tuple es k pos) (tG X.K A (gT gs n)) :=
  PG.of (pg_tup hc h hn hst) fun _ _ _ _ q => tG_T q
/-! ### a store into a list that stands in a slot -/
def gI (j : Nat) (fi : M EV) : Tg := fun d ρ0 => match ρ0.getD j none with
  | some _ => bnd fi (fun ei => fun ρ => match ρ.getD j none, peek1 ρ ei with
    | some (.node true .lst xs), some (.int k) => match ixN xs.length k with
      | some i => .ok () (ρ.set j (some (.node true .lst (xs.set i d))))
      | none => .stuck
    | _, _ => .stuck) ρ0
  | none => .stuck
/-- an item of an owned list of a slot, stored -/
theorem set_item {j i : Nat} {xs : List D} {ρ : Env} {d : D} {v : V} {T : Fp} (w : Wd Z H (fun a => S a ∨ T a)) (dj : ∀ a, S a → T a → False) (er : EnvR K Z H ρ σ S) (e : ρ.getD j none = some (.node true .lst xs)) (hi : i < xs.length) (rv : Rep K Z H d v T) :
    ∃ p ys, σ[j]? = some (some (.ref p)) ∧ H p = some (.lst ys) ∧ ys.length = xs.length ∧ ∃ S', (∀ a, S' a → S a ∨ T a) ∧ S p ∧ EnvR K Z (upd H p (.lst (ys.set i v))) (ρ.set j (some (.node true .lst (xs.set i d)))) σ S' := by
  obtain ⟨u, U1, U2, hv, u1, u2, uj, ru, eu⟩ := er.take (getD_some e)
  obtain ⟨p, ys, U', rfl, c, sa, na, sub, rl⟩ := ru
  obtain ⟨hj, ej⟩ := List.getElem?_eq_some_iff.mp hv
  have es : σ.set j (some (.ref p)) = σ := by rw [← ej, List.set_getElem_self]
  have hl : j < ρ.length := by rw [er.length]; exact hj
  obtain ⟨y, T1, T2, hy, t1, t2, tj, ry, put⟩ := rl.take (List.getElem?_eq_getElem hi)
  have keep : ∀ {B : Fp}, (∀ a, B a → a = p → False) → ∀ a o, B a → H a = some o → upd H p (.lst (ys.set i v)) a = some o := fun {B} n a o b q => by rw [upd_ne fun z => n a b z]; exact q
  have nT : ∀ a, T a → a = p → False := fun a x y => dj p (u1 p sa) (by rw [← y]; exact x)
  have rv' : Rep K Z (upd H p (.lst (ys.set i v))) d v T := rv.move (Same.refl Z) (keep nT) fun _ x => x
  have pl := put Z (upd H p (.lst (ys.set i v))) d v T (fun a => T2 a ∨ T a) (Same.refl Z) (keep fun a x y => na (t2 p (by rw [← y]; exact x))) rv' (fun _ x => .inr x) (fun _ x => .inl x) fun a x y => dj a (u1 a (sub a (t2 a y))) x
  have rn : Rep K Z (upd H p (.lst (ys.set i v))) (.node true .lst (xs.set i d)) (.ref p) (fun a => a = p ∨ (T2 a ∨ T a)) := ⟨p, ys.set i v, _, rfl, upd_same, .inl rfl, fun x => x.elim (fun z => na (t2 p z)) fun z => nT p z rfl, fun _ x => .inr x, pl⟩
  have q := EnvR.put (S := fun a => (a = p ∨ (T2 a ∨ T a)) ∨ U2 a) (eu.move (Same.refl Z) (keep fun a x y => uj p sa (by rw [← y]; exact x)) fun _ x => x) hl rn (fun _ x => .inl x) (fun _ x => .inr x) fun a x y => by
    rcases x with x | x | x
    · exact uj p sa (by rw [← x]; exact y)
    · exact uj a (sub a (t2 a x)) y
    · exact dj a (u2 a y) x
  rw [es] at q
  refine ⟨p, ys, hv, c, rl.length.symm, _, fun a x => ?_, u1 p sa, q⟩
  rcases x with (x | x | x) | x
  · exact .inl (by rw [x]; exact u1 p sa)
  · exact .inl (u1 a (sub a (t2 a x)))
  · exact .inr x
  · exact .inl (u2 a x)
theorem tG_I {j : Nat} {fi : M EV} {v : V} {Q : Sl → Hp → Prop} (h : tG K A (gI j fi) v σ H Q) : gSub (tVar j) (tE K mg wF fi) rSetL v σ H Q := by
  obtain ⟨Z, ρ, S, Sd, d, w, dj, er, r, o⟩ := h
  simp only [gI] at o
  cases e0 : ρ.getD j none with
  | none => simp only [e0] at o
  | some d0 =>
    simp only [e0, bnd] at o
    obtain ⟨u, U1, U2, hv, _⟩ := er.take (getD_some e0)
    refine ⟨u, hv, Z, ρ, S, w.less fun a x => .inl x, er, ?_⟩
    cases e1 : fi ρ with
    | stuck => rw [e1] at o; exact o.elim
    | exc x ρ1 => rw [e1] at o; exact o.elim
    | ok ei ρ1 =>
      simp only [e1] at o
      intro vi Z1 H1 S1 Sa st dja er1 r1
      have stF := st.frame w dj
      have apF := st.apart (fun a x => w.live a (.inr x)) dj
      have r' : Rep K Z1 H1 d v Sd := st.stay dj r
      split at o
      · rename_i ρ' hm
        split at hm
        · rename_i xs k h1 h2
          split at hm
          · rename_i i hi
            cases hm
            have il : i < xs.length := (ixN_seq hi).2.1
            have hvi : vi = .int k := peek1_rep er1 r1 h2
            subst hvi
            have wA : Wd Z1 H1 (fun a => S1 a ∨ Sd a) := stF.wd.less fun a x => x.elim (fun y => .inl (.inl y)) .inr
            obtain ⟨p, ys, hv2, hp, hl, S', m', sp, er'⟩ := set_item wA (fun a x y => apF a (.inl x) y) er1 h1 il r'
            rw [hv] at hv2
            cases hv2
            refine ⟨p, ys, k, i, rfl, rfl, hp, by rw [hl]; exact hi, ?_⟩
            have st2 : Step Z1 H1 (fun a => S1 a ∨ Sd a) Z1 (upd H1 p (.lst (ys.set i v))) (fun a => S1 a ∨ Sd a) := Step.write wA (.inl sp)
            have stA : Step Z H (fun a => S a ∨ Sd a) Z1 H1 (fun a => S1 a ∨ Sd a) := stF.less fun a x => x.elim (fun y => .inl (.inl y)) .inr
            exact o σ Z1 _ S' (Keep.refl σ) ((stA.trans st2).less m') er'
          · cases hm
        · cases hm
      · exact o.elim
theorem pg_I {j : Nat} {x : Str} {b : Expr} {fi : M EV} {pos p2 : Pos} (hj : X.N[j]? = some x) (hv : Vis X.env.scope x) (hd : (x == ("__debug__" : Str)) = false) (hcd : (x == ("__classdict__" : Str)) = false) (hi : PE X b (tE X.K X.mg wF fi))
    (ha : ∀ v, assign (.Subscript (.Name x p2) b pos) X.env v = (do
      let ov ← holding [v] (eval (.Name x p2) X.env)
      let iv ← holding [v, ov] (eval b X.env)
      standAt pos
      holding [v, ov, iv] (setItem ov iv v)
      release [v, ov, iv] [])) : PG X (.Subscript (.Name x p2) b pos) (tG X.K A (gI j fi)) := PG.of (pg_sub (pe_var hj hv hd hcd) hi set_list ha) fun _ _ _ _ q => tG_I q
end
end Pm
/-! PmP: append, pop, two names at once, op=, calls with keywords. -/
namespace Pm
open PySem PySem.Spec PyProof.Rows L2
section
variable {K : PySem.W.Frag} {mg : Str → Option Value} {W : WX} {Z H : Hp} {S : Fp} {σ : Sl} {X : Cx} {A : Nat → Bool}
/-! ### op= upon a name -/
theorem ps_augG {i : Nat} {x : Str} {e : Expr} {fe : M EV} {op : Operator} {g : List D → Option D} {pos pos' : Pos} (hN : X.N.Nodup) (hi : X.N[i]? = some x) (hx : Loc X.env.scope x) (hA : A i = true) (he : PE X e (tE X.K X.mg W fe)) (ho : Opd X (inplaceOp op) g)
    (hf : X.fn x = true ∨ X.env.scope.names.lookup x = some .local) : PS X (.AugAssign (.Name x pos') op e pos) (tS X.K X.mg W A (asg (bin g (loc i) fe) (gN i))) := by
  obtain ⟨r, h1, h2⟩ := ho
  refine PS.of (ps_aug (ti := r) hN hi hx he (fun pins s σ H x y v u Q I rx ry q => h1 pins s σ H x y v u Q I rx ry q) hf) fun D σ H q => ?_
  have q2 := two_of (r := r) (tE_app h2 (tE_mono (fun v H1 t => tG_N (Q := D.nx) hA t) (tS_asg q)))
  obtain ⟨v, hv, q3⟩ := tE_loc q2
  exact ⟨v, hv, q3⟩
/-! ### two names at once -/
def par (i j : Nat) (fs : M (List EV)) : M Fl := bnd fs fun es => bnd (useL es) fun ds => fun ρ => match ds with
  | [a, b] => if i < ρ.length ∧ j < ρ.length then .ok .nx ((ρ.set i (some a)).set j (some b)) else .stuck
  | _ => .stuck
theorem useL_noexc : ∀ {es : List EV} {ρ ρ' : Env} {x : XD}, useL es ρ ≠ .exc x ρ'
  | [], _, _, _, q => nomatch q
  | e :: es, ρ, ρ', x, q => by
    simp only [useL, bnd] at q
    cases u1 : use1 e ρ with
    | stuck => rw [u1] at q; cases q
    | exc y ρ3 => exact use1_noexc u1
    | ok d ρ3 =>
      simp only [u1] at q
      cases u2 : useL es ρ3 with
      | stuck => rw [u2] at q; cases q
      | exc y ρ4 => exact useL_noexc u2
      | ok ds ρ4 => simp only [u2, ret] at q; cases q
theorem tS_par {i j : Nat} {fs : M (List EV)} {D : Ends} (hi : A i = true) (hj : A j = true) (h : tS K mg W A (par i j fs) D σ H) : tPar i j (tA K mg W fs) D σ H := by
  obtain ⟨Z, ρ, S, w, er, o⟩ := h
  refine ⟨Z, ρ, S, w, er, ?_⟩
  simp only [par, bnd] at o
  cases e1 : fs ρ with
  | stuck => rw [e1] at o; exact o
  | exc x ρ1 => rw [e1] at o; exact o σ (Keep.refl σ)
  | ok es ρ1 =>
    simp only [e1] at o
    intro vs Z1 H1 S1 Sa st1 dj1 er1 r1
    cases e2 : useL es ρ1 with
    | stuck => rw [e2] at o; exact o.elim
    | exc x ρ2 => exact absurd e2 useL_noexc
    | ok ds ρ2 =>
      simp only [e2] at o
      have w1 : Wd Z1 H1 (fun a => (S1 a ∨ Sa a) ∨ Fp0 a) := st1.wd.less fun a x => x.elim id False.elim
      obtain ⟨Z2, S2, st2, m2, er2, r2⟩ := useL_ok w1 dj1 (fun _ _ x => x) er1 r1 e2
      have st2' : Step Z1 H1 (fun a => S1 a ∨ Sa a) Z2 H1 (fun a => S2 a ∨ Sa a) := ⟨st2.wd.less fun a x => .inl x, st2.zz, fun a o n e _ => e, fun a x => .inl (x.elim (fun y => .inl (m2 a y)) .inr), fun a o e => (st2.znew a o e).elim .inl fun y => .inr (y.elim (fun z => z.elim .inl False.elim) .inr)⟩
      split at o
      · rename_i a b
        split at o
        · rename_i hl
          cases vs with
          | nil => exact r2.elim
          | cons v vs =>
            obtain ⟨A1, A2, a1, a2, aj, ra, q⟩ := r2
            cases vs with
            | nil => exact q.elim
            | cons u us =>
              obtain ⟨B1, B2, b1, b2, bj, rb, q2⟩ := q
              cases us with
              | cons => exact q2.elim
              | nil =>
                have p1 := EnvR.put (S := fun x => S2 x ∨ A1 x) (er2.drop i) hl.1 ra (fun a x => .inr x) (fun a x => .inl x) fun a x y => dj1 a (m2 a y) (a1 a x)
                have p2 := EnvR.put (S := fun x => (S2 x ∨ A1 x) ∨ B1 x) (p1.drop j) (by rw [List.length_set]; exact hl.2) rb (fun a x => .inr x) (fun a x => .inl x) fun a x y => y.elim (fun z => dj1 a (m2 a z) (a2 a (b1 a x))) fun z => aj a z (b1 a x)
                refine ⟨v, u, rfl, ?_⟩
                refine o _ .non Z2 H1 _ Fp0 ⟨fun k hk => ?_, by rw [List.length_set, List.length_set]⟩ ((st1.trans st2').less fun a x => ?_) (fun _ _ x => x) p2 trivial
                · rw [List.getElem?_set_ne (fun e => by rw [← e, hj] at hk; cases hk), List.getElem?_set_ne (fun e => by rw [← e, hi] at hk; cases hk)]
                · rcases x with ((x | x) | x) | x
                  · exact .inl x
                  · exact .inr (a1 a x)
                  · exact .inr (a2 a (b1 a x))
                  · exact x.elim
        · exact o.elim
      · exact o.elim
theorem ps_P {i j : Nat} {x y : Str} {a b : Expr} {fs : M (List EV)} {px py pt pos : Pos} {kt k2 pt2} (hc : X.calm = true) (hN : X.N.Nodup) (hi : X.N[i]? = some x) (hj : X.N[j]? = some y) (hij : i ≠ j) (hAi : A i = true) (hAj : A j = true)
    (hx : X.env.scope.names.lookup x = some .local) (hy : X.env.scope.names.lookup y = some .local) (ha : PA X [a, b] (tA X.K X.mg W fs)) (hw : swappedStores [.Tuple [.Name x px, .Name y py] kt pt] (.Tuple [a, b] k2 pt2) X.env = pure (some [x, y]))
    (hs : swapsWithSole [.Tuple [.Name x px, .Name y py] kt pt] (.Tuple [a, b] k2 pt2) pos.line X.env = pure false) : PS X (.Assign [.Tuple [.Name x px, .Name y py] kt pt] (.Tuple [a, b] k2 pt2) pos) (tS X.K X.mg W A (par i j fs)) :=
  PS.of (ps_par hc hN hi hj hij hx hy ha hw hs) fun _ _ _ q => tS_par hAi hAj q
/-! ### append -/
def appd (j : Nat) (fe : M EV) : M EV := fun ρ0 => match ρ0.getD j none with
  | some (.node true .lst _) => bnd fe (fun ev => bnd (use1 ev) fun d => fun ρ => match ρ.getD j none with
    | some (.node true .lst xs) => if xs.length < cap then .ok (.val .non) (ρ.set j (some (.node true .lst (xs ++ [d])))) else .stuck
    | _ => .stuck) ρ0
  | _ => .stuck
theorem push_item {j : Nat} {xs : List D} {ρ : Env} {d : D} {v : V} {T : Fp} (w : Wd Z H (fun a => S a ∨ T a)) (dj : ∀ a, S a → T a → False) (er : EnvR K Z H ρ σ S) (e : ρ.getD j none = some (.node true .lst xs)) (rv : Rep K Z H d v T) :
    ∃ p ys, σ[j]? = some (some (.ref p)) ∧ H p = some (.lst ys) ∧ ys.length = xs.length ∧ ∃ S', (∀ a, S' a → S a ∨ T a) ∧ S p ∧ EnvR K Z (upd H p (.lst (ys ++ [v]))) (ρ.set j (some (.node true .lst (xs ++ [d])))) σ S' := by
  obtain ⟨u, U1, U2, hv, u1, u2, uj, ru, eu⟩ := er.take (getD_some e)
  obtain ⟨p, ys, U', rfl, c, sa, na, sub, rl⟩ := ru
  obtain ⟨hj, ej⟩ := List.getElem?_eq_some_iff.mp hv
  have es : σ.set j (some (.ref p)) = σ := by rw [← ej, List.set_getElem_self]
  have hl : j < ρ.length := by rw [er.length]; exact hj
  have keep : ∀ {B : Fp}, (∀ a, B a → a = p → False) → ∀ a o, B a → H a = some o → upd H p (.lst (ys ++ [v])) a = some o := fun {B} n a o b q => by rw [upd_ne fun z => n a b z]; exact q
  have nT : ∀ a, T a → a = p → False := fun a x y => dj p (u1 p sa) (by rw [← y]; exact x)
  have rv' : Rep K Z (upd H p (.lst (ys ++ [v]))) d v T := rv.move (Same.refl Z) (keep nT) fun _ x => x
  have pl : RepL K Z (upd H p (.lst (ys ++ [v]))) (xs ++ [d]) (ys ++ [v]) (fun a => U' a ∨ T a) := RepL.append (rl.move (Same.refl Z) (keep fun a x y => na (by rw [← y]; exact x)) fun _ x => x) ⟨T, Fp0, fun _ x => x, fun _ x => x.elim, fun _ _ x => x, rv', trivial⟩ (fun _ x => .inl x) (fun _ x => .inr x) fun a x y => dj a (u1 a (sub a x)) y
  have rn : Rep K Z (upd H p (.lst (ys ++ [v]))) (.node true .lst (xs ++ [d])) (.ref p) (fun a => a = p ∨ (U' a ∨ T a)) := ⟨p, ys ++ [v], _, rfl, upd_same, .inl rfl, fun x => x.elim na fun z => nT p z rfl, fun _ x => .inr x, pl⟩
  have q := EnvR.put (S := fun a => (a = p ∨ (U' a ∨ T a)) ∨ U2 a) (eu.move (Same.refl Z) (keep fun a x y => uj p sa (by rw [← y]; exact x)) fun _ x => x) hl rn (fun _ x => .inl x) (fun _ x => .inr x) fun a x y => by
    rcases x with x | x | x
    · exact uj p sa (by rw [← x]; exact y)
    · exact uj a (sub a x) y
    · exact dj a (u2 a y) x
  rw [es] at q
  refine ⟨p, ys, hv, c, rl.length.symm, _, fun a x => ?_, u1 p sa, q⟩
  rcases x with (x | x | x) | x
  · exact .inl (by rw [x]; exact u1 p sa)
  · exact .inl (u1 a (sub a x))
  · exact .inr x
  · exact .inl (u2 a x)
theorem tE_appd {j : Nat} {fe : M EV} {Q : VK} (h : tE K mg W (appd j fe) σ H Q) : tBM K "list" rAppend (tVar j) (tCons (tE K mg W fe) tNil) σ H Q := by
  obtain ⟨Z, ρ, S, w, er, o⟩ := h
  simp only [appd] at o
  split at o
  · rename_i xs0 h0
    obtain ⟨u, U1, U2, hv, u1, u2, uj, ru, eu⟩ := er.take (getD_some h0)
    obtain ⟨p, ys0, U', rfl, c0, _⟩ := ru
    refine ⟨.ref p, hv, .inl ⟨rfl, ys0, SqL.of c0⟩, Z, ρ, S, w, er, ?_⟩
    simp only [bnd] at o
    cases e1 : fe ρ with
    | stuck => rw [e1] at o; exact o
    | exc x ρ1 => rw [e1] at o; exact o
    | ok ev ρ1 =>
      simp only [e1] at o
      intro v Z1 H1 S1 Sa st1 dj1 er1 r1
      cases e2 : use1 ev ρ1 with
      | stuck => rw [e2] at o; exact o.elim
      | exc x ρ2 => exact absurd e2 use1_noexc
      | ok d ρ2 =>
        simp only [e2] at o
        have w1 : Wd Z1 H1 (fun a => (S1 a ∨ Sa a) ∨ Fp0 a) := st1.wd.less fun a x => x.elim id False.elim
        obtain ⟨Z2, S2, st2, m2, er2, r2⟩ := use1_ok w1 dj1 (fun _ _ x => x) er1 r1 e2
        have st2' : Step Z1 H1 (fun a => S1 a ∨ Sa a) Z2 H1 (fun a => S2 a ∨ Sa a) := ⟨st2.wd.less fun a x => .inl x, st2.zz, fun a o n e _ => e, fun a x => .inl (x.elim (fun y => .inl (m2 a y)) .inr), fun a o e => (st2.znew a o e).elim .inl fun y => .inr (y.elim (fun z => z.elim .inl False.elim) .inr)⟩
        split at o
        · rename_i xs h1
          split at o
          · rename_i hz
            obtain ⟨p', ys, hv2, hp, hl, S', m', sp, er'⟩ := push_item st2'.wd (fun a x y => dj1 a (m2 a x) y) er2 h1 r2
            rw [hv] at hv2
            cases hv2
            refine ⟨p, ys, v, rfl, rfl, hp, by rw [hl]; exact Nat.lt_trans hz (by rw [sizeLine_eq]; decide), ?_⟩
            exact o .non Z2 _ S' Fp0 ((((st1.trans st2').trans (Step.write st2'.wd (.inl sp))).less m').less fun a x => x.elim id False.elim) (fun _ _ x => x) er' rfl
          · exact o.elim
        · exact o.elim
  · exact o.elim
theorem pe_append {j : Nat} {x : Str} {e : Expr} {fe : M EV} {p2 apos cpos : Pos} (hj : X.N[j]? = some x) (hv : Vis X.env.scope x) (hd : (x == ("__debug__" : Str)) = false) (hcd : (x == ("__classdict__" : Str)) = false) (he : PE X e (tE X.K X.mg W fe))
    (hbase : attributeBase (.Name x p2) "append" X.env (eval (.Name x p2) X.env) = eval (.Name x p2) X.env)
    (hfew : ((backTo cpos (starEach [e] X.env)).all (fun x => !x.1) && (backToKw cpos (keywordEach [] X.env)).all (fun x => x.1.isSome)
      && decide ([e].length + ([] : List Keyword).length + (if ([] : List Keyword).isEmpty then 0 else 1) < 30)) = true)
    (hline : (apos.endLine == cpos.line) = true) (hs : starEach [e] X.env = (false, eval e X.env) :: starEach [] X.env) (hplain : (backTo cpos (starEach [] X.env)).any (·.1) = false) :
    PE X (.Call (.Attribute (.Name x p2) "append" apos) [e] [] cpos) (tE X.K X.mg W (appd j fe)) :=
  PE.of (pe_bm PySem.F.plainAttrs_list PySem.F.slot_list_append PySem.F.type_list_append mt_append (pe_var hj hv hd hcd) (pa_cons he pa_nil hs) hbase hfew hline hs hplain) fun _ _ _ q => tE_appd q
end
end Pm
/-! PmQ: calls with keywords. -/
namespace Pm
open PySem PySem.Spec PyProof.Rows L2
section
variable {K : PySem.W.Frag} {mg : Str → Option Value} {W : WX} {Z H : Hp} {S : Fp} {σ : Sl} {X : Cx}
/-- two argument lists, one behind the other -/
def aApp (n1 n2 : Nat) (fs fk : M (List EV)) : M (List EV) := bnd fs fun es => bnd fk fun ks => fun ρ => if es.length = n1 ∧ ks.length = n2 then .ok (es ++ ks) ρ else .stuck
theorem EVsR.app : ∀ {es ks : List EV} {vs zs : List V} {S1 S2 U : Fp}, EVsR K Z H σ es vs S1 → EVsR K Z H σ ks zs S2 → (∀ a, S1 a → U a) → (∀ a, S2 a → U a) → (∀ a, S1 a → S2 a → False) → EVsR K Z H σ (es ++ ks) (vs ++ zs) U
  | [], ks, [], zs, _, _, _, _, h2, _, m2, _ => h2.more m2
  | [], _, _ :: _, _, _, _, _, h, _, _, _, _ => h.elim
  | _ :: _, _, [], _, _, _, _, h, _, _, _, _ => h.elim
  | e :: es, ks, v :: vs, zs, S1, S2, U, ⟨T1, T2, t1, t2, tj, r, q⟩, h2, m1, m2, dj =>
    ⟨T1, fun a => T2 a ∨ S2 a, fun a x => m1 a (t1 a x), fun a x => x.elim (fun y => m1 a (t2 a y)) (m2 a), fun a x y => y.elim (tj a x) (dj a (t1 a x)), r, EVsR.app (U := fun a => T2 a ∨ S2 a) q h2 (fun _ x => .inl x) (fun _ x => .inr x) fun a x y => dj a (t2 a x) y⟩
theorem EVsR.stay : ∀ {es : List EV} {vs : List V} {Z' H' : Hp} {S1 Sa S' : Fp}, EVsR K Z H σ es vs Sa → Step Z H S1 Z' H' S' → (∀ a, S1 a → Sa a → False) → EVsR K Z' H' σ es vs Sa
  | [], [], _, _, _, _, _, _, _, _ => trivial
  | [], _ :: _, _, _, _, _, _, h, _, _ => h.elim
  | _ :: _, [], _, _, _, _, _, h, _, _ => h.elim
  | e :: es, v :: vs, _, _, _, _, _, ⟨T1, T2, t1, t2, tj, r, q⟩, st, dj => ⟨T1, T2, t1, t2, tj, r.stay st fun a x y => dj a x (t1 a y), EVsR.stay q st fun a x y => dj a x (t2 a y)⟩
theorem EVsR.length : ∀ {es : List EV} {vs : List V} {S : Fp}, EVsR K Z H σ es vs S → es.length = vs.length
  | [], [], _, _ => rfl
  | [], _ :: _, _, h => h.elim
  | _ :: _, [], _, h => h.elim
  | _ :: _, _ :: _, _, ⟨_, _, _, _, _, _, q⟩ => by rw [List.length_cons, List.length_cons, EVsR.length q]
theorem tA_app {n1 n2 : Nat} {fs fk : M (List EV)} {Q : List V → Hp → Prop} (h : tA K mg W (aApp n1 n2 fs fk) σ H Q) : tA K mg W fs σ H fun vs H1 => tA K mg W fk σ H1 fun zs H2 => vs.length = n1 ∧ zs.length = n2 ∧ Q (vs ++ zs) H2 := by
  obtain ⟨Z, ρ, S, w, er, o⟩ := h
  refine ⟨Z, ρ, S, w, er, ?_⟩
  simp only [aApp, bnd] at o
  cases e1 : fs ρ with
  | stuck => rw [e1] at o; exact o
  | exc x ρ1 => rw [e1] at o; exact o
  | ok es ρ1 =>
    rw [e1] at o
    intro vs Z1 H1 S1 Sa st1 dj1 er1 r1
    refine ⟨Z1, ρ1, S1, st1.wd.less fun a x => .inl x, er1, ?_⟩
    cases e2 : fk ρ1 with
    | stuck => simp only [e2] at o; exact o
    | exc x ρ2 => simp only [e2] at o; exact o.behind st1 dj1
    | ok ks ρ2 =>
      simp only [e2] at o
      intro zs Z2 H2 S2 Sb st2 dj2 er2 r2
      by_cases hn : es.length = n1 ∧ ks.length = n2
      · rw [if_pos hn] at o
        have ap := st2.apart (T := Sa) (fun a x => st1.wd.live a (.inr x)) dj1
        refine ⟨r1.length.symm.trans hn.1, r2.length.symm.trans hn.2, o (vs ++ zs) Z2 H2 S2 (fun a => Sa a ∨ Sb a) ((st1.trans (st2.frame st1.wd dj1)).less fun a x => ?_) (fun a x y => y.elim (ap a (.inl x)) (dj2 a x)) er2 ?_⟩
        · rcases x with x | x | x
          · exact .inl (.inl x)
          · exact .inr x
          · exact .inl (.inr x)
        · exact EVsR.app (r1.stay st2 dj1) r2 (fun _ x => .inl x) (fun _ x => .inr x) fun a x y => ap a (.inr y) x
      · rw [if_neg hn] at o
        exact o.elim
/-- the arguments put in the order of the parameters -/
def sel {α : Type} (p : List Nat) (xs : List α) : List α := p.filterMap (xs[·]?)
theorem sel_set {α : Type} {xs : List α} {y : α} {i : Nat} : ∀ {p : List Nat}, i ∉ p → sel p (xs.set i y) = sel p xs
  | [], _ => rfl
  | j :: p, h => by
    have e : (xs.set i y)[j]? = xs[j]? := List.getElem?_set_ne fun e => h (by rw [e]; exact List.mem_cons_self)
    have q := sel_set (xs := xs) (y := y) (i := i) (p := p) fun z => h (List.mem_cons_of_mem _ z)
    unfold sel at q ⊢
    rw [List.filterMap_cons, List.filterMap_cons, e, q]
theorem EVsR.pick : ∀ {es : List EV} {vs : List V} {S : Fp} {i : Nat} {e : EV}, EVsR K Z H σ es vs S → es[i]? = some e →
    ∃ v, ∃ S1 S2 : Fp, vs[i]? = some v ∧ (∀ a, S1 a → S a) ∧ (∀ a, S2 a → S a) ∧ (∀ a, S1 a → S2 a → False) ∧ EVR K Z H σ e v S1 ∧ EVsR K Z H σ (es.set i (.val .non)) (vs.set i .non) S2
  | [], _, _, _, _, _, e => by simp at e
  | _ :: _, [], _, _, _, h, _ => h.elim
  | e :: es, v :: vs, S, 0, e', ⟨T1, T2, t1, t2, tj, r, q⟩, h => by
    simp only [List.getElem?_cons_zero, Option.some.injEq] at h
    subst h
    exact ⟨v, T1, T2, rfl, t1, t2, tj, r, Fp0, T2, fun _ x => x.elim, fun _ x => x, fun _ x _ => x, rfl, q⟩
  | e :: es, v :: vs, S, i + 1, e', ⟨T1, T2, t1, t2, tj, r, q⟩, h => by
    simp only [List.getElem?_cons_succ] at h
    obtain ⟨u, U1, U2, hu, u1, u2, uj, ru, rest⟩ := EVsR.pick q h
    exact ⟨u, U1, fun a => T1 a ∨ U2 a, by simpa using hu, fun a x => t2 a (u1 a x), fun a x => x.elim (t1 a) fun y => t2 a (u2 a y), fun a x y => y.elim (fun z => tj a z (u1 a x)) (uj a x), ru, T1, U2, fun _ x => .inl x, fun _ x => .inr x, fun a x y => tj a x (u2 a y), r, rest⟩
theorem EVsR.sel : ∀ {p : List Nat} {es : List EV} {vs : List V} {S : Fp}, p.Nodup → (∀ i ∈ p, i < es.length) → EVsR K Z H σ es vs S → EVsR K Z H σ (Pm.sel p es) (Pm.sel p vs) S
  | [], _, _, _, _, _, _ => trivial
  | i :: p, es, vs, S, nd, hl, r => by
    have hi := hl i List.mem_cons_self
    obtain ⟨v, S1, S2, hv, s1, s2, dj, re, rest⟩ := r.pick (List.getElem?_eq_getElem hi)
    have nd' := List.nodup_cons.mp nd
    have ih := EVsR.sel nd'.2 (fun j hj => by rw [List.length_set]; exact hl j (List.mem_cons_of_mem _ hj)) rest
    have same : ∀ {α : Type} (xs : List α) (y : α), Pm.sel p (xs.set i y) = Pm.sel p xs := fun {α} xs y => sel_set nd'.1
    rw [same, same] at ih
    have e1 : Pm.sel (i :: p) es = es[i] :: Pm.sel p es := by
      unfold Pm.sel
      rw [List.filterMap_cons, List.getElem?_eq_getElem hi]
    have e2 : Pm.sel (i :: p) vs = v :: Pm.sel p vs := by
      unfold Pm.sel
      rw [List.filterMap_cons, hv]
    rw [e1, e2]
    exact ⟨S1, S2, s1, s2, dj, re, ih⟩
def selA (n : Nat) (p : List Nat) (fs : M (List EV)) : M (List EV) := bnd fs fun es => fun ρ => if es.length = n ∧ p.Nodup ∧ (∀ i ∈ p, i < n) then .ok (sel p es) ρ else .stuck
theorem tA_sel {p : List Nat} {fs : M (List EV)} {Q : List V → Hp → Prop} {n : Nat} (h : tA K mg W (selA n p fs) σ H Q) : tA K mg W fs σ H fun vs H1 => vs.length = n ∧ Q (sel p vs) H1 := by
  obtain ⟨Z, ρ, S, w, er, o⟩ := h
  refine ⟨Z, ρ, S, w, er, ?_⟩
  simp only [selA, bnd] at o
  cases e1 : fs ρ with
  | stuck => rw [e1] at o; exact o
  | exc x ρ1 => rw [e1] at o; exact o
  | ok es ρ1 =>
    simp only [e1] at o
    intro vs Z1 H1 S1 Sa st1 dj1 er1 r1
    by_cases hn : es.length = n ∧ p.Nodup ∧ (∀ i ∈ p, i < n)
    · rw [if_pos hn] at o
      exact ⟨r1.length.symm.trans hn.1, o (sel p vs) Z1 H1 S1 Sa st1 dj1 er1 (r1.sel hn.2.1 fun i hi => by rw [hn.1]; exact hn.2.2 i hi)⟩
    · rw [if_neg hn] at o
      exact o.elim
/-- how n values and the keywords ks behind them bind: in the order p -/
def KwB (K : PySem.W.Frag) (fd : FuncData) (ps ks : List Str) (n : Nat) (p : List Nat) : Prop := ∀ (s : Shared) (us ws : List Value), K.In s.heap → us.length = n → ws.length = ks.length → BindsTo s fd ⟨us, ks.zip ws⟩ (ps.zip (sel p (us ++ ws)))
theorem KwB.of {fd : FuncData} {ps ks : List Str} {n : Nat} {p : List Nat} (h : ∀ us ws : List Value, us.length = n → ws.length = ks.length → bindArgs fd ⟨us, ks.zip ws⟩ = pure (ps.zip (sel p (us ++ ws)))) : KwB K fd ps ks n p := fun _ us ws _ h1 h2 => .of_eq (h us ws h1 h2)
theorem vals_sel {p : List Nat} {vs : List V} {us : List Value} (r : Vals vs us) : Vals (sel p vs) (sel p us) := by
  induction p with
  | nil => exact .nil
  | cons i p ih =>
    unfold Pm.sel
    rw [List.filterMap_cons, List.filterMap_cons]
    cases e : vs[i]? with
    | none =>
      have e2 : us[i]? = none := by
        rw [List.getElem?_eq_none_iff] at e ⊢
        rw [← r.length]; exact e
      rw [e2]
      exact ih
    | some v =>
      obtain ⟨u, e2, ru⟩ := r.get e
      rw [e2]
      exact .cons ru ih
theorem vals_app : ∀ {xs ys : List V} {us ws : List Value}, Vals xs us → Vals ys ws → Vals (xs ++ ys) (us ++ ws)
  | _, _, _, _, .nil, r2 => r2
  | _, _, _, _, .cons h r, r2 => .cons h (vals_app r r2)
theorem PK.of {kws : List Keyword} {t t' : TA} (h : PK X kws t) (i : ∀ σ H Q, t' σ H Q → t σ H Q) : PK X kws t' := ⟨fun o p s σ H Q I q => h.run o p s σ H Q I (i σ H Q q)⟩
theorem pk_N : PK X [] (tA X.K X.mg W aNil) := PK.of pk_nil fun _ _ _ => tA_nil
theorem pk_C {nm : Option Str} {e : Expr} {kpos : Pos} {kws : List Keyword} {f : M EV} {fs : M (List EV)} (h : PE X e (tE X.K X.mg W f)) (hs : PK X kws (tA X.K X.mg W fs)) : PK X (⟨nm, e, kpos⟩ :: kws) (tA X.K X.mg W (aCons f fs)) := PK.of (pk_cons h hs) fun _ _ _ => tA_cons
theorem tA_mono {f : M (List EV)} {Q Q' : List V → Hp → Prop} (i : ∀ v H, Q v H → Q' v H) (h : tA K mg W f σ H Q) : tA K mg W f σ H Q' := by
  obtain ⟨Z, ρ, S, w, er, o⟩ := h
  refine ⟨Z, ρ, S, w, er, ?_⟩
  cases e : f ρ with
  | stuck => rw [e] at o; exact o
  | exc x ρ1 => rw [e] at o; exact o
  | ok ev ρ1 =>
    rw [e] at o
    exact fun v Z' H' S' Sd st dj er r => i _ _ (o v Z' H' S' Sd st dj er r)
theorem end_run {pins : List (Addr × Obj)} {s : Shared} {Q : VK} {a : Args} {f : Addr} (h : codeAny (model X.prog X.w) X.A (.call (.ref f) a) (fun r s' => match r with
      | .ok (.ret u) => EP X pins σ Q u s'
      | .ok _ => False
      | .error e => X.xe e s') s) : wpAny (model X.prog X.w) X.A (call (.ref f) a.pos a.kw) (EP X pins σ Q) X.xe s := by
  refine wpAny_call (codeAny_mono h fun r s' hq => ?_)
  cases r with
  | error e => exact hq
  | ok fl =>
    cases fl with
    | ret u => exact hq
    | next => exact hq.elim
    | brk => exact hq.elim
    | cont => exact hq.elim
theorem pe_callGK {k n m : Nat} {f : Addr} {fd : FuncData} {ps ks : List Str} {pm : List Nat} {g : FSem} {x : Str} {p pos : Pos} {e : Expr} {es : List Expr} {kws : List Keyword} {fs fk : M (List EV)} (F : FnG X.prog X.w X.K X.mg X.base k f fd ps g) (hgd : X.A.guards = some []) (hr : Room k X.A) (tk : Takes X W)
    (hg : Gl X x) (hm : X.mg x = some (.ref f)) (hk : PySem.W.keepIn X.K (.ref f) = true) (hb : KwB X.K fd ps ks n pm) (ha : PA X (e :: es) (tA X.K X.mg W fs)) (hkw : PK X kws (tA X.K X.mg W fk)) (hdb : (x == ("__debug__" : Str)) = false)
    (hall : (backToKw pos (keywordEach kws X.env)).all (·.1.isSome) = true) (hks : (backToKw pos (keywordEach kws X.env)).filterMap (·.1) = ks) (hpl : ((backTo pos (starEach (e :: es) X.env)).any (·.1) || (backToKw pos (keywordEach kws X.env)).any (·.1.isNone)) = false)
    (he : starEach (e :: es) X.env = (false, eval e X.env) :: starEach es X.env) (hn : ks.length = m) :
    PE X (.Call (.Name x p) (e :: es) kws pos) (tE X.K X.mg W (callF g (selA (n + m) pm (aApp n m fs fk)))) := by
  refine ⟨fun pins s σ H Q I h => ?_⟩
  refine wpAny_Call_Name_kw (ld_glob I hg hm ?_ hdb)
  refine PySem.W.callWith_KW (h₀ := X.base) I.ok.mod.kin hk hall (thn (ha.run pos pins s σ H _ I (tA_app (tA_sel (tE_call h)))) fun us s1 ⟨vs, H1, I1, r1, q1⟩ => ?_) hpl he
  refine thn (hkw.run pos pins s1 σ H1 _ I1 q1) fun ws s2 ⟨zs, H2, I2, r2, q2⟩ => ⟨I2.kIn, ?_⟩
  obtain ⟨l1, l2, _, q⟩ := q2
  rw [hks]
  refine end_run (run_G (ws := sel pm (us ++ ws)) F hgd hr tk (fun hl => ?_) I2 (vals_sel (vals_app r1 r2)) q)
  exact hb s2 us ws I2.kIn (r1.length.symm.trans l1) (r2.length.symm.trans (l2.trans hn.symm))
theorem pe_callGK0 {k m : Nat} {f : Addr} {fd : FuncData} {ps ks : List Str} {pm : List Nat} {g : FSem} {x : Str} {p pos : Pos} {kws : List Keyword} {fk : M (List EV)} (F : FnG X.prog X.w X.K X.mg X.base k f fd ps g) (hgd : X.A.guards = some []) (hr : Room k X.A) (tk : Takes X W)
    (hg : Gl X x) (hm : X.mg x = some (.ref f)) (hk : PySem.W.keepIn X.K (.ref f) = true) (hb : KwB X.K fd ps ks 0 pm) (hkw : PK X kws (tA X.K X.mg W fk)) (hdb : (x == ("__debug__" : Str)) = false)
    (hall : (backToKw pos (keywordEach kws X.env)).all (·.1.isSome) = true) (hks : (backToKw pos (keywordEach kws X.env)).filterMap (·.1) = ks) (hpl : ((backTo pos (starEach [] X.env)).any (·.1) || (backToKw pos (keywordEach kws X.env)).any (·.1.isNone)) = false) (hn : ks.length = m) :
    PE X (.Call (.Name x p) [] kws pos) (tE X.K X.mg W (callF g (selA m pm fk))) := by
  refine ⟨fun pins s σ H Q I h => ?_⟩
  refine wpAny_Call_Name_kw (ld_glob I hg hm ?_ hdb)
  refine PySem.W.callWith_KW0 (h₀ := X.base) I.ok.mod.kin hk hall ?_ hpl
  refine thn (hkw.run pos pins s σ H _ I (tA_sel (tE_call h))) fun ws s2 ⟨zs, H2, I2, r2, l2, q⟩ => ⟨I2.kIn, ?_⟩
  rw [hks]
  refine end_run (run_G (ws := sel pm ws) F hgd hr tk (fun hl => ?_) I2 (vals_sel r2) q)
  exact hb s2 [] ws I2.kIn rfl (r2.length.symm.trans (l2.trans hn.symm))
end
end Pm
/-! PmR: the rules with their side conditions tried. -/
namespace Pm
open PySem PySem.Spec PyProof.Rows L2
section
variable {K : PySem.W.Frag} {mg : Str → Option Value} {W : WX} {Z H : Hp} {S : Fp} {σ : Sl} {X : Cx} {A : Nat → Bool} {a b c e l tg iter : Expr} {es rest : List Expr} {pos p2 : Pos} {f fa fb fc : M EV} {fs : M (List EV)} {ta tb : M Bool}
/-! ### values -/
theorem E_loc (i : Nat) {x : Str} (hN : X.N[i]? = some x := by rfl) (hv : Vis X.env.scope x := by first | exact Or.inl rfl | exact Or.inr (Or.inl rfl) | exact Or.inr (Or.inr rfl)) (hd : (x == ("__debug__" : Str)) = false := by decide) (hcd : (x == ("__classdict__" : Str)) = false := by decide) :
    PE X (.Name x pos) (tE X.K X.mg W (loc i)) := pe_loc hN hv hd hcd
theorem E_int {i j} : PE X (.Constant (.int i) j pos) (tE X.K X.mg W (con (.int i))) := PE.of pe_int fun _ _ _ => tE_con fun _ _ => rfl
theorem E_str {x j} : PE X (.Constant (.str x) j pos) (tE X.K X.mg W (con (.str x))) := PE.of pe_str fun _ _ _ => tE_con fun _ _ => rfl
theorem E_bl {x j} : PE X (.Constant (.bool x) j pos) (tE X.K X.mg W (con (.bl x))) := PE.of pe_bl fun _ _ _ => tE_con fun _ _ => rfl
theorem E_non {j} : PE X (.Constant .none j pos) (tE X.K X.mg W (con .non)) := PE.of pe_non fun _ _ _ => tE_con fun _ _ => rfl
/-- a builtin's name as a value -/
theorem E_blt {x : Str} {u : V} {w : Value} (hm : X.mg x = none) (hv : bootBuiltins x = some w) (r : RelV u w := by rfl) (hg : Gl X x := by rfl) (hn : x ≠ "__name__" := by decide) (hd : (x == ("__debug__" : Str)) = false := by decide) : PE X (.Name x pos) (tE X.K X.mg W (con (.op u))) :=
  PE.of (pe_bltn hg hm hv r hn hd) fun _ _ _ => tE_con fun _ _ => rfl
theorem A_0 : PA X [] (tA X.K X.mg W aNil) := pa_n
theorem A_c (h : PE X e (tE X.K X.mg W f)) (hr : PA X es (tA X.K X.mg W fs)) (hs : starEach (e :: es) X.env = (false, eval e X.env) :: starEach es X.env := by rfl) : PA X (e :: es) (tA X.K X.mg W (aCons f fs)) := pa_c h hr hs
theorem E_op {op : Operator} {g : List D → Option D} (ho : Opd X (binaryOp op) g) (ha : PE X a (tE X.K X.mg W fa)) (hb : PE X b (tE X.K X.mg W fb)) : PE X (.BinOp a op b pos) (tE X.K X.mg W (bin g fa fb)) := pe_bin ho ha hb
theorem E_cmp {op : CmpOp} {g : List D → Option D} (ho : Opd X (compareOp op) g) (ha : PE X a (tE X.K X.mg W fa)) (hb : PE X b (tE X.K X.mg W fb)) (hm : behindInMarks op b = false := by first | exact nomark _ | rfl) : PE X (.Compare a [op] [b] pos) (tE X.K X.mg W (bin g fa fb)) := pe_cmpG ho ha hb hm
theorem T_cmp {op : CmpOp} {g : List D → Option D} (ho : Opd X (compareOp op) g) (ha : PE X a (tE X.K X.mg W fa)) (hb : PE X b (tE X.K X.mg W fb)) (hm : behindInMarks op b = false := by first | exact nomark _ | rfl) : PT X (.Compare a [op] [b] pos) (tT X.K X.mg W (tst (bin g fa fb))) := pt_cmpG ho ha hb hm
theorem T_v (h : PE X e (tE X.K X.mg W f)) (he : ∀ whole, isTrue e X.env whole = (do let v ← whole; standAt e.pos; holding [v] (truthy v)) := by intro _; rfl) : PT X e (tT X.K X.mg W (tst f)) := pt_v h he
theorem T_not (h : PT X a (tT X.K X.mg W ta)) : PT X (.UnaryOp .Not a pos) (tT X.K X.mg W (notT ta)) := PT.of (pt_not h) fun _ _ _ q => tT_not q
theorem W_and1 (h : PT X a (tT X.K X.mg W ta)) : PW X (.BoolOp .And [a] pos) (tT X.K X.mg W ta) := pw_and1 h
theorem W_or1 (h : PT X a (tT X.K X.mg W ta)) : PW X (.BoolOp .Or [a] pos) (tT X.K X.mg W ta) := pw_or1 h
theorem W_and (h : PT X a (tT X.K X.mg W ta)) (h2 : PW X (.BoolOp .And (b :: rest) pos) (tT X.K X.mg W tb)) : PW X (.BoolOp .And (a :: b :: rest) pos) (tT X.K X.mg W (andT ta tb)) := PW.of (pw_and h h2) fun _ _ _ q => tT_and q
theorem W_or (h : PT X a (tT X.K X.mg W ta)) (h2 : PW X (.BoolOp .Or (b :: rest) pos) (tT X.K X.mg W tb)) : PW X (.BoolOp .Or (a :: b :: rest) pos) (tT X.K X.mg W (orT ta tb)) := PW.of (pw_or h h2) fun _ _ _ q => tT_or q
theorem E_one {op} (h : PE X a (tE X.K X.mg W f)) : PE X (.BoolOp op [a] pos) (tE X.K X.mg W f) := pe_one h
theorem E_and (h : PE X a (tE X.K X.mg W fa)) (h2 : PE X (.BoolOp .And (b :: rest) pos) (tE X.K X.mg W fb)) : PE X (.BoolOp .And (a :: b :: rest) pos) (tE X.K X.mg W (andE fa fb)) := PE.of (pe_and h h2) fun _ _ _ q => tE_and q
theorem E_or (h : PE X a (tE X.K X.mg W fa)) (h2 : PE X (.BoolOp .Or (b :: rest) pos) (tE X.K X.mg W fb)) : PE X (.BoolOp .Or (a :: b :: rest) pos) (tE X.K X.mg W (orE fa fb)) := PE.of (pe_or h h2) fun _ _ _ q => tE_or q
theorem E_not (h : PE X a (tE X.K X.mg W fa)) : PE X (.UnaryOp .Not a pos) (tE X.K X.mg W (notE fa)) := PE.of (pe_not h) fun _ _ _ q => tE_not q
theorem E_if (h : PT X c (tT X.K X.mg W ta)) (h1 : PE X a (tE X.K X.mg W fa)) (h2 : PE X b (tE X.K X.mg W fb)) : PE X (.IfExp c a b pos) (tE X.K X.mg W (ifE ta fa fb)) := PE.of (pe_ifExp h h1 h2) fun _ _ _ q => tE_if q
def opNeg : List D → Option D
  | [.int i] => some (.int (-i))
  | _ => none
theorem snd_neg : Snd X (fun vs H Q => ∃ x, vs = [x] ∧ rU (fun i => .int (-i)) x H Q) opNeg := by
  refine snd_pure fun Z H S ds vs d Q w r e q => ?_
  unfold opNeg at e
  split at e
  · rename_i i
    simp only [Option.some.injEq] at e
    subst e
    obtain ⟨v, rfl, rv⟩ := rb1 r
    have rv' : v = .int i := rv
    subst rv'
    exact ⟨_, rfl, i, rfl, q _ rfl⟩
  · cases e
theorem one_of {r : V → Hp → VK → Prop} {Q : VK} (h : tA K mg W (aCons f aNil) σ H fun vs H1 => ∃ x, vs = [x] ∧ r x H1 Q) : tUn r (tE K mg W f) σ H Q := by
  refine tE_mono (fun v H1 q => ?_) (tA_cons h)
  obtain ⟨x, hx, q⟩ := tA_nil q
  cases hx
  exact q
theorem E_neg (h : PE X a (tE X.K X.mg W fa)) : PE X (.UnaryOp .USub a pos) (tE X.K X.mg W (un opNeg fa)) := PE.of (pe_un un_neg h) fun _ _ _ q => one_of (tE_app snd_neg q)
theorem E_idx (ha : PE X a (tE X.K X.mg W fa)) (hb : PE X b (tE X.K X.mg W fb)) (hs : PlainIx b := by exact fun _ _ => rfl) : PE X (.Subscript a b pos) (tE X.K X.mg W (idx (aCons fa (aCons fb aNil)))) := pe_idx ha hb hs
theorem E_cut {lo hi : Option Expr} {lf hf : Option (M EV)} (he : PE X e (tE X.K X.mg W f)) (hl : PO X lo (tO X.K X.mg W (partO lf))) (hh : PO X hi (tO X.K X.mg W (partO hf))) : PE X (.Subscript e (.Slice lo hi none p2) pos) (tE X.K X.mg W (cut f lf hf)) :=
  PE.of (pe_slice (SlR.or sl_list (SlR.or sl_tupA sl_str)) he hl hh) fun _ _ _ q => tE_cut q
theorem O_0 : PO X none (tO X.K X.mg W (partO none)) := po_N
theorem O_1 (h : PE X e (tE X.K X.mg W f)) : PO X (some e) (tO X.K X.mg W (partO (some f))) := po_S h
theorem E_T {x1 : Nat} (h : PA X es (tA X.K X.mg W fs)) : PE X (.Tuple es x1 pos) (tE X.K X.mg W (disp false .tup fs)) := pe_T h
theorem E_L (h : PA X es (tA X.K X.mg W fs)) : PE X (.List es pos) (tE X.K X.mg W (disp true .lst fs)) := pe_L h
theorem E_blF {x : Str} {id : String} {p : Pos} {r : List V → Hp → VK → Prop} {g : List D → Option D} (hs : Snd X r g) (hc : CallR X (.builtin id) r) (hm : X.mg x = none) (ha : PA X (e :: es) (tA X.K X.mg W fs)) (hv : bootBuiltins x = some (.builtin id) := by first | exact PySem.boot_len | rfl) (hg : Gl X x := by rfl)
    (hn : x ≠ "__name__" := by decide) (hdb : (x == ("__debug__" : Str)) = false := by decide) (he : starEach (e :: es) X.env = (false, eval e X.env) :: starEach es X.env := by rfl) (hpl : (backTo pos (starEach es X.env)).any (·.1) = false := by rfl) :
    PE X (.Call (.Name x p) (e :: es) [] pos) (tE X.K X.mg W (app g fs)) := pe_blt hs hc hg hm hv ha hn hdb he hpl
theorem E_blG {x : Str} {id : String} {p : Pos} {r : List V → Hp → VK → Prop} {g : List D → Option D} (hs : Snd X r g) (hc : CallR X (.builtin id) r) (hm : X.mg x = none) (ha : PA X (e :: es) (tA X.K X.mg W fs)) (hv : bootBuiltins x = some (.builtin id) := by rfl) (hg : Gl X x := by rfl)
    (hn : x ≠ "__name__" := by decide) (hdb : (x == ("__debug__" : Str)) = false := by decide) (he : starEach (e :: es) X.env = (false, eval e X.env) :: starEach es X.env := by rfl) (hpl : (backTo pos (starEach es X.env)).any (·.1) = false := by rfl) :
    PE X (.Call (.Name x p) (e :: es) [] pos) (tE X.K X.mg W (appF g fs)) := pe_bltF hs hc hg hm hv ha hn hdb he hpl
theorem E_ty {x : Str} {T : String} {p : Pos} {r : List V → Hp → VK → Prop} {g : List D → Option D} (hs : Snd X r g) (hc : CallR X (.type T) r) (hm : X.mg x = none) (ha : PA X (e :: es) (tA X.K X.mg W fs)) (hv : bootBuiltins x = some (.type T) := by rfl) (hg : Gl X x := by rfl)
    (hn : x ≠ "__name__" := by decide) (hdb : (x == ("__debug__" : Str)) = false := by decide) (he : starEach (e :: es) X.env = (false, eval e X.env) :: starEach es X.env := by rfl) (hpl : (backTo pos (starEach es X.env)).any (·.1) = false := by rfl) :
    PE X (.Call (.Name x p) (e :: es) [] pos) (tE X.K X.mg W (app g fs)) := pe_bty hs hc hg hm hv ha hn hdb he hpl
theorem E_tyG {x : Str} {T : String} {p : Pos} {r : List V → Hp → VK → Prop} {g : List D → Option D} (hs : Snd X r g) (hc : CallR X (.type T) r) (hm : X.mg x = none) (ha : PA X (e :: es) (tA X.K X.mg W fs)) (hv : bootBuiltins x = some (.type T) := by rfl) (hg : Gl X x := by rfl)
    (hn : x ≠ "__name__" := by decide) (hdb : (x == ("__debug__" : Str)) = false := by decide) (he : starEach (e :: es) X.env = (false, eval e X.env) :: starEach es X.env := by rfl) (hpl : (backTo pos (starEach es X.env)).any (·.1) = false := by rfl) :
    PE X (.Call (.Name x p) (e :: es) [] pos) (tE X.K X.mg W (appF g fs)) := pe_btyF hs hc hg hm hv ha hn hdb he hpl
theorem E_app {j : Nat} {x : Str} {fe : M EV} {apos cpos : Pos} (he : PE X e (tE X.K X.mg W fe)) (hj : X.N[j]? = some x := by rfl) (hv : Vis X.env.scope x := by first | exact Or.inl rfl | exact Or.inr (Or.inl rfl) | exact Or.inr (Or.inr rfl)) (hd : (x == ("__debug__" : Str)) = false := by decide) (hcd : (x == ("__classdict__" : Str)) = false := by decide)
    (hbase : attributeBase (.Name x p2) "append" X.env (eval (.Name x p2) X.env) = eval (.Name x p2) X.env := by rfl)
    (hfew : ((backTo cpos (starEach [e] X.env)).all (fun x => !x.1) && (backToKw cpos (keywordEach [] X.env)).all (fun x => x.1.isSome)
      && decide ([e].length + ([] : List Keyword).length + (if ([] : List Keyword).isEmpty then 0 else 1) < 30)) = true := by rfl)
    (hline : (apos.endLine == cpos.line) = true := by rfl) (hs : starEach [e] X.env = (false, eval e X.env) :: starEach [] X.env := by rfl) (hplain : (backTo cpos (starEach [] X.env)).any (·.1) = false := by rfl) :
    PE X (.Call (.Attribute (.Name x p2) "append" apos) [e] [] cpos) (tE X.K X.mg W (appd j fe)) := pe_append hj hv hd hcd he hbase hfew hline hs hplain
/-- what a body needs to call a def -/
structure Fit (X : Cx) (W : WX) (k : Nat) : Prop where
  gd : X.A.guards = some []
  room : Room k X.A
  tk : Takes X W
theorem Fit.blk {k : Nat} {s : Shared} {H0 : Hp} {scope : Scope} {cenv : PySem.Env} {fp : List Addr} (h : Fit X W k) : Fit (X.blk s H0 scope cenv fp) wF k := ⟨h.gd, h.room, fun u s' ⟨_, _, _, _, _, _, _, _, _, _, _, _, _, _, _, _, z⟩ => z.elim⟩
theorem E_ty1 {T : String} (hm : X.mg T = none) (hv : bootBuiltins (T : Str) = some (.type T) := by rfl) (hg : Gl X (T : Str) := by rfl) (hn : (T : Str) ≠ "__name__" := by decide) (hd : ((T : Str) == ("__debug__" : Str)) = false := by decide) : PE X (.Name (T : Str) pos) (tE X.K X.mg W (con (.op (.ty T)))) :=
  E_blt hm hv rfl hg hn hd
/-- a def as the module knows it -/
structure Def (P : Program) (w : World) (K : PySem.W.Frag) (mg : Str → Option Value) (base : Heap) (k : Nat) (x : Str) (f : Addr) (fd : FuncData) (ps : List Str) (g : FSem) : Prop where
  ok : FnG P w K mg base k f fd ps g
  mg : mg x = some (.ref f)
  kp : PySem.W.keepIn K (.ref f) = true
  bd : Binds K fd ps []
theorem E_call {k n : Nat} {fA : Addr} {fd : FuncData} {ps : List Str} {g : FSem} {x : Str} {p : Pos} (F : Def X.prog X.w X.K X.mg X.base k x fA fd ps g) (ft : Fit X W n) (ha : PA X (e :: es) (tA X.K X.mg W fs)) (hk : k ≤ n := by first | decide | omega) (hg : Gl X x := by rfl) (hdb : (x == ("__debug__" : Str)) = false := by decide)
    (he : starEach (e :: es) X.env = (false, eval e X.env) :: starEach es X.env := by rfl) (hpl : (backTo pos (starEach es X.env)).any (·.1) = false := by rfl) : PE X (.Call (.Name x p) (e :: es) [] pos) (tE X.K X.mg W (callF g fs)) :=
  pe_callG F.ok ft.gd (ft.room.mono hk) ft.tk hg F.mg F.kp F.bd ha hdb he hpl
theorem E_call0 {k n : Nat} {fA : Addr} {fd : FuncData} {ps : List Str} {g : FSem} {x : Str} {p : Pos} (F : Def X.prog X.w X.K X.mg X.base k x fA fd ps g) (ft : Fit X W n) (hk : k ≤ n := by first | decide | omega) (hg : Gl X x := by rfl) (hdb : (x == ("__debug__" : Str)) = false := by decide) :
    PE X (.Call (.Name x p) [] [] pos) (tE X.K X.mg W (callF g aNil)) := pe_callG0 F.ok ft.gd (ft.room.mono hk) ft.tk hg F.mg F.kp F.bd hdb
theorem K_0 : PK X [] (tA X.K X.mg W aNil) := pk_N
theorem K_c {nm : Option Str} {kpos : Pos} {kws : List Keyword} (h : PE X e (tE X.K X.mg W f)) (hs : PK X kws (tA X.K X.mg W fs)) : PK X (⟨nm, e, kpos⟩ :: kws) (tA X.K X.mg W (aCons f fs)) := pk_C h hs
theorem E_callK {k r n m : Nat} {fA : Addr} {fd : FuncData} {ps ks : List Str} {pm : List Nat} {g : FSem} {x : Str} {p : Pos} {kws : List Keyword} {fk : M (List EV)} (F : Def X.prog X.w X.K X.mg X.base k x fA fd ps g) (ft : Fit X W r) (hb : KwB X.K fd ps ks n pm) (ha : PA X (e :: es) (tA X.K X.mg W fs)) (hkw : PK X kws (tA X.K X.mg W fk))
    (hk : k ≤ r := by first | decide | omega) (hg : Gl X x := by rfl) (hdb : (x == ("__debug__" : Str)) = false := by decide) (hall : (backToKw pos (keywordEach kws X.env)).all (·.1.isSome) = true := by rfl) (hks : (backToKw pos (keywordEach kws X.env)).filterMap (·.1) = ks := by rfl)
    (hpl : ((backTo pos (starEach (e :: es) X.env)).any (·.1) || (backToKw pos (keywordEach kws X.env)).any (·.1.isNone)) = false := by rfl) (he : starEach (e :: es) X.env = (false, eval e X.env) :: starEach es X.env := by rfl) (hn : ks.length = m := by rfl) :
    PE X (.Call (.Name x p) (e :: es) kws pos) (tE X.K X.mg W (callF g (selA (n + m) pm (aApp n m fs fk)))) := pe_callGK F.ok ft.gd (ft.room.mono hk) ft.tk hg F.mg F.kp hb ha hkw hdb hall hks hpl he hn
theorem E_callK0 {k r m : Nat} {fA : Addr} {fd : FuncData} {ps ks : List Str} {pm : List Nat} {g : FSem} {x : Str} {p : Pos} {kws : List Keyword} {fk : M (List EV)} (F : Def X.prog X.w X.K X.mg X.base k x fA fd ps g) (ft : Fit X W r) (hb : KwB X.K fd ps ks 0 pm) (hkw : PK X kws (tA X.K X.mg W fk))
    (hk : k ≤ r := by first | decide | omega) (hg : Gl X x := by rfl) (hdb : (x == ("__debug__" : Str)) = false := by decide) (hall : (backToKw pos (keywordEach kws X.env)).all (·.1.isSome) = true := by rfl) (hks : (backToKw pos (keywordEach kws X.env)).filterMap (·.1) = ks := by rfl)
    (hpl : ((backTo pos (starEach [] X.env)).any (·.1) || (backToKw pos (keywordEach kws X.env)).any (·.1.isNone)) = false := by rfl) (hn : ks.length = m := by rfl) :
    PE X (.Call (.Name x p) [] kws pos) (tE X.K X.mg W (callF g (selA m pm fk))) := pe_callGK0 F.ok ft.gd (ft.room.mono hk) ft.tk hg F.mg F.kp hb hkw hdb hall hks hpl hn
/-! ### statements -/
variable {st : Stmt} {sts s1 s2 : List Stmt} {m1 m2 : M Fl}
theorem B_0 : PSs X [] (tS X.K X.mg W A sNx) := PSs.of pss_nil fun _ _ _ q => tS_nx q
theorem B_c (h : PS X st (tS X.K X.mg W A m1)) (h2 : PSs X sts (tS X.K X.mg W A m2)) : PSs X (st :: sts) (tS X.K X.mg W A (seq m1 m2)) := PSs.of (pss_cons h h2) fun _ _ _ q => tS_seq q
theorem B_1 (h : PS X st (tS X.K X.mg W A m1)) : PSs X [st] (tS X.K X.mg W A m1) := pss_one h
theorem S_if (h : PT X c (tT X.K X.mg W ta)) (h1 : PSs X s1 (tS X.K X.mg W A m1)) (h2 : PSs X s2 (tS X.K X.mg W A m2)) : PS X (.If c s1 s2 pos) (tS X.K X.mg W A (ite ta m1 m2)) := PS.of (ps_if h h1 h2) fun _ _ _ q => tS_if q
theorem S_ret (h : PE X e (tE X.K X.mg W f)) : PS X (.Return (some e) pos) (tS X.K X.mg W A (rtn f)) := PS.of (ps_ret h) fun _ _ _ q => tS_rtn q
/-- a def's own local handed back: it moves -/
theorem E_mov (i : Nat) {x : Str} (hN : X.N[i]? = some x := by rfl) (hv : Vis X.env.scope x := by first | exact Or.inl rfl | exact Or.inr (Or.inl rfl) | exact Or.inr (Or.inr rfl)) (hd : (x == ("__debug__" : Str)) = false := by decide) (hcd : (x == ("__classdict__" : Str)) = false := by decide) :
    PE X (.Name x pos) (tE X.K X.mg W (mov i)) := PE.of (pe_var hN hv hd hcd) fun _ _ _ => tE_mov
theorem S_ex (h : PE X e (tE X.K X.mg W f)) (hs : swapsWith e none pos.line X.env = pure false := by rfl) : PS X (.Expr e pos) (tS X.K X.mg W A (drp f)) := PS.of (ps_expr h hs) fun _ _ _ q => tS_drp q
theorem S_pass : PS X (.Pass pos) (tS X.K X.mg W A sNx) := PS.of ps_pass fun _ _ _ q => tS_nx q
def sBk : M Fl := ret .bk
def sCt : M Fl := ret .ct
theorem S_bk : PS X (.Break pos) (tS X.K X.mg W A sBk) := PS.of ps_break fun D σ H q => by
  obtain ⟨Z, ρ, S, w, er, o⟩ := q
  exact o σ .non Z H S Fp0 (Keep.refl σ) w.nil (fun _ _ x => x) er trivial
theorem S_ct : PS X (.Continue pos) (tS X.K X.mg W A sCt) := PS.of ps_continue fun D σ H q => by
  obtain ⟨Z, ρ, S, w, er, o⟩ := q
  exact o σ .non Z H S Fp0 (Keep.refl σ) w.nil (fun _ _ x => x) er trivial
theorem S_wh (hp : PassesOwn (model X.prog X.w) X.A X.env X.xe) (hc : PT X c (tT X.K X.mg W ta)) (hb : PSs X s1 (tS X.K X.mg W A m1)) : PS X (.While c s1 [] pos) (tS X.K X.mg W A (whl ta m1)) := ps_whl hp hc hb
theorem S_for {s : M (List D)} {g : Tg} (hp : PassesOwn (model X.prog X.w) X.A X.env X.xe) (hi : PI X tg iter (tI X.K X.mg W s)) (hg : PG X tg (tG X.K A g)) (hb : PSs X s1 (tS X.K X.mg W A m1)) (hc : X.calm = true := by rfl) (hs : ∀ x, foldedSetIterable iter X.env x = pure x := by intro _; rfl) :
    PS X (.For tg iter s1 [] pos) (tS X.K X.mg W A (forS s g m1)) := ps_forS hp hc hi hg hb hs
theorem S_set {i : Nat} {x : Str} {pos' : Pos} (he : PE X e (tE X.K X.mg W f)) (hN : X.N.Nodup) (hA : A i = true := by rfl) (hi : X.N[i]? = some x := by rfl) (hx : Loc X.env.scope x := by first | exact .inl rfl | exact .inr rfl) (hs : swapsWith e (some (.Name x pos')) pos.line X.env = pure false := by rfl)
    (hf : X.fn x = true ∨ X.env.scope.names.lookup x = some .local := by first | exact .inl rfl | exact .inr rfl) : PS X (.Assign [.Name x pos'] e pos) (tS X.K X.mg W A (asg f (gN i))) := ps_N hN hi hx hA he hs hf
theorem S_tg {g : Tg} (he : PE X e (tE X.K X.mg W f)) (hg : PG X tg (tG X.K A g)) (hs : swapsWithSole [tg] e pos.line X.env = pure false := by rfl) (hw : swappedStores [tg] e X.env = pure none := by rfl) (h1 : (assignEach [tg] X.env).map (·.2) = [assign tg X.env] := by rfl) :
    PS X (.Assign [tg] e pos) (tS X.K X.mg W A (asg f g)) := ps_G he hg hs hw h1
theorem G_n {i : Nat} {x : Str} (hN : X.N.Nodup) (hA : A i = true := by rfl) (hi : X.N[i]? = some x := by rfl) (hx : Loc X.env.scope x := by first | exact .inl rfl | exact .inr rfl) (hf : X.fn x = true ∨ X.env.scope.names.lookup x = some .local := by first | exact .inl rfl | exact .inr rfl) :
    PG X (.Name x pos) (tG X.K A (gN i)) := pg_N hN hi hx hA hf
theorem G_i {j : Nat} {x : Str} {fi : M EV} (hi : PE X b (tE X.K X.mg wF fi)) (hj : X.N[j]? = some x := by rfl) (hv : Vis X.env.scope x := by first | exact Or.inl rfl | exact Or.inr (Or.inl rfl) | exact Or.inr (Or.inr rfl)) (hd : (x == ("__debug__" : Str)) = false := by decide) (hcd : (x == ("__classdict__" : Str)) = false := by decide)
    (ha : ∀ v, assign (.Subscript (.Name x p2) b pos) X.env v = (do
      let ov ← holding [v] (eval (.Name x p2) X.env)
      let iv ← holding [v, ov] (eval b X.env)
      standAt pos
      holding [v, ov, iv] (setItem ov iv v)
      release [v, ov, iv] []) := by intro _; rfl) : PG X (.Subscript (.Name x p2) b pos) (tG X.K A (gI j fi)) := pg_I hj hv hd hcd hi ha
theorem Gs_0 : PGs X [] (tGs X.K A gs0) := pgs_0
theorem Gs_c {g : Tg} {gs : List D → M Unit} (h1 : PG X e (tG X.K A g)) (h2 : PGs X es (tGs X.K A gs)) (hs : (assignEach (e :: es) X.env).map (·.2) = assign e X.env :: (assignEach es X.env).map (·.2) := by rfl) : PGs X (e :: es) (tGs X.K A (gsC g gs)) := pgs_C h1 h2 hs
theorem G_t {k n : Nat} {gs : List D → M Unit} (h : PGs X es (tGs X.K A gs)) (hc : X.calm = true := by rfl) (hn : (assignEach es X.env).length = n := by rfl) (hst : (assignEach es X.env).findIdx? (·.1) = none := by rfl) : PG X (.Tuple es k pos) (tG X.K A (gT gs n)) := pg_T hc h hn hst
theorem S_par {i j : Nat} {x y : Str} {px py pt : Pos} {kt k2 pt2} (ha : PA X [a, b] (tA X.K X.mg W fs)) (hN : X.N.Nodup) (hAi : A i = true := by rfl) (hAj : A j = true := by rfl) (hi : X.N[i]? = some x := by rfl) (hj : X.N[j]? = some y := by rfl) (hij : i ≠ j := by decide) (hc : X.calm = true := by rfl)
    (hx : X.env.scope.names.lookup x = some .local := by rfl) (hy : X.env.scope.names.lookup y = some .local := by rfl) (hw : swappedStores [.Tuple [.Name x px, .Name y py] kt pt] (.Tuple [a, b] k2 pt2) X.env = pure (some [x, y]) := by rfl)
    (hs : swapsWithSole [.Tuple [.Name x px, .Name y py] kt pt] (.Tuple [a, b] k2 pt2) pos.line X.env = pure false := by rfl) : PS X (.Assign [.Tuple [.Name x px, .Name y py] kt pt] (.Tuple [a, b] k2 pt2) pos) (tS X.K X.mg W A (par i j fs)) := ps_P hc hN hi hj hij hAi hAj hx hy ha hw hs
theorem S_aug {i : Nat} {x : Str} {op : Operator} {g : List D → Option D} {pos' : Pos} (ho : Opd X (inplaceOp op) g) (he : PE X e (tE X.K X.mg W f)) (hN : X.N.Nodup) (hA : A i = true := by rfl) (hi : X.N[i]? = some x := by rfl) (hx : Loc X.env.scope x := by first | exact .inl rfl | exact .inr rfl)
    (hf : X.fn x = true ∨ X.env.scope.names.lookup x = some .local := by first | exact .inl rfl | exact .inr rfl) : PS X (.AugAssign (.Name x pos') op e pos) (tS X.K X.mg W A (asg (bin g (loc i) f) (gN i))) := ps_augG hN hi hx hA he ho hf
/-! ### what is walked -/
theorem I_r1 {p : Pos} (hm : X.mg "range" = none) (ha : PE X a (tE X.K X.mg W fa)) (hg : Gl X "range" := by rfl) (h1 : starEach [a] X.env = [(false, eval a X.env)] := by rfl) : PI X tg (.Call (.Name "range" p) [a] [] pos) (tI X.K X.mg W (srcR1 (aCons fa aNil))) := pi_R1 hg hm (A_c ha A_0 h1) h1
theorem I_r2 {p : Pos} (hm : X.mg "range" = none) (ha : PE X a (tE X.K X.mg W fa)) (hb : PE X b (tE X.K X.mg W fb)) (hg : Gl X "range" := by rfl) (h1 : starEach [a, b] X.env = [(false, eval a X.env), (false, eval b X.env)] := by rfl) (h2 : starEach [b] X.env = [(false, eval b X.env)] := by rfl) : PI X tg (.Call (.Name "range" p) [a, b] [] pos) (tI X.K X.mg W (srcR2 (aCons fa (aCons fb aNil)))) := pi_R2 hg hm (A_c ha (A_c hb A_0 h2) (h1.trans (by rw [h2]))) h1 h2
theorem I_a (h : PE X l (tE X.K X.mg W f)) : PI X tg l (tI X.K X.mg W (srcA f)) := pi_A h
theorem E_lc {elt : Expr} {ifs : List Expr} {scope : Scope} {own : List (Str × Nat)} {s : M (List D)} {g : Tg} {cc : M Bool} {ee : M EV} (hN : X.N.Nodup) (hi : PI X tg iter (tI X.K X.mg W s)) (ok : BlkOk X.N X.env.scope scope own)
    (hg : ∀ (s : Shared) (H : Hp) (C : Addr) (cl : List (Str × Addr)) (fp : List Addr), PG (X.blk s H scope (compEnvC scope cl C X.env) fp) tg (tG X.K (ownA own) g)) (ht : ∀ (s : Shared) (H : Hp) (C : Addr) (cl : List (Str × Addr)) (fp : List Addr), PTs (X.blk s H scope (compEnvC scope cl C X.env) fp) ifs (tT X.K X.mg wF cc))
    (he : ∀ (s : Shared) (H : Hp) (C : Addr) (cl : List (Str × Addr)) (fp : List Addr), PE (X.blk s H scope (compEnvC scope cl C X.env) fp) elt (tE X.K X.mg wF ee)) (hc : X.calm = true := by rfl) (hs : ∀ x, foldedSetIterable iter X.env x = pure x := by intro _; rfl) :
    PE X (.ListComp elt [⟨tg, iter, ifs, 0⟩] scope pos) (tE X.K X.mg W (comp (own.map (·.2)) s g cc ee)) := pe_C hc hN hi ok hg ht he hs
theorem S_lc {i : Nat} {y : Str} {py spos : Pos} {elt : Expr} {ifs : List Expr} {scope : Scope} {own : List (Str × Nat)} {s : M (List D)} {g : Tg} {cc : M Bool} {ee : M EV} (hN : X.N.Nodup) (hi : PI X tg iter (tI X.K X.mg W s)) (ok : BlkOk X.N X.env.scope scope own)
    (hg : ∀ (s : Shared) (H : Hp) (C : Addr) (cl : List (Str × Addr)) (fp : List Addr), PG (X.blk s H scope (compEnvC scope cl C X.env) fp) tg (tG X.K (ownA own) g)) (ht : ∀ (s : Shared) (H : Hp) (C : Addr) (cl : List (Str × Addr)) (fp : List Addr), PTs (X.blk s H scope (compEnvC scope cl C X.env) fp) ifs (tT X.K X.mg wF cc))
    (he : ∀ (s : Shared) (H : Hp) (C : Addr) (cl : List (Str × Addr)) (fp : List Addr), PE (X.blk s H scope (compEnvC scope cl C X.env) fp) elt (tE X.K X.mg wF ee)) (hc : X.calm = true := by rfl) (hs : ∀ x, foldedSetIterable iter X.env x = pure x := by intro _; rfl)
    (hA : A i = true := by rfl) (hy : X.N[i]? = some y := by rfl) (hyl : X.env.scope.names.lookup y = some .local := by rfl) (hsw : swapsWith (.ListComp elt [⟨tg, iter, ifs, 0⟩] scope pos) (some (.Name y py)) spos.line X.env = pure true := by rfl) :
    PS X (.Assign [.Name y py] (.ListComp elt [⟨tg, iter, ifs, 0⟩] scope pos) spos) (tS X.K X.mg W A (asg (comp (own.map (·.2)) s g cc ee) (gN i))) := ps_C hc hN hy hyl hA hsw hi ok hg ht he hs
theorem Ts_0 : PTs X [] (tT X.K X.mg W yesT) := pts_N
theorem Ts_1 (h : PT X c (tT X.K X.mg W ta)) : PTs X [c] (tT X.K X.mg W ta) := pts_1 h
end
end Pm
set_option maxHeartbeats 2000000
/-! PmZk: list comprehensions of several clauses, over the hand layer's words. -/
namespace Pm
open PySem PySem.Spec PyProof.Rows L2
/-! ### a turn of a clause that has another one within it; of the last one -/
def turnO (LC : Expr) (k : Nat) (t i : Expr) (ifs : List Expr) (i1 : Expr) (it acc : Value) (env : PySem.Env) : Sem Fin := do
      standAt i.pos
      match ← pyNext it with
      | none => pure (.done .next)
      | some v =>
        letOwnedTupleGo t it v
        assign t env v
        let mut ok := true
        for c in ifs do
          if ok then ok ← isTrue c env (eval c env)
        if ok then
          let x ← eval i1 env
          standAt i1.pos
          let x ← foldedSetIterable i1 env x
          let _ ← runOwn (.compStart LC (k + 1) (← holding [x] (pyIter x)) acc env) env
        again (.compLoop LC k it acc env)
def turnL (LC : Expr) (k : Nat) (elt t i : Expr) (ifs : List Expr) (it acc : Value) (env : PySem.Env) : Sem Fin := do
      standAt i.pos
      match ← pyNext it with
      | none => pure (.done .next)
      | some v =>
        letOwnedTupleGo t it v
        assign t env v
        let mut ok := true
        for c in ifs do
          if ok then ok ← isTrue c env (eval c env)
        if ok then
          (do let _ ← call (.builtin "list.append") [acc, ← eval elt env])
        again (.compLoop LC k it acc env)
section
variable {elt t0 i0 t1 i1 t2 i2 : Expr} {ifs0 ifs1 ifs2 : List Expr} {scope : Scope} {pos : Pos} {it acc : Value} {env : PySem.Env}
abbrev LC2 (elt t0 i0 t1 i1 : Expr) (ifs0 ifs1 : List Expr) (scope : Scope) (pos : Pos) : Expr := .ListComp elt [⟨t0, i0, ifs0, 0⟩, ⟨t1, i1, ifs1, 0⟩] scope pos
abbrev LC3 (elt t0 i0 t1 i1 t2 i2 : Expr) (ifs0 ifs1 ifs2 : List Expr) (scope : Scope) (pos : Pos) : Expr := .ListComp elt [⟨t0, i0, ifs0, 0⟩, ⟨t1, i1, ifs1, 0⟩, ⟨t2, i2, ifs2, 0⟩] scope pos
theorem turn20 : compTurn (LC2 elt t0 i0 t1 i1 ifs0 ifs1 scope pos) 0 it acc env = turnO (LC2 elt t0 i0 t1 i1 ifs0 ifs1 scope pos) 0 t0 i0 ifs0 i1 it acc env := by rfl
theorem turn21 : compTurn (LC2 elt t0 i0 t1 i1 ifs0 ifs1 scope pos) 1 it acc env = turnL (LC2 elt t0 i0 t1 i1 ifs0 ifs1 scope pos) 1 elt t1 i1 ifs1 it acc env := by rfl
theorem turn30 : compTurn (LC3 elt t0 i0 t1 i1 t2 i2 ifs0 ifs1 ifs2 scope pos) 0 it acc env = turnO (LC3 elt t0 i0 t1 i1 t2 i2 ifs0 ifs1 ifs2 scope pos) 0 t0 i0 ifs0 i1 it acc env := by rfl
theorem turn31 : compTurn (LC3 elt t0 i0 t1 i1 t2 i2 ifs0 ifs1 ifs2 scope pos) 1 it acc env = turnO (LC3 elt t0 i0 t1 i1 t2 i2 ifs0 ifs1 ifs2 scope pos) 1 t1 i1 ifs1 i2 it acc env := by rfl
theorem turn32 : compTurn (LC3 elt t0 i0 t1 i1 t2 i2 ifs0 ifs1 ifs2 scope pos) 2 it acc env = turnL (LC3 elt t0 i0 t1 i1 t2 i2 ifs0 ifs1 ifs2 scope pos) 2 elt t2 i2 ifs2 it acc env := by rfl
end
section
variable {prog : Program} {w : World} {A : Around} {R : Result → Shared → Prop} {s : Shared} {elt0 elt t i i1 : Expr} {gens : List Comprehension} {ifs : List Expr} {scope : Scope} {pos : Pos} {it acc : Value} {env : PySem.Env} {k : Nat}
theorem loopO (hT : compTurn (.ListComp elt0 gens scope pos) k it acc env = turnO (.ListComp elt0 gens scope pos) k t i ifs i1 it acc env) (hs : ∀ x, foldedSetIterable i1 env x = pure x) (I : Nat → Shared → Prop)
    (turn : ∀ n s, I n s → wpAny (model prog w) A (pyNext it) (fun r s₁ => match r with
      | none => R (.ok .next) s₁
      | some v => wpAny (model prog w) A (letOwnedTupleGo t it v) (fun _ s₁' => wpAny (model prog w) A (assign t env v) (fun _ s₂ =>
          wpAny (model prog w) A (forIn ifs true fun c r => if r = true then do let ok ← isTrue c env (eval c env); pure (ForInStep.yield ok) else pure (ForInStep.yield r)) (fun ok s₃ =>
            if ok = true then wpAny (model prog w) A (eval i1 env) (fun x s₄ => wpAny (model prog w) A (pyIter x) (fun it1 s₅ =>
              codeAny (model prog w) A (.compStart (.ListComp elt0 gens scope pos) (k + 1) it1 acc env) (fun r s' => match r with
                | .ok _ => ∃ m, m < n ∧ I m s'
                | .error _ => False) s₅) (notedBy (model prog w) A env fun e s' => R (.error e) s') s₄) (notedBy (model prog w) A env fun e s' => R (.error e) s') s₃
            else ∃ m, m < n ∧ I m s₃) (notedBy (model prog w) A env fun e s' => R (.error e) s') s₂) (notedBy (model prog w) A env fun e s' => R (.error e) s') s₁') (notedBy (model prog w) A env fun e s' => R (.error e) s') s₁) (notedBy (model prog w) A env fun e s' => R (.error e) s') s)
    (n : Nat) (h : I n s) : codeAny (model prog w) A (.compLoop (.ListComp elt0 gens scope pos) k it acc env) R s := by
  refine codeAny_loop rfl I (fun n s hI => ?_) n h
  show wpAny _ A ((compTurn (.ListComp elt0 gens scope pos) k it acc env).onRaise (fun x => do noteFrame x env; theTreesLotGoes x)) _ _ s
  refine wpAny_noted ?_
  rw [hT]
  unfold turnO
  refine wpAny_bind (wpAny_standAt (wpAny_bind (wpAny_mono (turn n s hI) (fun r s₁ h₁ => ?_) fun _ _ h' => h')))
  cases r with
  | none => exact wpAny_pure h₁
  | some v =>
    refine wpAny_bind (wpAny_mono h₁ (fun _ s₁' h₁' => ?_) fun _ _ h' => h')
    refine wpAny_bind (wpAny_mono h₁' (fun _ s₂ h₂ => wpAny_bind (wpAny_mono h₂ (fun ok s₃ h₃ => ?_) fun _ _ h' => h')) fun _ _ h' => h')
    cases ok with
    | false => exact wpAny_pure ⟨rfl, h₃⟩
    | true =>
      refine wpAny_bind (wpAny_mono h₃ (fun x s₄ h₄ => ?_) fun _ _ h' => h')
      refine wpAny_bind (wpAny_standAt (wpAny_bind (wpAny_of_eq (hs x) (wpAny_bind (wpAny_holding (wpAny_mono h₄ (fun it1 s₅ h₅ => ?_) fun _ _ h' => h'))))))
      refine wpAny_bind (wpAny_runOwn ?_)
      rw [Around.mark_none]
      refine codeAny_mono h₅ fun r s' hr => ?_
      cases r with
      | ok f =>
        first
          | exact wpAny_pure ⟨rfl, hr⟩
          | exact wpAny_bind (wpAny_pure (wpAny_pure ⟨rfl, hr⟩))
      | error e => exact hr.elim
theorem loopL (hT : compTurn (.ListComp elt0 gens scope pos) k it acc env = turnL (.ListComp elt0 gens scope pos) k elt t i ifs it acc env) (I : Nat → Shared → Prop)
    (turn : ∀ n s, I n s → wpAny (model prog w) A (pyNext it) (fun r s₁ => match r with
      | none => R (.ok .next) s₁
      | some v => wpAny (model prog w) A (letOwnedTupleGo t it v) (fun _ s₁' => wpAny (model prog w) A (assign t env v) (fun _ s₂ =>
          wpAny (model prog w) A (forIn ifs true fun c r => if r = true then do let ok ← isTrue c env (eval c env); pure (ForInStep.yield ok) else pure (ForInStep.yield r)) (fun ok s₃ =>
            if ok = true then wpAny (model prog w) A (eval elt env) (fun x s₄ =>
              wpAny (model prog w) A (call (.builtin "list.append") [acc, x]) (fun _ s₅ => ∃ m, m < n ∧ I m s₅) (notedBy (model prog w) A env fun e s' => R (.error e) s') s₄) (notedBy (model prog w) A env fun e s' => R (.error e) s') s₃
            else ∃ m, m < n ∧ I m s₃) (notedBy (model prog w) A env fun e s' => R (.error e) s') s₂) (notedBy (model prog w) A env fun e s' => R (.error e) s') s₁') (notedBy (model prog w) A env fun e s' => R (.error e) s') s₁) (notedBy (model prog w) A env fun e s' => R (.error e) s') s)
    (n : Nat) (h : I n s) : codeAny (model prog w) A (.compLoop (.ListComp elt0 gens scope pos) k it acc env) R s := by
  refine codeAny_loop rfl I (fun n s hI => ?_) n h
  show wpAny _ A ((compTurn (.ListComp elt0 gens scope pos) k it acc env).onRaise (fun x => do noteFrame x env; theTreesLotGoes x)) _ _ s
  refine wpAny_noted ?_
  rw [hT]
  unfold turnL
  refine wpAny_bind (wpAny_standAt (wpAny_bind (wpAny_mono (turn n s hI) (fun r s₁ h₁ => ?_) fun _ _ h' => h')))
  cases r with
  | none => exact wpAny_pure h₁
  | some v =>
    refine wpAny_bind (wpAny_mono h₁ (fun _ s₁' h₁' => ?_) fun _ _ h' => h')
    refine wpAny_bind (wpAny_mono h₁' (fun _ s₂ h₂ => wpAny_bind (wpAny_mono h₂ (fun ok s₃ h₃ => ?_) fun _ _ h' => h')) fun _ _ h' => h')
    cases ok with
    | false => exact wpAny_pure ⟨rfl, h₃⟩
    | true =>
      exact wpAny_bind (wpAny_bind (wpAny_mono h₃ (fun x s₄ h₄ => wpAny_bind (wpAny_mono h₄ (fun _ s₅ h₅ => wpAny_pure (wpAny_pure ⟨rfl, h₅⟩)) fun _ _ h' => h')) fun _ _ h' => h'))
end
/-- how a clause behind the first one begins -/
def Starts (LC : Expr) (k : Nat) : Prop := ∀ {prog : Program} {w : World} {A : Around} {R : Result → Shared → Prop} {s : Shared} {it acc : Value} {env : PySem.Env},
  codeAny (model prog w) A (.compLoop LC k it acc env) R s → wpAny (model prog w) A (pyIter it) (fun it' s' => codeAny (model prog w) A (.compLoop LC k it' acc env) R s') (notedBy (model prog w) A env fun x s' => R (.error x) s') s →
    codeAny (model prog w) A (.compStart LC k it acc env) R s
section
variable {elt t0 i0 t1 i1 t2 i2 : Expr} {ifs0 ifs1 ifs2 : List Expr} {scope : Scope} {pos : Pos}
theorem starts21 : Starts (LC2 elt t0 i0 t1 i1 ifs0 ifs1 scope pos) 1 := fun h0 h => compStart1_ok h0 h
theorem starts31 : Starts (LC3 elt t0 i0 t1 i1 t2 i2 ifs0 ifs1 ifs2 scope pos) 1 := by
  intro prog w A R s it acc env h0 h
  refine codeAny_of_tree ?_
  show wpAny _ _ ((compStart (LC3 elt t0 i0 t1 i1 t2 i2 ifs0 ifs1 ifs2 scope pos) 1 it acc env).onRaise (fun x => do noteFrame x env; standAt theWindowsPlace)) _ _ s
  refine wpAny_notedAt ?_
  unfold compStart
  show wpAny _ _ (ask >>= _) _ _ s
  refine wpAny_bind (wpAny_askSetting (wpAny_ite ?_))
  split
  · first
      | exact wpAny_bind (wpAny_pure (wpAny_pure (And.intro rfl h0)))
      | exact wpAny_pure (And.intro rfl h0)
  · first
      | exact wpAny_bind (wpAny_rule (wpAny_bind (wpAny_standAt (wpAny_bind (wpAny_mono h (fun it' s' h' => wpAny_pure (And.intro rfl h')) fun _ _ x => x)))))
      | (refine wpAny_bind (wpAny_rule ?_); show wpAny _ _ (standAt i1.pos >>= _) _ _ s; exact wpAny_bind (wpAny_standAt (wpAny_bind (wpAny_mono h (fun it' s' h' => wpAny_pure (And.intro rfl h')) fun _ _ x => x))))
theorem starts32 : Starts (LC3 elt t0 i0 t1 i1 t2 i2 ifs0 ifs1 ifs2 scope pos) 2 := by
  intro prog w A R s it acc env h0 h
  refine codeAny_of_tree ?_
  show wpAny _ _ ((compStart (LC3 elt t0 i0 t1 i1 t2 i2 ifs0 ifs1 ifs2 scope pos) 2 it acc env).onRaise (fun x => do noteFrame x env; standAt theWindowsPlace)) _ _ s
  refine wpAny_notedAt ?_
  unfold compStart
  show wpAny _ _ (ask >>= _) _ _ s
  refine wpAny_bind (wpAny_askSetting (wpAny_ite ?_))
  split
  · first
      | exact wpAny_bind (wpAny_pure (wpAny_pure (And.intro rfl h0)))
      | exact wpAny_pure (And.intro rfl h0)
  · first
      | exact wpAny_bind (wpAny_rule (wpAny_bind (wpAny_standAt (wpAny_bind (wpAny_mono h (fun it' s' h' => wpAny_pure (And.intro rfl h')) fun _ _ x => x)))))
      | (refine wpAny_bind (wpAny_rule ?_); show wpAny _ _ (standAt i2.pos >>= _) _ _ s; exact wpAny_bind (wpAny_standAt (wpAny_bind (wpAny_mono h (fun it' s' h' => wpAny_pure (And.intro rfl h')) fun _ _ x => x))))
end
/-! ### what the clauses within ask -/
abbrev TM := L2.St → Hp → Addr → (Hp → Prop) → Prop
/-- the last thing: an item is made and put to the list at D -/
def tEm (te : TE) : TM := fun σ H D Nx => te σ H fun y H7 => ∃ acc, H7 D = some (.lst acc) ∧ acc.length < sizeLine ∧ Nx (upd H7 D (.lst (acc ++ [y])))
/-- a clause and what stands within it; vs: the names that are stored from here on -/
def tCl (wi : TI) (g : TG) (tt : TT) (tin : TM) (vs : List Nat) : TM := fun σ H D Nx => wi σ H fun J H4 => ∃ W : Nat → Nat → Hp → Prop, (∃ m, W 0 m H4) ∧ ∀ j k H, W j k H →
  (J.stop j H ∧ Nx H) ∨ (J.go j H ∧ ∃ Nx1 : Hp → Prop, (∀ H', Nx1 H' → ∃ k', k' < k ∧ W (j + 1) k' H') ∧ ∀ x H', J.yld j H x H' → g x (wipe σ vs) H' fun σ3 H5 => wipe σ3 vs = wipe σ vs ∧ tt σ3 H5 fun b H6 =>
    if b = true then tin σ3 H6 D Nx1 else Nx1 H6)
/-- a clause behind the first one, run -/
def JO (B : Cx) (LC iter : Expr) (k : Nat) (tm : TM) (vs : List Nat) : Prop := ∀ (P : List (Addr × Obj)) (s : Shared) (σ : L2.St) (H : Hp) (D : Addr) (Nx : Hp → Prop), Inv B P σ H s → tm σ H D Nx →
  wpAny (model B.prog B.w) B.A (eval iter B.env) (fun x s4 => wpAny (model B.prog B.w) B.A (pyIter x) (fun it s5 => codeAny (model B.prog B.w) B.A (.compStart LC k it (.ref D) B.env) (fun r s' => match r with
    | .ok _ => ∃ H', Inv B P (wipe σ vs) H' s' ∧ Nx H'
    | .error _ => False) s5) (fun _ _ => False) s4) (fun _ _ => False) s
section
variable {B : Cx} {elt0 elt t i i1 : Expr} {gens : List Comprehension} {scope : Scope} {pos : Pos} {ifs : List Expr} {k : Nat} {wi : TI} {g : TG} {tt : TT} {te : TE} {tin : TM} {vs vs' : List Nat}
theorem jo_last (hx : B.xe = fun _ _ => False) (hc : B.calm = true) (pi : PI B t i wi) (pg : PG B t g) (pt : PTs B ifs tt) (pe : PE B elt te) (hT : ∀ it acc, compTurn (.ListComp elt0 gens scope pos) k it acc B.env = turnL (.ListComp elt0 gens scope pos) k elt t i ifs it acc B.env) (hS : Starts (.ListComp elt0 gens scope pos) k) :
    JO B (.ListComp elt0 gens scope pos) i k (tCl wi g tt (tEm te) vs) vs := by
  intro P s9 σ8 H9 D Nx I9 q9
  have pr := pi.run P s9 σ8 H9 _ I9 q9
  rw [hx] at pr
  refine thnF pr fun xv s10 hx1 => thnF hx1 fun itv s11 h11 => ?_
  obtain ⟨it1, fp1, tn1, J1, H11, e1, I11, T1, st11, f11, W1, ⟨m1, w1⟩, turn1⟩ := h11
  subst e1
  have stat1 : ∀ {H' : Hp}, (∀ b ∈ fp1, H' b = none) → ∀ b ∈ fp1, FpOk B P H' b := fun hn b hb => ⟨hn b hb, (f11 b hb).2⟩
  have loop1 : codeAny (model B.prog B.w) B.A (.compLoop (.ListComp elt0 gens scope pos) k (.ref it1) (.ref D) B.env)
      (fun r s' => match r with
        | .ok _ => ∃ H', Inv B P (wipe σ8 vs) H' s' ∧ Nx H'
        | .error _ => False) s11 := by
    refine loopL (hT _ _) (fun k s' => ∃ j H', Inv B P (wipe σ8 vs) H' s' ∧ tn1 j s'.heap ∧ (∀ b ∈ fp1, H' b = none) ∧ W1 j k H') ?_ m1 ⟨0, H11, I11.weak (wipe_length _ _) (fun j v e => (wipe_some e).1), st11, fun b hb => (f11 b hb).1, w1⟩
    rintro k s12 ⟨j, H12, I12, st12, n12, w12⟩
    rcases turn1 j k H12 w12 with ⟨stop1, nx1⟩ | ⟨go1, Nx1, hNx1, step1⟩
    · refine thnF (T1.done B rfl rfl rfl hc j _ s12 (wipe σ8 vs) H12 (fun _ _ => False) I12 (stat1 n12) st12 stop1) fun r s13 ⟨hr, I13⟩ => ?_
      subst hr
      exact ⟨H12, I13, nx1⟩
    · refine thnF (T1.item B rfl rfl rfl hc j _ s12 (wipe σ8 vs) H12 (fun _ _ => False) I12 (stat1 n12) st12 go1) fun r s13 ⟨u1, hr, h13⟩ => ?_
      subst hr
      refine thnF h13 fun _ s14 ⟨x1, H14, I14, r14, y14, st14, n14⟩ => ?_
      have I14' := I14.pinned (stat1 n14) (T1.obj _ _ st14)
      have pgr := pg.run _ s14 (wipe σ8 vs) H14 x1 u1 _ I14' r14 (step1 x1 H14 y14)
      rw [hx] at pgr
      refine thnF pgr fun _ s15 ⟨σ15, H15, I15, hw15, q15⟩ => ?_
      have ptr := pt.run _ s15 σ15 H15 _ I15 q15
      rw [hx] at ptr
      refine thnF ptr fun b1 s16 ⟨H16, I16, q16⟩ => ?_
      have fin1 : ∀ {s' : Shared} {H' : Hp}, Inv B (P ++ pinsAt fp1 s14.heap) σ15 H' s' → Nx1 H' → ∃ m, m < k ∧ ∃ j H', Inv B P (wipe σ8 vs) H' s' ∧ tn1 j s'.heap ∧ (∀ b ∈ fp1, H' b = none) ∧ W1 j m H' := fun {s' H'} I' nx => by
        obtain ⟨m', hm, w'⟩ := hNx1 H' nx
        have pin' : ∀ b ∈ fp1, ∀ o, s14.heap.get? b = some o → s'.heap.get? b = some o ∧ H' b = none := fun b hb o e =>
          let z := I'.pin (b, o) (List.mem_append_right _ (List.mem_append_right _ (mem_pinsAt hb e)))
          ⟨z.1, z.2.1⟩
        refine ⟨m', hm, j + 1, H', I'.unpinned.weak (by rw [← hw15, wipe_length]) (fun j v e => by rw [← hw15] at e; exact (wipe_some e).1), T1.keep _ _ _ st14 fun b hb o e => (pin' b hb o e).1, fun b hb => ?_, w'⟩
        obtain ⟨o, e, _⟩ := T1.obj _ _ st14 b hb
        exact (pin' b hb o e).2
      cases b1 with
      | false =>
        simp only [Bool.false_eq_true, if_false] at q16 ⊢
        exact fin1 I16 q16
      | true =>
        simp only [if_true] at q16 ⊢
        have per := pe.run _ s16 σ15 H16 _ I16 q16
        rw [hx] at per
        refine thnF per fun z s17 ⟨yv, H17, I17, r17, acc, hD17, hz17, nx⟩ => ?_
        exact app_ok I17 hD17 hz17 r17 fun s18 I18 => fin1 I18 nx
  exact hS loop1 (T1.self B.A 0 _ _ _ st11 loop1)
theorem jo_mid (hx : B.xe = fun _ _ => False) (hc : B.calm = true) (pi : PI B t i wi) (pg : PG B t g) (pt : PTs B ifs tt) (jo : JO B (.ListComp elt0 gens scope pos) i1 (k + 1) tin vs') (hv : ∀ v ∈ vs', v ∈ vs) (hs : ∀ x, foldedSetIterable i1 B.env x = pure x)
    (hT : ∀ it acc, compTurn (.ListComp elt0 gens scope pos) k it acc B.env = turnO (.ListComp elt0 gens scope pos) k t i ifs i1 it acc B.env) (hS : Starts (.ListComp elt0 gens scope pos) k) : JO B (.ListComp elt0 gens scope pos) i k (tCl wi g tt tin vs) vs := by
  intro P s9 σ8 H9 D Nx I9 q9
  have pr := pi.run P s9 σ8 H9 _ I9 q9
  rw [hx] at pr
  refine thnF pr fun xv s10 hx1 => thnF hx1 fun itv s11 h11 => ?_
  obtain ⟨it1, fp1, tn1, J1, H11, e1, I11, T1, st11, f11, W1, ⟨m1, w1⟩, turn1⟩ := h11
  subst e1
  have stat1 : ∀ {H' : Hp}, (∀ b ∈ fp1, H' b = none) → ∀ b ∈ fp1, FpOk B P H' b := fun hn b hb => ⟨hn b hb, (f11 b hb).2⟩
  have loop1 : codeAny (model B.prog B.w) B.A (.compLoop (.ListComp elt0 gens scope pos) k (.ref it1) (.ref D) B.env)
      (fun r s' => match r with
        | .ok _ => ∃ H', Inv B P (wipe σ8 vs) H' s' ∧ Nx H'
        | .error _ => False) s11 := by
    refine loopO (hT _ _) hs (fun k s' => ∃ j H', Inv B P (wipe σ8 vs) H' s' ∧ tn1 j s'.heap ∧ (∀ b ∈ fp1, H' b = none) ∧ W1 j k H') ?_ m1 ⟨0, H11, I11.weak (wipe_length _ _) (fun j v e => (wipe_some e).1), st11, fun b hb => (f11 b hb).1, w1⟩
    rintro n s12 ⟨j, H12, I12, st12, n12, w12⟩
    rcases turn1 j n H12 w12 with ⟨stop1, nx1⟩ | ⟨go1, Nx1, hNx1, step1⟩
    · refine thnF (T1.done B rfl rfl rfl hc j _ s12 (wipe σ8 vs) H12 (fun _ _ => False) I12 (stat1 n12) st12 stop1) fun r s13 ⟨hr, I13⟩ => ?_
      subst hr
      exact ⟨H12, I13, nx1⟩
    · refine thnF (T1.item B rfl rfl rfl hc j _ s12 (wipe σ8 vs) H12 (fun _ _ => False) I12 (stat1 n12) st12 go1) fun r s13 ⟨u1, hr, h13⟩ => ?_
      subst hr
      refine thnF h13 fun _ s14 ⟨x1, H14, I14, r14, y14, st14, n14⟩ => ?_
      have I14' := I14.pinned (stat1 n14) (T1.obj _ _ st14)
      have pgr := pg.run _ s14 (wipe σ8 vs) H14 x1 u1 _ I14' r14 (step1 x1 H14 y14)
      rw [hx] at pgr
      refine thnF pgr fun _ s15 ⟨σ15, H15, I15, hw15, q15⟩ => ?_
      have ptr := pt.run _ s15 σ15 H15 _ I15 q15
      rw [hx] at ptr
      refine thnF ptr fun b1 s16 ⟨H16, I16, q16⟩ => ?_
      have fin1 : ∀ {σ' : L2.St} {s' : Shared} {H' : Hp}, Inv B (P ++ pinsAt fp1 s14.heap) σ' H' s' → (wipe σ8 vs).length = σ'.length → (∀ (j : Nat) v, (wipe σ8 vs)[j]? = some (some v) → σ'[j]? = some (some v)) → Nx1 H' → ∃ m, m < n ∧ ∃ j H', Inv B P (wipe σ8 vs) H' s' ∧ tn1 j s'.heap ∧ (∀ b ∈ fp1, H' b = none) ∧ W1 j m H' := fun {σ' s' H'} I' hl hk nx => by
        obtain ⟨m', hm, w'⟩ := hNx1 H' nx
        have pin' : ∀ b ∈ fp1, ∀ o, s14.heap.get? b = some o → s'.heap.get? b = some o ∧ H' b = none := fun b hb o e =>
          let z := I'.pin (b, o) (List.mem_append_right _ (List.mem_append_right _ (mem_pinsAt hb e)))
          ⟨z.1, z.2.1⟩
        refine ⟨m', hm, j + 1, H', I'.unpinned.weak hl hk, T1.keep _ _ _ st14 fun b hb o e => (pin' b hb o e).1, fun b hb => ?_, w'⟩
        obtain ⟨o, e, _⟩ := T1.obj _ _ st14 b hb
        exact (pin' b hb o e).2
      cases b1 with
      | false =>
        simp only [Bool.false_eq_true, if_false] at q16 ⊢
        exact fin1 I16 (by rw [← hw15, wipe_length]) (fun j v e => by rw [← hw15] at e; exact (wipe_some e).1) q16
      | true =>
        simp only [if_true] at q16 ⊢
        refine thnF (jo _ s16 σ15 H16 D Nx1 I16 q16) fun z s17 h17 => thnF h17 fun it2 s18 h18 => ?_
        refine codeAny_mono h18 fun r s' hr => ?_
        cases r with
        | error e => exact hr
        | ok f =>
          obtain ⟨H', I', nx⟩ := hr
          refine fin1 I' ?_ (fun j v e => ?_) nx
          · rw [← hw15, wipe_length, wipe_length]
          · rw [← hw15] at e
            obtain ⟨e1, e2⟩ := wipe_some e
            rw [wipe_out fun z => e2 (hv j z)]
            exact e1
  exact hS loop1 (T1.self B.A 0 _ _ _ st11 loop1)
end
/-! ### the whole -/
def tLcN (wi : TI) (g : TG) (tt : TT) (tin : TM) (vs : List Nat) : TE := fun σ H Q => wi σ H fun J H1 => ∀ D, H1 D = none → ∃ W : Nat → Nat → Hp → Prop, (∃ m, W 0 m (upd H1 D (.lst []))) ∧ ∀ i m H, W i m H →
  (J.stop i H ∧ Q (.ref D) H) ∨ (J.go i H ∧ ∃ Nx : Hp → Prop, (∀ H', Nx H' → ∃ m', m' < m ∧ W (i + 1) m' H') ∧ ∀ x H', J.yld i H x H' → g x (wipe σ vs) H' fun σ2 H2 => wipe σ2 vs = wipe σ vs ∧ tt σ2 H2 fun b H3 =>
    if b = true then tin σ2 H3 D Nx else Nx H3)
section
variable {X : Cx}
theorem lcN_core {pins : List (Addr × Obj)} {s : Shared} {σ : L2.St} {H : Hp} {Q : VK} {elt tg iter iter1 : Expr} {ifs : List Expr} {rest : List Comprehension} {scope : Scope} {own : List (Str × Nat)} {vs1 : List Nat} {pos pos' : Pos} {wi : TI} {g : TG} {tt : TT} {tin : TM} {use : Option (Value → Sem Unit)} {Qf : Value → Shared → Prop}
    (hc : X.calm = true) (hN : X.N.Nodup) (I : Inv X pins σ H s) (hi : PI X tg iter wi) (ok : BlkOk X.N X.env.scope scope own) (hv : ∀ i ∈ vs1, i ∈ own.map (·.2))
    (hg : ∀ (s : Shared) (H : Hp) (C : Addr) (cl : List (Str × Addr)) (fp : List Addr), PG (X.blk s H scope (compEnvC scope cl C X.env) fp) tg g) (ht : ∀ (s : Shared) (H : Hp) (C : Addr) (cl : List (Str × Addr)) (fp : List Addr), PTs (X.blk s H scope (compEnvC scope cl C X.env) fp) ifs tt)
    (hs : ∀ x, foldedSetIterable iter X.env x = pure x) (hs1 : ∀ env x, foldedSetIterable iter1 env x = pure x)
    (hj : ∀ (s : Shared) (H : Hp) (C : Addr) (cl : List (Str × Addr)) (fp : List Addr), JO (X.blk s H scope (compEnvC scope cl C X.env) fp) (.ListComp elt (⟨tg, iter, ifs, 0⟩ :: rest) scope pos) iter1 1 tin vs1)
    (hT : ∀ it acc env, compTurn (.ListComp elt (⟨tg, iter, ifs, 0⟩ :: rest) scope pos) 0 it acc env = turnO (.ListComp elt (⟨tg, iter, ifs, 0⟩ :: rest) scope pos) 0 tg iter ifs iter1 it acc env)
    (h : tLcN wi g tt tin (own.map (·.2)) σ H Q)
    (hRR : ∀ D C s' m H', Inv X pins σ H' s' → Q (.ref D) H' → s'.heap.Ns C m → FpOk X pins H' C → compPost (model X.prog X.w) X.A X.xe use Qf (.ref D) C (.ok .next) s') :
    wpAny (model X.prog X.w) X.A (comprehension (.ListComp elt (⟨tg, iter, ifs, 0⟩ :: rest) scope pos) scope X.env pos' (newList []) false (eval iter X.env) use) Qf X.xe s := by
  have hfree : ∀ y ∈ scope.names, y.2 = .free → ∃ c, X.env.cells.lookup y.1 = some c := fun y hy e => by
    rcases ok.free y hy e with k | k
    · exact I.ok.has _ (.inl k)
    · exact I.ok.has _ (.inr k)
  refine wpAny_comprehension_free (use := use) rfl hs (closure_ok hfree) ok.kind (fun y hy e => by rw [ok.uniq y hy, e])
    (thn (hi.run pins s σ H _ I h) fun xv s1 hx => thn hx fun itv s2 h2 => ?_)
  obtain ⟨it, fp, tn, J, H2, e, I2, T, st2, f2, q⟩ := h2
  subst e
  refine wpAny_newObj_type (newEnv_comp ?_) (by show 0 ≤ sizeLine; decide)
  generalize hD : s2.heap.objs.size = D
  have hDn : H2 D = none := I2.hok.fresh (Nat.le_of_eq hD)
  obtain ⟨W, ⟨m0, w0⟩, turn⟩ := q D hDn
  generalize hs3 : ({ s2 with heap := s2.heap.push { cls := .type "list", data := .seq ([] : List Value).toArray } } : Shared) = s3
  have I3 : Inv X pins σ (upd H2 D (.lst [])) s3 := by
    rw [← hs3]
    refine I2.laid (t' := s2.toks) (fun b o e => Heap.get?_push_of_some _ e) (Nat.le_of_eq hD) ⟨Nat.zero_le _, [], 0, .nil, ?_⟩
    rw [← hD]
    exact Heap.get?_push_size _ rfl
  have h3 : s3.heap = s2.heap.push { cls := .type "list", data := .seq ([] : List Value).toArray } := by rw [← hs3]
  have sz : ∀ b ∈ fp, b < s2.heap.objs.size := fun b hb => by
    obtain ⟨o, e, _⟩ := T.obj _ _ st2 b hb
    exact Heap.lt_size e
  have f3 : ∀ b ∈ fp, FpOk X pins (upd H2 D (.lst [])) b ∧ b < s3.heap.objs.size := fun b hb => by
    have hlt := sz b hb
    refine ⟨⟨?_, (f2 b hb).2⟩, by rw [h3, Heap.size_push]; exact Nat.lt_succ_of_lt hlt⟩
    rw [upd_ne (by rw [← hD]; exact Nat.ne_of_lt hlt)]
    exact (f2 b hb).1
  have st3 : tn 0 s3.heap := T.keep _ _ _ st2 fun b _ o e => by rw [h3]; exact Heap.get?_push_of_some _ e
  have I4 := block_start I3 ok hN f3
  have pg := hg s3 (upd H2 D (.lst [])) s3.heap.objs.size (cellsFrom (s3.heap.objs.size + 1) scope.names (cloFrom X.env.cells scope.names [])) fp
  have pt := ht s3 (upd H2 D (.lst [])) s3.heap.objs.size (cellsFrom (s3.heap.objs.size + 1) scope.names (cloFrom X.env.cells scope.names [])) fp
  have pj := hj s3 (upd H2 D (.lst [])) s3.heap.objs.size (cellsFrom (s3.heap.objs.size + 1) scope.names (cloFrom X.env.cells scope.names [])) fp
  show codeAny _ _ (.compStart (.ListComp elt (⟨tg, iter, ifs, 0⟩ :: rest) scope pos) 0 (.ref it) (.ref D) (compEnvC scope (cellsFrom (s3.heap.objs.size + 1) scope.names (cloFrom X.env.cells scope.names [])) s3.heap.objs.size X.env)) (compPost (model X.prog X.w) X.A X.xe use Qf (.ref D) s3.heap.objs.size) { s3 with heap := pushCells (s3.heap.push { cls := .type "dict", data := .dict #[] }) scope.names }
  have nfp : ∀ b ∈ fp, (upd H2 D (.lst [])) b = none := fun b hb => (f3 b hb).1.1
  generalize hce : compEnvC scope (cellsFrom (s3.heap.objs.size + 1) scope.names (cloFrom X.env.cells scope.names [])) s3.heap.objs.size X.env = ce at I4 pg pt pj ⊢
  have cL : ce.locals = s3.heap.objs.size := by subst hce; rfl
  generalize hH3 : upd H2 D (.lst []) = H3 at I3 I4 pg pt pj w0 nfp f3
  generalize hs4 : ({ s3 with heap := pushCells (s3.heap.push { cls := .type "dict", data := .dict #[] }) scope.names } : Shared) = s4 at I4 ⊢
  have st4 : tn 0 s4.heap := T.keep _ _ _ st3 fun b _ o e => by rw [← hs4]; exact pushCells_keeps _ _ _ _ (Heap.get?_push_of_some _ e)
  have stat : ∀ {σ' : L2.St} {H' : Hp} {s' : Shared}, Inv (X.blk s3 H3 scope ce fp) [] σ' H' s' → (∀ b ∈ fp, H' b = none) → ∀ b ∈ fp, FpOk (X.blk s3 H3 scope ce fp) [] H' b := fun {σ' H' s'} I' hn b hb =>
    ⟨hn b hb, (I'.ok.exf b hb).1, I'.ok.exfs b hb, .inl hb, fun x c e => (I'.ok.exf b hb).2 x c e, fun p hp => absurd (show p ∈ ([] : List (Addr × Obj)) ++ [] from hp) (by simp)⟩
  have loop : codeAny (model X.prog X.w) X.A (.compLoop (.ListComp elt (⟨tg, iter, ifs, 0⟩ :: rest) scope pos) 0 (.ref it) (.ref D) ce) (compPost (model X.prog X.w) X.A X.xe use Qf (.ref D) s3.heap.objs.size) s4 := by
    refine loopO (hT _ _ _) (hs1 ce) (fun n s' => ∃ i H', Inv (X.blk s3 H3 scope ce fp) [] (wipe σ (own.map (·.2))) H' s' ∧ tn i s'.heap ∧ (∀ b ∈ fp, H' b = none) ∧ W i n H') ?_ m0 ⟨0, H3, I4, st4, nfp, w0⟩
    rintro n s5 ⟨i, H5, I5, st5, n5, w5⟩
    rcases turn i n H5 w5 with ⟨stop, qq⟩ | ⟨go, Nx, hNx, step⟩
    · have td := T.done (X.blk s3 H3 scope ce fp) rfl rfl rfl hc i [] s5 _ H5 (fun _ _ => False) I5 (stat I5 n5) st5 stop
      refine thnF td fun r s6 ⟨hr, I6⟩ => ?_
      subst hr
      have I7 : Inv X pins σ H5 s6 := I3.call' (ch := fp) I6.os I6.base I6.hok I6.bare fun b hb => ⟨(f3 b hb).1.2.2.2.1, (f3 b hb).1.2.1, (f3 b hb).1.2.2.2.2.1, (f3 b hb).1.2.2.2.2.2⟩
      have nC : H5 s3.heap.objs.size = none := by
        have z : H5 ce.locals = none := I6.free
        rw [cL] at z
        exact z
      obtain ⟨m, hn, _⟩ := I6.loc
      have hn : s6.heap.Ns ce.locals m := hn
      rw [cL] at hn
      exact hRR D s3.heap.objs.size s6 m H5 I7 qq hn (I3.fpOk (Nat.le_refl _) nC)
    · have ti := T.item (X.blk s3 H3 scope ce fp) rfl rfl rfl hc i [] s5 _ H5 (fun _ _ => False) I5 (stat I5 n5) st5 go
      refine thnF ti fun r s6 ⟨u, hr, h6⟩ => ?_
      subst hr
      refine thnF h6 fun _ s7 ⟨x, H7, I7, r7, y7, st7, n7⟩ => ?_
      have I7' := I7.pinned (stat I7 n7) (T.obj _ _ st7)
      refine thnF (pg.run _ s7 _ H7 x u _ I7' r7 (step x H7 y7)) fun _ s8 ⟨σ8, H8, I8, hw8, q8⟩ => ?_
      refine thnF (pt.run _ s8 σ8 H8 _ I8 q8) fun b s9 ⟨H9, I9, q9⟩ => ?_
      have fin : ∀ {σ9 : L2.St} {s' : Shared} {H' : Hp}, Inv (X.blk s3 H3 scope ce fp) ([] ++ pinsAt fp s7.heap) σ9 H' s' → (wipe σ (own.map (·.2))).length = σ9.length → (∀ (j : Nat) v, (wipe σ (own.map (·.2)))[j]? = some (some v) → σ9[j]? = some (some v)) → Nx H' →
          ∃ m, m < n ∧ ∃ i H', Inv (X.blk s3 H3 scope ce fp) [] (wipe σ (own.map (·.2))) H' s' ∧ tn i s'.heap ∧ (∀ b ∈ fp, H' b = none) ∧ W i m H' := fun {σ9 s' H'} I' hl hk nx => by
        obtain ⟨m', hm, w'⟩ := hNx H' nx
        have pin' : ∀ b ∈ fp, ∀ o, s7.heap.get? b = some o → s'.heap.get? b = some o ∧ H' b = none := fun b hb o e =>
          let z := I'.pin (b, o) (List.mem_append_right _ (List.mem_append_right _ (mem_pinsAt hb e)))
          ⟨z.1, z.2.1⟩
        refine ⟨m', hm, i + 1, H', (I'.unpinned (pins := [])).weak hl hk, T.keep _ _ _ st7 fun b hb o e => (pin' b hb o e).1, fun b hb => ?_, w'⟩
        obtain ⟨o, e, _⟩ := T.obj _ _ st7 b hb
        exact (pin' b hb o e).2
      have hl8 : (wipe σ (own.map (·.2))).length = σ8.length := by rw [← hw8, wipe_length]
      have hk8 : ∀ (j : Nat) v, (wipe σ (own.map (·.2)))[j]? = some (some v) → σ8[j]? = some (some v) := fun j v e => by
        rw [← hw8] at e
        exact (wipe_some e).1
      have hk9 : ∀ (j : Nat) v, (wipe σ (own.map (·.2)))[j]? = some (some v) → (wipe σ8 vs1)[j]? = some (some v) := fun j v e => by
        rw [← hw8] at e
        obtain ⟨e1, e2⟩ := wipe_some e
        rw [wipe_out fun z => e2 (hv j z)]
        exact e1
      cases b with
      | false =>
        simp only [Bool.false_eq_true, if_false] at q9 ⊢
        exact fin I9 hl8 hk8 q9
      | true =>
        simp only [if_true] at q9 ⊢
        refine thnF (pj _ s9 σ8 H9 D Nx I9 q9) fun xv s10 hx => thnF hx fun itv s11 h11 => ?_
        refine codeAny_mono h11 fun r s' hr => ?_
        cases r with
        | error e => exact hr
        | ok f =>
          obtain ⟨H', I', nx⟩ := hr
          exact fin I' (hl8.trans (wipe_length σ8 vs1).symm) hk9 nx
  exact codeAny_compStart_list loop (T.self X.A 0 _ _ _ st4 loop)
theorem pe_lcN {elt tg iter iter1 : Expr} {ifs : List Expr} {rest : List Comprehension} {scope : Scope} {own : List (Str × Nat)} {vs1 : List Nat} {pos : Pos} {wi : TI} {g : TG} {tt : TT} {tin : TM}
    (hc : X.calm = true) (hN : X.N.Nodup) (hi : PI X tg iter wi) (ok : BlkOk X.N X.env.scope scope own) (hv : ∀ i ∈ vs1, i ∈ own.map (·.2))
    (hg : ∀ (s : Shared) (H : Hp) (C : Addr) (cl : List (Str × Addr)) (fp : List Addr), PG (X.blk s H scope (compEnvC scope cl C X.env) fp) tg g) (ht : ∀ (s : Shared) (H : Hp) (C : Addr) (cl : List (Str × Addr)) (fp : List Addr), PTs (X.blk s H scope (compEnvC scope cl C X.env) fp) ifs tt)
    (hs : ∀ x, foldedSetIterable iter X.env x = pure x) (hs1 : ∀ env x, foldedSetIterable iter1 env x = pure x)
    (hj : ∀ (s : Shared) (H : Hp) (C : Addr) (cl : List (Str × Addr)) (fp : List Addr), JO (X.blk s H scope (compEnvC scope cl C X.env) fp) (.ListComp elt (⟨tg, iter, ifs, 0⟩ :: rest) scope pos) iter1 1 tin vs1)
    (hT : ∀ it acc env, compTurn (.ListComp elt (⟨tg, iter, ifs, 0⟩ :: rest) scope pos) 0 it acc env = turnO (.ListComp elt (⟨tg, iter, ifs, 0⟩ :: rest) scope pos) 0 tg iter ifs iter1 it acc env) :
    PE X (.ListComp elt (⟨tg, iter, ifs, 0⟩ :: rest) scope pos) (tLcN wi g tt tin (own.map (·.2))) := by
  refine ⟨fun pins s σ H Q I h => ?_⟩
  rw [eval_ListComp]
  refine lcN_core hc hN I hi ok hv hg ht hs hs1 hj hT h fun D C s' m H' I' q hn f => ⟨m, hn, fun h'' sb => ?_⟩
  obtain ⟨f0, f1, f2, f3, f4, f5⟩ := f
  exact ⟨.ref D, H', I'.turned (t' := s'.toks) (fun b o hb e => (sb.2 b hb).trans e) f0 f1 f3 f4 f5, rfl, q⟩
theorem ps_setLcN {i : Nat} {y : Str} {py : Pos} {elt tg iter iter1 : Expr} {ifs : List Expr} {rest : List Comprehension} {scope : Scope} {own : List (Str × Nat)} {vs1 : List Nat} {pos spos : Pos} {wi : TI} {g : TG} {tt : TT} {tin : TM}
    (hc : X.calm = true) (hN : X.N.Nodup) (hy : X.N[i]? = some y) (hyl : X.env.scope.names.lookup y = some .local)
    (hsw : swapsWith (.ListComp elt (⟨tg, iter, ifs, 0⟩ :: rest) scope pos) (some (.Name y py)) spos.line X.env = pure true) (hi : PI X tg iter wi) (ok : BlkOk X.N X.env.scope scope own) (hv : ∀ i ∈ vs1, i ∈ own.map (·.2))
    (hg : ∀ (s : Shared) (H : Hp) (C : Addr) (cl : List (Str × Addr)) (fp : List Addr), PG (X.blk s H scope (compEnvC scope cl C X.env) fp) tg g) (ht : ∀ (s : Shared) (H : Hp) (C : Addr) (cl : List (Str × Addr)) (fp : List Addr), PTs (X.blk s H scope (compEnvC scope cl C X.env) fp) ifs tt)
    (hs : ∀ x, foldedSetIterable iter X.env x = pure x) (hs1 : ∀ env x, foldedSetIterable iter1 env x = pure x)
    (hj : ∀ (s : Shared) (H : Hp) (C : Addr) (cl : List (Str × Addr)) (fp : List Addr), JO (X.blk s H scope (compEnvC scope cl C X.env) fp) (.ListComp elt (⟨tg, iter, ifs, 0⟩ :: rest) scope pos) iter1 1 tin vs1)
    (hT : ∀ it acc env, compTurn (.ListComp elt (⟨tg, iter, ifs, 0⟩ :: rest) scope pos) 0 it acc env = turnO (.ListComp elt (⟨tg, iter, ifs, 0⟩ :: rest) scope pos) 0 tg iter ifs iter1 it acc env) :
    PS X (.Assign [.Name y py] (.ListComp elt (⟨tg, iter, ifs, 0⟩ :: rest) scope pos) spos) (tAsg (tLcN wi g tt tin (own.map (·.2))) (gName i)) := by
  refine ⟨fun pins s σ H D I h => ?_⟩
  rw [exec_Assign_Name_used _ _ _ _ hsw]
  refine wpAny_bind (wpAny_standAt (wpAny_bind ?_))
  show wpAny _ X.A (do let _ ← comprehension (.ListComp elt (⟨tg, iter, ifs, 0⟩ :: rest) scope pos) scope X.env (firstIterPos (⟨tg, iter, ifs, 0⟩ :: rest) pos) (newList []) false (eval iter X.env) (some (assign (.Name y py) X.env))) _ _ s
  have h : tLcN wi g tt tin (own.map (·.2)) σ H (fun x H1 => gName i x σ H1 D.nx) := h
  refine wpAny_bind (thn (lcN_core (Qf := fun _ s' => SP X pins D .next s') hc hN I hi ok hv hg ht hs hs1 hj hT h fun L C s' m H' I' q hn f => ?_) fun _ s' hq => wpAny_pure (wpAny_pure hq))
  show wpAny _ _ (assign (.Name y py) X.env (.ref L)) _ _ _
  refine wpAny_assign_Name (store_ok2 (v := V.ref L) I' hN hy (.inl hyl) rfl (fun s2 I2 ⟨a, sb, ha⟩ => ?_) (.inr hyl))
  obtain ⟨f0, f1, f2, f3, f4, f5⟩ := f
  have haC : C ≠ a := by
    rcases ha with z | z
    · rw [z]; exact f1
    · exact fun e => f4 y a z e.symm
  refine ⟨m, hn.sameBut sb haC, fun h3 sb3 => ?_⟩
  exact ⟨_, H', I2.turned (t' := s2.toks) (fun b o hb e => (sb3.2 b hb).trans e) f0 f1 f3 f4 f5, q⟩
end
end Pm
/-! PmZl: comprehensions of several clauses, upon data. -/
namespace Pm
open PySem PySem.Spec PyProof.Rows L2
section
variable {K : PySem.W.Frag} {mg : Str → Option Value} {W : WX} {Z H : Hp} {S : Fp} {σ : Sl} {X : Cx} {A : Nat → Bool}
/-- what stands within a clause: the slots and what was made so far -/
abbrev In := Env → List D → Res (List D)
def emit (e : M EV) : In := fun ρ acc => match e ρ with
  | .ok ev ρ1 => match use1 ev ρ1 with
    | .ok d ρ2 => if acc.length < cap then .ok (acc ++ [d]) ρ2 else .stuck
    | _ => .stuck
  | _ => .stuck
def clIt (vs : List Nat) (g : Tg) (c : M Bool) (inn : In) : List D → In
  | [] => fun ρ acc => .ok acc ρ
  | d :: ds => fun ρ acc => match g d ρ with
    | .ok _ ρ1 => match c ρ1 with
      | .ok true ρ2 => match inn ρ2 acc with
        | .ok acc' ρ3 => clIt vs g c inn ds (wipeE ρ3 vs) acc'
        | _ => .stuck
      | .ok false ρ2 => clIt vs g c inn ds (wipeE ρ2 vs) acc
      | _ => .stuck
    | _ => .stuck
def cla (vs : List Nat) (s : M (List D)) (g : Tg) (c : M Bool) (inn : In) : In := fun ρ acc => match s ρ with
  | .ok ds ρ1 => clIt vs g c inn ds (wipeE ρ1 vs) acc
  | _ => .stuck
def compN (own : List Nat) (s : M (List D)) (g : Tg) (c : M Bool) (inn : In) : M EV := bnd s fun ds => fun ρ => match clIt own g c inn ds (wipeE ρ own) [] with
  | .ok acc ρ' => .ok (.val (.lst true acc)) (backE ρ ρ' own)
  | _ => .stuck
/-- such a part's wish; L: the list that grows -/
def tN (K : PySem.W.Frag) (inn : In) (vs : List Nat) : TM := fun σ H L Nx => ∃ (Z : Hp) (ρ : Env) (S Sa : Fp) (acc : List D) (ys : List V), Wd Z H (fun a => S a ∨ (a = L ∨ Sa a)) ∧ (∀ a, S a → (a = L ∨ Sa a) → False) ∧ EnvR K Z H ρ σ S ∧ H L = some (.lst ys) ∧ ¬ Sa L ∧ RepL K Z H acc ys Sa ∧
  ∃ acc' ρ', inn ρ acc = .ok acc' ρ' ∧ ∀ (Z' H' : Hp) (S' Sa' : Fp) (ys' : List V), Step Z H (fun a => S a ∨ (a = L ∨ Sa a)) Z' H' (fun a => S' a ∨ (a = L ∨ Sa' a)) → (∀ a, S' a → (a = L ∨ Sa' a) → False) → EnvR K Z' H' ρ' (L2.wipe σ vs) S' → H' L = some (.lst ys') → ¬ Sa' L → RepL K Z' H' acc' ys' Sa' → Nx H'
theorem tEm_of {e : M EV} {L : Addr} {Nx : Hp → Prop} (h : tN K (emit e) [] σ H L Nx) : tEm (tE K mg wF e) σ H L Nx := by
  obtain ⟨Z, ρ, S, Sa, acc, ys, w, dj, er, hy, nL, ra, acc', ρ', ei, k⟩ := h
  obtain ⟨F, hF⟩ : ∃ F : Fp, F = fun a => a = L ∨ Sa a := ⟨_, rfl⟩
  have wF' : Wd Z H (fun a => S a ∨ F a) := by rw [hF]; exact w
  have dF : ∀ a, S a → F a → False := fun a x y => dj a x (by rw [hF] at y; exact y)
  have subSa : ∀ a, Sa a → F a := fun a x => by rw [hF]; exact .inr x
  have inL : F L := by rw [hF]; exact .inl rfl
  refine ⟨Z, ρ, S, wF'.less fun a x => .inl x, er, ?_⟩
  unfold emit at ei
  cases e5 : e ρ with
  | stuck => rw [e5] at ei; cases ei
  | exc x ρ5 => rw [e5] at ei; cases ei
  | ok ev ρ5 =>
    simp only [e5] at ei
    intro v Z6 H6 S6 Sd st6 dj6 er6 r6
    have st6F := st6.frame wF' dF
    have dF6 := st6.apart (fun a x => wF'.live a (.inr x)) dF
    have ra6 : RepL K Z6 H6 acc ys Sa := st6.stayL (fun a x y => dF a x (subSa a y)) ra
    have hy6 : H6 L = some (.lst ys) := st6.fr L _ (fun x => dF L x inL) hy nt_lst
    cases e6 : use1 ev ρ5 with
    | stuck => rw [e6] at ei; cases ei
    | exc x ρ6 => rw [e6] at ei; cases ei
    | ok d' ρ6 =>
      simp only [e6] at ei
      by_cases hz : acc.length < cap
      · rw [if_pos hz] at ei
        simp only [Res.ok.injEq] at ei
        obtain ⟨rfl, rfl⟩ := ei
        have w6 : Wd Z6 H6 (fun a => (S6 a ∨ Sd a) ∨ F a) := st6F.wd
        obtain ⟨Z7, S7, st7, m7, er7, r7⟩ := use1_ok w6 dj6 dF6 er6 r6 e6
        have ra7 : RepL K Z7 H6 acc ys Sa := ra6.move st7.zz (fun _ _ _ x => x) fun _ x => x
        refine ⟨ys, hy6, by rw [← ra.length]; exact Nat.lt_trans hz (by rw [sizeLine_eq]; decide), ?_⟩
        have st8 : Step Z7 H6 (fun a => (S7 a ∨ Sd a) ∨ F a) Z7 (upd H6 L (.lst (ys ++ [v]))) (fun a => (S7 a ∨ Sd a) ∨ F a) := Step.write st7.wd (.inr inL)
        have neL : ∀ {T : Fp}, (∀ a, T a → a = L → False) → ∀ a o, T a → H6 a = some o → upd H6 L (.lst (ys ++ [v])) a = some o := fun {T} n a o t e => by rw [upd_ne fun q => n a t q]; exact e
        have stAll : Step Z H (fun a => S a ∨ F a) Z7 (upd H6 L (.lst (ys ++ [v]))) (fun a => (S7 a ∨ Sd a) ∨ F a) := (st6F.trans st7).trans st8
        refine k Z7 _ S7 (fun a => Sa a ∨ Sd a) (ys ++ [v]) ?_ ?_ ?_ upd_same ?_ ?_
        · rw [hF] at stAll
          refine stAll.less fun a x => ?_
          rcases x with x | x | x | x
          · exact .inl (.inl x)
          · exact .inr (.inl x)
          · exact .inr (.inr x)
          · exact .inl (.inr x)
        · intro a x y
          rcases y with y | y | y
          · exact dF6 a (.inl (m7 a x)) (by rw [hF]; exact .inl y)
          · exact dF6 a (.inl (m7 a x)) (subSa a y)
          · exact dj6 a (m7 a x) y
        · exact er7.move (Same.refl _) (neL fun a t q => dF6 a (.inl (m7 a t)) (by rw [q]; exact inL)) fun _ x => x
        · rintro (x | x)
          · exact nL x
          · exact dF6 L (.inr x) inL
        · exact RepL.append (ra7.move (Same.refl _) (neL fun a t q => nL (by rw [← q]; exact t)) fun _ x => x) ⟨Sd, Fp0, fun _ x => x, fun _ x => x.elim, fun _ _ x => x, r7.move (Same.refl _) (neL fun a t q => dF6 a (.inr t) (by rw [q]; exact inL)) fun _ x => x, trivial⟩ (fun a x => .inl x) (fun a x => .inr x) fun a x y => dF6 a (.inr y) (subSa a x)
      · rw [if_neg hz] at ei
        cases ei
theorem wipe_sub {vs vs' : List Nat} (hv : ∀ v ∈ vs', v ∈ vs) (σ : Sl) : L2.wipe (L2.wipe σ vs') vs = L2.wipe σ vs := by
  refine wipe_keep (σ := σ) ⟨fun j hj => ?_, wipe_length _ _⟩
  have hj' : j ∉ vs := of_decide_eq_false hj
  exact wipe_out fun z => hj' (hv j z)
/-- a turn -/
theorem turn_of {vs vs' : List Nat} {g : Tg} {c : M Bool} {inn : In} {d : D} {ds : List D} {x : V} {L : Addr} {Z3 H3 : Hp} {ρ2 ρF : Env} {S2 Sa : Fp} {acc accF : List D} {ys : List V} {Nx1 : Hp → Prop} {tin : TM} (hv : ∀ v ∈ vs', v ∈ vs) (hin : ∀ σ H Nx, tN K inn vs' σ H L Nx → tin σ H L Nx)
    (w3 : Wd Z3 H3 (fun a => S2 a ∨ (a = L ∨ Sa a))) (dj2 : ∀ a, S2 a → (a = L ∨ Sa a) → False) (er3 : EnvR K Z3 H3 (wipeE ρ2 vs) (L2.wipe σ vs) S2) (hys : H3 L = some (.lst ys)) (nL : ¬ Sa L) (ra3 : RepL K Z3 H3 acc ys Sa) (r3 : Rep K Z3 H3 d x Fp0)
    (ci : clIt vs g c inn (d :: ds) (wipeE ρ2 vs) acc = .ok accF ρF)
    (k : ∀ (Z' H' : Hp) (S' Sa' : Fp) (ys' : List V) (acc' : List D) (ρ' : Env), Step Z3 H3 (fun a => S2 a ∨ (a = L ∨ Sa a)) Z' H' (fun a => S' a ∨ (a = L ∨ Sa' a)) → (∀ a, S' a → (a = L ∨ Sa' a) → False) → EnvR K Z' H' (wipeE ρ' vs) (L2.wipe σ vs) S' → H' L = some (.lst ys') → ¬ Sa' L → RepL K Z' H' acc' ys' Sa' →
      clIt vs g c inn ds (wipeE ρ' vs) acc' = .ok accF ρF → Nx1 H') :
    tG K (fun j => decide (j ∈ vs)) g x (L2.wipe σ vs) H3 fun σ3 H5 => L2.wipe σ3 vs = L2.wipe σ vs ∧ tT K mg wF c σ3 H5 fun b H6 => if b = true then tin σ3 H6 L Nx1 else Nx1 H6 := by
  have w3' : Wd Z3 H3 (fun a => S2 a ∨ Fp0 a) := w3.less fun a x => x.elim .inl False.elim
  refine ⟨Z3, wipeE ρ2 vs, S2, Fp0, d, w3', fun _ _ x => x, er3, r3, ?_⟩
  simp only [clIt] at ci
  cases e3 : g d (wipeE ρ2 vs) with
  | stuck => rw [e3] at ci; cases ci
  | exc x ρ3 => rw [e3] at ci; cases ci
  | ok u ρ3 =>
    simp only [e3] at ci
    intro σ4 Z4 H4 S4 kp4 st4 er4
    have hw4 : L2.wipe σ4 vs = L2.wipe σ vs := (wipe_keep kp4).trans wipe_wipe
    refine ⟨hw4, ?_⟩
    obtain ⟨F, hF⟩ : ∃ F : Fp, F = fun a => a = L ∨ Sa a := ⟨_, rfl⟩
    have dF : ∀ a, S2 a → F a → False := fun a x y => dj2 a x (by rw [hF] at y; exact y)
    have w3F : Wd Z3 H3 (fun a => S2 a ∨ F a) := by rw [hF]; exact w3
    have st4' : Step Z3 H3 S2 Z4 H4 S4 := (Step.less (Step.refl (w3F.less fun a x => .inl x)) (S2 := fun a => S2 a ∨ Fp0 a) (fun a x => x.elim id False.elim)).trans st4
    have st4F := st4'.frame w3F dF
    have dF4 := st4'.apart (fun a x => w3F.live a (.inr x)) dF
    have subSa : ∀ a, Sa a → F a := fun a x => by rw [hF]; exact .inr x
    have inL : F L := by rw [hF]; exact .inl rfl
    have ra4 : RepL K Z4 H4 acc ys Sa := st4'.stayL (fun a x y => dF a x (subSa a y)) ra3
    have hy4 : H4 L = some (.lst ys) := st4'.fr L _ (fun x => dF L x inL) hys nt_lst
    refine ⟨Z4, ρ3, S4, st4.wd, er4, ?_⟩
    cases e4 : c ρ3 with
    | stuck => rw [e4] at ci; cases ci
    | exc x ρ4 => rw [e4] at ci; cases ci
    | ok t ρ4 =>
      intro Z5 H5 S5 st5 er5
      have st5F := st5.frame st4F.wd dF4
      have dF5 := st5.apart (fun a x => st4F.wd.live a (.inr x)) dF4
      have ra5 : RepL K Z5 H5 acc ys Sa := st5.stayL (fun a x y => dF4 a x (subSa a y)) ra4
      have hy5 : H5 L = some (.lst ys) := st5.fr L _ (fun x => dF4 L x inL) hy4 nt_lst
      have st35 : Step Z3 H3 (fun a => S2 a ∨ F a) Z5 H5 (fun a => S5 a ∨ F a) := st4F.trans st5F
      cases t with
      | false =>
        rw [if_neg Bool.false_ne_true]
        simp only [e4] at ci
        have q := er5.wipe (own := vs)
        rw [hw4] at q
        rw [hF] at st35
        exact k Z5 H5 S5 Sa ys acc ρ4 st35 (fun a x y => dF5 a x (by rw [hF]; exact y)) q hy5 nL ra5 ci
      | true =>
        rw [if_pos rfl]
        simp only [e4] at ci
        cases e5 : inn ρ4 acc with
        | stuck => rw [e5] at ci; cases ci
        | exc x ρ5 => rw [e5] at ci; cases ci
        | ok acc5 ρ5 =>
          simp only [e5] at ci
          have w5 := st5F.wd
          rw [hF] at w5 st35
          refine hin _ _ _ ⟨Z5, ρ4, S5, Sa, acc, ys, w5, fun a x y => dF5 a x (by rw [hF]; exact y), er5, hy5, nL, ra5, acc5, ρ5, e5, fun Z6 H6 S6 Sa6 ys6 st6 dj6 er6 hy6 nL6 ra6 => ?_⟩
          have q := er6.wipe (own := vs)
          rw [wipe_sub hv, hw4] at q
          exact k Z6 H6 S6 Sa6 ys6 acc5 ρ5 (st35.trans st6) dj6 q hy6 nL6 ra6 ci
theorem tCl_of {vs vs' : List Nat} {s : M (List D)} {g : Tg} {c : M Bool} {inn : In} {L : Addr} {Nx : Hp → Prop} {tin : TM} (hv : ∀ v ∈ vs', v ∈ vs) (hin : ∀ σ H Nx, tN K inn vs' σ H L Nx → tin σ H L Nx) (h : tN K (cla vs s g c inn) vs σ H L Nx) :
    tCl (tI K mg wF s) (tG K (fun j => decide (j ∈ vs)) g) (tT K mg wF c) tin vs σ H L Nx := by
  obtain ⟨Z, ρ, S, Sa, acc, ys, w, dj, er, hy, nL, ra, accF, ρF, ei, k⟩ := h
  obtain ⟨F, hF⟩ : ∃ F : Fp, F = fun a => a = L ∨ Sa a := ⟨_, rfl⟩
  have wF' : Wd Z H (fun a => S a ∨ F a) := by rw [hF]; exact w
  have dF : ∀ a, S a → F a → False := fun a x y => dj a x (by rw [hF] at y; exact y)
  have subSa : ∀ a, Sa a → F a := fun a x => by rw [hF]; exact .inr x
  have inL : F L := by rw [hF]; exact .inl rfl
  refine ⟨Z, ρ, S, wF'.less fun a x => .inl x, er, ?_⟩
  unfold cla at ei
  cases e1 : s ρ with
  | stuck => rw [e1] at ei; cases ei
  | exc x ρ1 => rw [e1] at ei; cases ei
  | ok ds ρ1 =>
    simp only [e1] at ei
    intro J Z1 H1 S1 st1 er1 wk
    have st1F := st1.frame wF' dF
    have dF1 := st1.apart (fun a x => wF'.live a (.inr x)) dF
    have ra1 : RepL K Z1 H1 acc ys Sa := st1.stayL (fun a x y => dF a x (subSa a y)) ra
    have hy1 : H1 L = some (.lst ys) := st1.fr L _ (fun x => dF L x inL) hy nt_lst
    rw [hF] at st1F
    refine ⟨fun i m H' => ∃ Z' ρ' S' Sa' acc' ys', Same Z1 Z' ∧ Step Z H (fun a => S a ∨ (a = L ∨ Sa a)) Z' H' (fun a => S' a ∨ (a = L ∨ Sa' a)) ∧ (∀ a, S' a → (a = L ∨ Sa' a) → False) ∧ EnvR K Z' H' (wipeE ρ' vs) (L2.wipe σ vs) S' ∧ H' L = some (.lst ys') ∧ ¬ Sa' L ∧ RepL K Z' H' acc' ys' Sa' ∧ i + m = ds.length ∧
      clIt vs g c inn (ds.drop i) (wipeE ρ' vs) acc' = .ok accF ρF, ⟨ds.length, Z1, ρ1, S1, Sa, acc, ys, Same.refl _, st1F, fun a x y => dF1 a x (by rw [hF]; exact y), er1.wipe, hy1, nL, ra1, by omega, ei⟩, ?_⟩
    rintro i m H2 ⟨Z2, ρ2, S2, Sa2, acc2, ys2, zz2, st2, dj2, er2, hy2, nL2, ra2, him, ci⟩
    obtain ⟨w3, w4⟩ := wk Z2 H2 zz2 st2.wd.same
    by_cases hi : i < ds.length
    · obtain ⟨go, yl⟩ := w4 i ds[i] (List.getElem?_eq_getElem hi)
      have ed : ds.drop i = ds[i] :: ds.drop (i + 1) := List.drop_eq_getElem_cons hi
      rw [ed] at ci
      refine .inr ⟨go, fun H' => ∃ Z' ρ' S' Sa' acc' ys', Same Z1 Z' ∧ Step Z H (fun a => S a ∨ (a = L ∨ Sa a)) Z' H' (fun a => S' a ∨ (a = L ∨ Sa' a)) ∧ (∀ a, S' a → (a = L ∨ Sa' a) → False) ∧ EnvR K Z' H' (wipeE ρ' vs) (L2.wipe σ vs) S' ∧ H' L = some (.lst ys') ∧ ¬ Sa' L ∧ RepL K Z' H' acc' ys' Sa' ∧ (i + 1) + (m - 1) = ds.length ∧
        clIt vs g c inn (ds.drop (i + 1)) (wipeE ρ' vs) acc' = .ok accF ρF, fun H' q => ⟨m - 1, by omega, q⟩, fun x H3 y => ?_⟩
      obtain ⟨Z3, st3, k3, r3⟩ := yl x H3 (fun a => S2 a ∨ (a = L ∨ Sa2 a)) st2.wd y
      exact turn_of hv (hin) st3.wd dj2 (er2.move st3.zz (fun a o _ e => k3 a o e) fun _ x => x) (k3 _ _ hy2) nL2 (ra2.move st3.zz (fun a o _ e => k3 a o e) fun _ x => x) r3 ci fun Z' H' S' Sa' ys' acc' ρ' st' dj' er' hy' nL' ra' ci' =>
        ⟨Z', ρ', S', Sa', acc', ys', zz2.trans (st3.zz.trans st'.zz), (st2.trans st3).trans st', dj', er', hy', nL', ra', by omega, ci'⟩
    · refine .inl ⟨w3 i (by omega), ?_⟩
      rw [List.drop_eq_nil_of_le (by omega)] at ci
      simp only [clIt, Res.ok.injEq] at ci
      obtain ⟨rfl, rfl⟩ := ci
      exact k Z2 H2 S2 Sa2 ys2 st2 dj2 er2 hy2 nL2 ra2
theorem tE_compN {own vs' : List Nat} {s : M (List D)} {g : Tg} {c : M Bool} {inn : In} {Q : VK} {tin : TM} (hv : ∀ v ∈ vs', v ∈ own) (hin : ∀ L σ H Nx, tN K inn vs' σ H L Nx → tin σ H L Nx) (h : tE K mg W (compN own s g c inn) σ H Q) :
    tLcN (tI K mg W s) (tG K (fun j => decide (j ∈ own)) g) (tT K mg wF c) tin own σ H Q := by
  obtain ⟨Z, ρ, S, w, er, o⟩ := h
  refine ⟨Z, ρ, S, w, er, ?_⟩
  simp only [compN, bnd] at o
  cases e1 : s ρ with
  | stuck => rw [e1] at o; exact o
  | exc x ρ1 => rw [e1] at o; exact o
  | ok ds ρ1 =>
    simp only [e1] at o
    intro J Z1 H1 S1 st er1 wk L hL
    cases e2 : clIt own g c inn ds (wipeE ρ1 own) [] with
    | stuck => simp only [e2] at o; exact o.elim
    | exc x ρ2 => simp only [e2] at o; exact o.elim
    | ok accF ρF =>
      simp only [e2] at o
      obtain ⟨f1, f2, f3, f4⟩ := fresh_lst (K := K) (ds := []) (vs := []) st.wd hL trivial
      refine ⟨fun i m H' => ∃ Z' ρ' S' Sa acc ys, Step Z1 H1 S1 Z' H' (fun a => S' a ∨ (a = L ∨ Sa a)) ∧ (∀ a, S' a → (a = L ∨ Sa a) → False) ∧ EnvR K Z' H' (wipeE ρ' own) (L2.wipe σ own) S' ∧ H' L = some (.lst ys) ∧ ¬ Sa L ∧ RepL K Z' H' acc ys Sa ∧ i + m = ds.length ∧
        clIt own g c inn (ds.drop i) (wipeE ρ' own) acc = .ok accF ρF, ⟨ds.length, Z1, ρ1, S1, Fp0, [], [], f1.less fun a x => x.elim .inl fun y => .inr (y.elim id False.elim), fun a x y => y.elim (f3 a x) False.elim, (er1.move (Same.refl _) (fun a o _ e => f2 a o e) fun _ x => x).wipe, upd_same, fun x => x, trivial, by omega, e2⟩, ?_⟩
      rintro i m H2 ⟨Z2, ρ2, S2, Sa, acc, ys, st2, dj2, er2, hys, nL, ra, him, ci⟩
      obtain ⟨w3, w4⟩ := wk Z2 H2 st2.zz st2.wd.same
      by_cases hi : i < ds.length
      · obtain ⟨go, yl⟩ := w4 i ds[i] (List.getElem?_eq_getElem hi)
        have ed : ds.drop i = ds[i] :: ds.drop (i + 1) := List.drop_eq_getElem_cons hi
        rw [ed] at ci
        refine .inr ⟨go, fun H' => ∃ Z' ρ' S' Sa acc ys, Step Z1 H1 S1 Z' H' (fun a => S' a ∨ (a = L ∨ Sa a)) ∧ (∀ a, S' a → (a = L ∨ Sa a) → False) ∧ EnvR K Z' H' (wipeE ρ' own) (L2.wipe σ own) S' ∧ H' L = some (.lst ys) ∧ ¬ Sa L ∧ RepL K Z' H' acc ys Sa ∧ (i + 1) + (m - 1) = ds.length ∧
          clIt own g c inn (ds.drop (i + 1)) (wipeE ρ' own) acc = .ok accF ρF, fun H' q => ⟨m - 1, by omega, q⟩, fun x H3 y => ?_⟩
        obtain ⟨Z3, st3, k3, r3⟩ := yl x H3 (fun a => S2 a ∨ (a = L ∨ Sa a)) st2.wd y
        exact turn_of hv (hin L) st3.wd dj2 (er2.move st3.zz (fun a o _ e => k3 a o e) fun _ x => x) (k3 _ _ hys) nL (ra.move st3.zz (fun a o _ e => k3 a o e) fun _ x => x) r3 ci fun Z' H' S' Sa' ys' acc' ρ' st' dj' er' hy' nL' ra' ci' =>
          ⟨Z', ρ', S', Sa', acc', ys', (st2.trans st3).trans st', dj', er', hy', nL', ra', by omega, ci'⟩
      · refine .inl ⟨w3 i (by omega), ?_⟩
        rw [List.drop_eq_nil_of_le (by omega)] at ci
        simp only [clIt, Res.ok.injEq] at ci
        obtain ⟨rfl, rfl⟩ := ci
        have er2' := wipeE_back er1 st2.zz (own := own) er2.unwipe
        exact o (.ref L) Z2 H2 S2 (fun a => a = L ∨ Sa a) (st.trans st2) dj2 er2' ⟨L, ys, Sa, rfl, hys, .inl rfl, nL, fun a x => .inr x, ra⟩
/-! ### the rules -/
variable {elt tg0 i0 tg1 i1 tg2 i2 : Expr} {ifs0 ifs1 ifs2 : List Expr} {scope : Scope} {own : List (Str × Nat)} {vs1 vs2 : List Nat} {pos : Pos} {s0 s1 s2 : M (List D)} {g0 g1 g2 : Tg} {c0 c1 c2 : M Bool} {e : M EV}
abbrev inA (vs : List Nat) : Nat → Bool := fun j => decide (j ∈ vs)
theorem E_lc2 (vs1 : List Nat) (hN : X.N.Nodup) (hi : PI X tg0 i0 (tI X.K X.mg W s0)) (ok : BlkOk X.N X.env.scope scope own)
    (hg : ∀ (s : Shared) (H : Hp) (C : Addr) (cl : List (Str × Addr)) (fp : List Addr), PG (X.blk s H scope (compEnvC scope cl C X.env) fp) tg0 (tG X.K (ownA own) g0)) (ht : ∀ (s : Shared) (H : Hp) (C : Addr) (cl : List (Str × Addr)) (fp : List Addr), PTs (X.blk s H scope (compEnvC scope cl C X.env) fp) ifs0 (tT X.K X.mg wF c0))
    (hi1 : ∀ (s : Shared) (H : Hp) (C : Addr) (cl : List (Str × Addr)) (fp : List Addr), PI (X.blk s H scope (compEnvC scope cl C X.env) fp) tg1 i1 (tI X.K X.mg wF s1))
    (hg1 : ∀ (s : Shared) (H : Hp) (C : Addr) (cl : List (Str × Addr)) (fp : List Addr), PG (X.blk s H scope (compEnvC scope cl C X.env) fp) tg1 (tG X.K (inA vs1) g1)) (ht1 : ∀ (s : Shared) (H : Hp) (C : Addr) (cl : List (Str × Addr)) (fp : List Addr), PTs (X.blk s H scope (compEnvC scope cl C X.env) fp) ifs1 (tT X.K X.mg wF c1))
    (he : ∀ (s : Shared) (H : Hp) (C : Addr) (cl : List (Str × Addr)) (fp : List Addr), PE (X.blk s H scope (compEnvC scope cl C X.env) fp) elt (tE X.K X.mg wF e)) (hv : ∀ i ∈ vs1, i ∈ own.map (·.2) := by decide) (hc : X.calm = true := by rfl) (hs : ∀ x, foldedSetIterable i0 X.env x = pure x := by intro _; rfl) (hs1 : ∀ env x, foldedSetIterable i1 env x = pure x := by intro _ _; rfl) :
    PE X (.ListComp elt [⟨tg0, i0, ifs0, 0⟩, ⟨tg1, i1, ifs1, 0⟩] scope pos) (tE X.K X.mg W (compN (own.map (·.2)) s0 g0 c0 (cla vs1 s1 g1 c1 (emit e)))) :=
  PE.of (pe_lcN hc hN hi ok hv hg ht hs hs1 (fun s H C cl fp => jo_last rfl hc (hi1 s H C cl fp) (hg1 s H C cl fp) (ht1 s H C cl fp) (he s H C cl fp) (fun _ _ => turn21) starts21) fun _ _ _ => turn20) fun _ _ _ q =>
    tE_compN hv (fun L σ H Nx q1 => tCl_of (vs' := []) (fun _ z => nomatch z) (fun _ _ _ q2 => tEm_of q2) q1) q
theorem E_lc3 (vs1 vs2 : List Nat) (hN : X.N.Nodup) (hi : PI X tg0 i0 (tI X.K X.mg W s0)) (ok : BlkOk X.N X.env.scope scope own)
    (hg : ∀ (s : Shared) (H : Hp) (C : Addr) (cl : List (Str × Addr)) (fp : List Addr), PG (X.blk s H scope (compEnvC scope cl C X.env) fp) tg0 (tG X.K (ownA own) g0)) (ht : ∀ (s : Shared) (H : Hp) (C : Addr) (cl : List (Str × Addr)) (fp : List Addr), PTs (X.blk s H scope (compEnvC scope cl C X.env) fp) ifs0 (tT X.K X.mg wF c0))
    (hi1 : ∀ (s : Shared) (H : Hp) (C : Addr) (cl : List (Str × Addr)) (fp : List Addr), PI (X.blk s H scope (compEnvC scope cl C X.env) fp) tg1 i1 (tI X.K X.mg wF s1))
    (hg1 : ∀ (s : Shared) (H : Hp) (C : Addr) (cl : List (Str × Addr)) (fp : List Addr), PG (X.blk s H scope (compEnvC scope cl C X.env) fp) tg1 (tG X.K (inA vs1) g1)) (ht1 : ∀ (s : Shared) (H : Hp) (C : Addr) (cl : List (Str × Addr)) (fp : List Addr), PTs (X.blk s H scope (compEnvC scope cl C X.env) fp) ifs1 (tT X.K X.mg wF c1))
    (hi2 : ∀ (s : Shared) (H : Hp) (C : Addr) (cl : List (Str × Addr)) (fp : List Addr), PI (X.blk s H scope (compEnvC scope cl C X.env) fp) tg2 i2 (tI X.K X.mg wF s2))
    (hg2 : ∀ (s : Shared) (H : Hp) (C : Addr) (cl : List (Str × Addr)) (fp : List Addr), PG (X.blk s H scope (compEnvC scope cl C X.env) fp) tg2 (tG X.K (inA vs2) g2)) (ht2 : ∀ (s : Shared) (H : Hp) (C : Addr) (cl : List (Str × Addr)) (fp : List Addr), PTs (X.blk s H scope (compEnvC scope cl C X.env) fp) ifs2 (tT X.K X.mg wF c2))
    (he : ∀ (s : Shared) (H : Hp) (C : Addr) (cl : List (Str × Addr)) (fp : List Addr), PE (X.blk s H scope (compEnvC scope cl C X.env) fp) elt (tE X.K X.mg wF e)) (hv : ∀ i ∈ vs1, i ∈ own.map (·.2) := by decide) (hv2 : ∀ i ∈ vs2, i ∈ vs1 := by decide) (hc : X.calm = true := by rfl) (hs : ∀ x, foldedSetIterable i0 X.env x = pure x := by intro _; rfl) (hs1 : ∀ env x, foldedSetIterable i1 env x = pure x := by intro _ _; rfl)
    (hs2 : ∀ env x, foldedSetIterable i2 env x = pure x := by intro _ _; rfl) :
    PE X (.ListComp elt [⟨tg0, i0, ifs0, 0⟩, ⟨tg1, i1, ifs1, 0⟩, ⟨tg2, i2, ifs2, 0⟩] scope pos) (tE X.K X.mg W (compN (own.map (·.2)) s0 g0 c0 (cla vs1 s1 g1 c1 (cla vs2 s2 g2 c2 (emit e))))) :=
  PE.of (pe_lcN hc hN hi ok hv hg ht hs hs1 (fun s H C cl fp => jo_mid rfl hc (hi1 s H C cl fp) (hg1 s H C cl fp) (ht1 s H C cl fp) (jo_last rfl hc (hi2 s H C cl fp) (hg2 s H C cl fp) (ht2 s H C cl fp) (he s H C cl fp) (fun _ _ => turn32) starts32) hv2 (hs2 _) (fun _ _ => turn31) starts31) fun _ _ _ => turn30) fun _ _ _ q =>
    tE_compN hv (fun L σ H Nx q1 => tCl_of hv2 (fun _ _ _ q2 => tCl_of (vs' := []) (fun _ z => nomatch z) (fun _ _ _ q3 => tEm_of q3) q2) q1) q
theorem S_lc2 (vs1 : List Nat) {i : Nat} {y : Str} {py spos : Pos} (hN : X.N.Nodup) (hi : PI X tg0 i0 (tI X.K X.mg W s0)) (ok : BlkOk X.N X.env.scope scope own)
    (hg : ∀ (s : Shared) (H : Hp) (C : Addr) (cl : List (Str × Addr)) (fp : List Addr), PG (X.blk s H scope (compEnvC scope cl C X.env) fp) tg0 (tG X.K (ownA own) g0)) (ht : ∀ (s : Shared) (H : Hp) (C : Addr) (cl : List (Str × Addr)) (fp : List Addr), PTs (X.blk s H scope (compEnvC scope cl C X.env) fp) ifs0 (tT X.K X.mg wF c0))
    (hi1 : ∀ (s : Shared) (H : Hp) (C : Addr) (cl : List (Str × Addr)) (fp : List Addr), PI (X.blk s H scope (compEnvC scope cl C X.env) fp) tg1 i1 (tI X.K X.mg wF s1))
    (hg1 : ∀ (s : Shared) (H : Hp) (C : Addr) (cl : List (Str × Addr)) (fp : List Addr), PG (X.blk s H scope (compEnvC scope cl C X.env) fp) tg1 (tG X.K (inA vs1) g1)) (ht1 : ∀ (s : Shared) (H : Hp) (C : Addr) (cl : List (Str × Addr)) (fp : List Addr), PTs (X.blk s H scope (compEnvC scope cl C X.env) fp) ifs1 (tT X.K X.mg wF c1))
    (he : ∀ (s : Shared) (H : Hp) (C : Addr) (cl : List (Str × Addr)) (fp : List Addr), PE (X.blk s H scope (compEnvC scope cl C X.env) fp) elt (tE X.K X.mg wF e)) (hv : ∀ i ∈ vs1, i ∈ own.map (·.2) := by decide) (hc : X.calm = true := by rfl) (hs : ∀ x, foldedSetIterable i0 X.env x = pure x := by intro _; rfl) (hs1 : ∀ env x, foldedSetIterable i1 env x = pure x := by intro _ _; rfl)
    (hA : A i = true := by rfl) (hy : X.N[i]? = some y := by rfl) (hyl : X.env.scope.names.lookup y = some .local := by rfl) (hsw : swapsWith (.ListComp elt [⟨tg0, i0, ifs0, 0⟩, ⟨tg1, i1, ifs1, 0⟩] scope pos) (some (.Name y py)) spos.line X.env = pure true := by rfl) :
    PS X (.Assign [.Name y py] (.ListComp elt [⟨tg0, i0, ifs0, 0⟩, ⟨tg1, i1, ifs1, 0⟩] scope pos) spos) (tS X.K X.mg W A (asg (compN (own.map (·.2)) s0 g0 c0 (cla vs1 s1 g1 c1 (emit e))) (gN i))) :=
  PS.of (ps_setLcN hc hN hy hyl hsw hi ok hv hg ht hs hs1 (fun s H C cl fp => jo_last rfl hc (hi1 s H C cl fp) (hg1 s H C cl fp) (ht1 s H C cl fp) (he s H C cl fp) (fun _ _ => turn21) starts21) fun _ _ _ => turn20) fun D σ H q =>
    tE_compN (Q := _) hv (fun L σ H Nx q1 => tCl_of (vs' := []) (fun _ z => nomatch z) (fun _ _ _ q2 => tEm_of q2) q1) (tE_mono (fun v H1 r => tG_N hA r) (tS_asg q))
theorem S_lc3 (vs1 vs2 : List Nat) {i : Nat} {y : Str} {py spos : Pos} (hN : X.N.Nodup) (hi : PI X tg0 i0 (tI X.K X.mg W s0)) (ok : BlkOk X.N X.env.scope scope own)
    (hg : ∀ (s : Shared) (H : Hp) (C : Addr) (cl : List (Str × Addr)) (fp : List Addr), PG (X.blk s H scope (compEnvC scope cl C X.env) fp) tg0 (tG X.K (ownA own) g0)) (ht : ∀ (s : Shared) (H : Hp) (C : Addr) (cl : List (Str × Addr)) (fp : List Addr), PTs (X.blk s H scope (compEnvC scope cl C X.env) fp) ifs0 (tT X.K X.mg wF c0))
    (hi1 : ∀ (s : Shared) (H : Hp) (C : Addr) (cl : List (Str × Addr)) (fp : List Addr), PI (X.blk s H scope (compEnvC scope cl C X.env) fp) tg1 i1 (tI X.K X.mg wF s1))
    (hg1 : ∀ (s : Shared) (H : Hp) (C : Addr) (cl : List (Str × Addr)) (fp : List Addr), PG (X.blk s H scope (compEnvC scope cl C X.env) fp) tg1 (tG X.K (inA vs1) g1)) (ht1 : ∀ (s : Shared) (H : Hp) (C : Addr) (cl : List (Str × Addr)) (fp : List Addr), PTs (X.blk s H scope (compEnvC scope cl C X.env) fp) ifs1 (tT X.K X.mg wF c1))
    (hi2 : ∀ (s : Shared) (H : Hp) (C : Addr) (cl : List (Str × Addr)) (fp : List Addr), PI (X.blk s H scope (compEnvC scope cl C X.env) fp) tg2 i2 (tI X.K X.mg wF s2))
    (hg2 : ∀ (s : Shared) (H : Hp) (C : Addr) (cl : List (Str × Addr)) (fp : List Addr), PG (X.blk s H scope (compEnvC scope cl C X.env) fp) tg2 (tG X.K (inA vs2) g2)) (ht2 : ∀ (s : Shared) (H : Hp) (C : Addr) (cl : List (Str × Addr)) (fp : List Addr), PTs (X.blk s H scope (compEnvC scope cl C X.env) fp) ifs2 (tT X.K X.mg wF c2))
    (he : ∀ (s : Shared) (H : Hp) (C : Addr) (cl : List (Str × Addr)) (fp : List Addr), PE (X.blk s H scope (compEnvC scope cl C X.env) fp) elt (tE X.K X.mg wF e)) (hv : ∀ i ∈ vs1, i ∈ own.map (·.2) := by decide) (hv2 : ∀ i ∈ vs2, i ∈ vs1 := by decide) (hc : X.calm = true := by rfl) (hs : ∀ x, foldedSetIterable i0 X.env x = pure x := by intro _; rfl) (hs1 : ∀ env x, foldedSetIterable i1 env x = pure x := by intro _ _; rfl)
    (hs2 : ∀ env x, foldedSetIterable i2 env x = pure x := by intro _ _; rfl)
    (hA : A i = true := by rfl) (hy : X.N[i]? = some y := by rfl) (hyl : X.env.scope.names.lookup y = some .local := by rfl) (hsw : swapsWith (.ListComp elt [⟨tg0, i0, ifs0, 0⟩, ⟨tg1, i1, ifs1, 0⟩, ⟨tg2, i2, ifs2, 0⟩] scope pos) (some (.Name y py)) spos.line X.env = pure true := by rfl) :
    PS X (.Assign [.Name y py] (.ListComp elt [⟨tg0, i0, ifs0, 0⟩, ⟨tg1, i1, ifs1, 0⟩, ⟨tg2, i2, ifs2, 0⟩] scope pos) spos) (tS X.K X.mg W A (asg (compN (own.map (·.2)) s0 g0 c0 (cla vs1 s1 g1 c1 (cla vs2 s2 g2 c2 (emit e)))) (gN i))) :=
  PS.of (ps_setLcN hc hN hy hyl hsw hi ok hv hg ht hs hs1 (fun s H C cl fp => jo_mid rfl hc (hi1 s H C cl fp) (hg1 s H C cl fp) (ht1 s H C cl fp) (jo_last rfl hc (hi2 s H C cl fp) (hg2 s H C cl fp) (ht2 s H C cl fp) (he s H C cl fp) (fun _ _ => turn32) starts32) hv2 (hs2 _) (fun _ _ => turn31) starts31) fun _ _ _ => turn30) fun D σ H q =>
    tE_compN (Q := _) hv (fun L σ H Nx q1 => tCl_of hv2 (fun _ _ _ q2 => tCl_of (vs' := []) (fun _ z => nomatch z) (fun _ _ _ q3 => tEm_of q3) q2) q1) (tE_mono (fun v H1 r => tG_N hA r) (tS_asg q))
end
end Pm
/-! PmV: texts added, repeated, read as numbers. -/
namespace Pm
open PySem PySem.Spec PyProof.Rows L2
section
variable {K : PySem.W.Frag} {mg : Str → Option Value} {W : WX} {Z H : Hp} {S : Fp} {σ : Sl} {X : Cx}
def strRep (x : Str) (n : Int) : Str := if n < 1 then Str.empty else if (n == 1 || x.length == 0) = true then x else ⟨(List.replicate n.toNat x.cps).foldl (· ++ ·) #[]⟩
theorem op_repS : OpR X (binaryOp .Mult) (fun x y H Q => ∃ a k, x = .str a ∧ y = .int k ∧ k ≤ 1000000 ∧ -1000000 ≤ k ∧ a.length * k.toNat ≤ sizeLine ∧ Q (.str (strRep a k)) H) := by
  intro pins s σ H x y v u Q I rx ry h
  obtain ⟨a, k, rfl, rfl, h1, h2, hz, q⟩ := h
  obtain ⟨t, rfl⟩ := rx
  obtain ⟨t', rfl⟩ := ry
  refine PySem.P.mul_str (by
    rw [decide_eq_false (show ¬ k < -(2 ^ 63 : Int) by omega), decide_eq_false (show ¬ k ≥ 2 ^ 63 by omega)]; rfl) (fun h3 _ => ?_) (fun h3 _ => ?_) ?_
  · have e : (a.length : Int) ≤ (2 ^ 63 - 1) / k := by
      rw [Int.le_ediv_iff_mul_le (by omega)]
      have e2 : ((a.length * k.toNat : Nat) : Int) = (a.length : Int) * k := by rw [Int.natCast_mul, Int.toNat_of_nonneg (by omega)]
      have e3 : a.length * k.toNat ≤ 2 ^ 63 - 1 := Nat.le_trans hz (by rw [sizeLine_eq]; decide)
      omega
    omega
  · exact decide_eq_false (Nat.not_lt.mpr hz)
  · unfold strRep at q
    split
    · rename_i c
      rw [if_pos c] at q
      exact ⟨by decide, ⟨.str _, H, I.tok _, ⟨_, rfl⟩, q⟩⟩
    · rename_i c
      rw [if_neg c] at q
      split
      · rename_i c2
        rw [if_pos c2] at q
        exact ⟨.str _, H, I, ⟨_, rfl⟩, q⟩
      · rename_i c2
        rw [if_neg c2] at q
        exact ⟨fits_reps (decide_eq_false (Nat.not_lt.mpr hz)), ⟨.str _, H, I.tok _, ⟨_, rfl⟩, q⟩⟩
def gAddS : List D → Option D
  | [.str a, .str b] => if a.length + b.length ≤ cap then some (.str (a ++ b)) else none
  | _ => none
def gMulS : List D → Option D
  | [.str a, .int k] => if k ≤ 1000000 ∧ -1000000 ≤ k ∧ a.length * k.toNat ≤ cap then some (.str (strRep a k)) else none
  | _ => none
theorem opd_addS : Opd X (binaryOp .Add) gAddS := by
  refine ⟨_, op_add_str, snd_pure fun Z H S ds vs d Q w rb e k => ?_⟩
  unfold gAddS at e
  split at e
  · split at e
    · rename_i a b c
      obtain ⟨v, u, rfl, rv, ru⟩ := rb2 rb
      obtain rfl : v = .str a := rv
      obtain rfl : u = .str b := ru
      cases e
      exact ⟨_, _, rfl, a, b, rfl, rfl, cap_le c, k _ rfl⟩
    · cases e
  · cases e
theorem opd_mulS : Opd X (binaryOp .Mult) gMulS := by
  refine ⟨_, op_repS, snd_pure fun Z H S ds vs d Q w rb e k => ?_⟩
  unfold gMulS at e
  split at e
  · split at e
    · rename_i a b c
      obtain ⟨v, u, rfl, rv, ru⟩ := rb2 rb
      obtain rfl : v = .str a := rv
      obtain rfl : u = .int b := ru
      cases e
      exact ⟨_, _, rfl, a, b, rfl, rfl, c.1, c.2.1, cap_le c.2.2, k _ rfl⟩
    · cases e
  · cases e
def gAdd : List D → Option D
  | [.str a, .str b] => gAddS [.str a, .str b]
  | ds => on2I iAdd ds
def gMul : List D → Option D
  | [.str a, .int k] => gMulS [.str a, .int k]
  | ds => on2I iMul ds
theorem opd_gAdd : Opd X (binaryOp .Add) gAdd := Opd.or opd_addS opd_addI fun ds d h => by
  unfold gAdd at h
  split at h
  · exact .inl h
  · exact .inr h
theorem opd_gMul : Opd X (binaryOp .Mult) gMul := Opd.or opd_mulS opd_mulI fun ds d h => by
  unfold gMul at h
  split at h
  · exact .inl h
  · exact .inr h
def opInt : List D → Option D
  | [.str a] => if a.length ≤ 640 then (PySem.intText? a).map D.int else none
  | ds => opInt1 ds
theorem snd_int : Snd X (fun xs H Q => ((∃ i, xs = [.int i] ∧ Q (.int i) H) ∨ ∃ k, xs = [.bl k] ∧ Q (.int (if k then 1 else 0)) H) ∨ ∃ a n, xs = [.str a] ∧ PySem.intText? a = some n ∧ a.length ≤ 640 ∧ Q (.int n) H) opInt := by
  intro Z H S ds vs d Q w rb e k
  unfold opInt at e
  split at e
  · rename_i a
    split at e
    · rename_i c
      cases hn : PySem.intText? a with
      | none => rw [hn] at e; cases e
      | some n =>
        rw [hn] at e
        simp only [Option.map_some, Option.some.injEq] at e
        subst e
        obtain ⟨v, rfl, rv⟩ := rb1 rb
        obtain rfl : v = .str a := rv
        refine .inr ⟨a, n, rfl, hn, c, k _ Z H Fp0 ?_ (Same.refl H) (fun _ _ x => x) rfl⟩
        exact w.nil
    · cases e
  · exact .inl (snd_int1 Z H S ds vs d Q w rb e k)
theorem call_intA : CallR X (.type "int") (fun xs H Q => ((∃ i, xs = [.int i] ∧ Q (.int i) H) ∨ ∃ k, xs = [.bl k] ∧ Q (.int (if k then 1 else 0)) H) ∨ ∃ a n, xs = [.str a] ∧ PySem.intText? a = some n ∧ a.length ≤ 640 ∧ Q (.int n) H) := CallR.or call_int1 call_int_str
end
end Pm
/-! PmY: the module's own constants, chained comparisons, texts within texts, all and any, lists joined. -/
namespace Pm
open PySem PySem.Spec PyProof.Rows L2
section
variable {K : PySem.W.Frag} {mg : Str → Option Value} {W : WX} {Z Z' H H' : Hp} {S S' : Fp} {σ : Sl} {X : Cx} {a b c e : Expr} {pos : Pos} {fa fb fc : M EV}
/-! ### constants of the module -/
theorem E_gs {x z : Str} {t : Tok} (hm : X.mg x = some (.str z t)) (hg : Gl X x := by rfl) (hd : (x == ("__debug__" : Str)) = false := by decide) : PE X (.Name x pos) (tE X.K X.mg W (con (.str z))) :=
  ⟨fun _ _ _ H _ I h => ld_glob I hg hm ⟨.str z, H, I, ⟨_, rfl⟩, tE_con (d := .str z) (fun _ _ => rfl) h⟩ hd⟩
theorem E_gi {x : Str} {i : Int} {t : Tok} (hm : X.mg x = some (.int i t)) (hg : Gl X x := by rfl) (hd : (x == ("__debug__" : Str)) = false := by decide) : PE X (.Name x pos) (tE X.K X.mg W (con (.int i))) :=
  ⟨fun _ _ _ H _ I h => ld_glob I hg hm ⟨.int i, H, I, ⟨_, rfl⟩, tE_con (d := .int i) (fun _ _ => rfl) h⟩ hd⟩
/-! ### a < b < c over ints -/
def chI (p q : Int → Int → Bool) (fa fb fc : M EV) : M EV := bnd fa fun ea => bnd fb fun eb => fun ρ => match peek1 ρ ea, peek1 ρ eb with
  | some (.int i), some (.int j) => if p i j = true then (bnd fc fun ec => fun ρ' => match peek1 ρ' ec with
      | some (.int l) => .ok (.val (.bl (q j l))) ρ'
      | _ => .stuck) ρ else .ok (.val (.bl false)) ρ
  | _, _ => .stuck
theorem int_of {ev : EV} {v : V} {i : Int} {ρ : Env} (h : peek1 ρ ev = some (.int i)) (r : EVR K Z H σ ev v S) (er : EnvR K Z' H' ρ σ S') : v = .int i := by
  cases ev with
  | val d =>
    have e : d = .int i := Option.some.inj h
    subst e
    exact r
  | ref j => exact peek1_rep (Z := Z') (H := H') (Sa := Fp0) (e := .ref j) er r h
theorem tE_chI {p q : Int → Int → Bool} {Q : VK} (h : tE K mg W (chI p q fa fb fc) σ H Q) : tChain (rI0 fun i j => .bl (p i j)) (rI0 fun i j => .bl (q i j)) (tE K mg W fa) (tE K mg W fb) (tE K mg W fc) σ H Q := by
  obtain ⟨Z, ρ, S, w, er, o⟩ := h
  refine ⟨Z, ρ, S, w, er, ?_⟩
  simp only [chI, bnd] at o
  cases e1 : fa ρ with
  | stuck => rw [e1] at o; exact o
  | exc x ρ1 => rw [e1] at o; exact o
  | ok ea ρ1 =>
    rw [e1] at o
    intro x Z1 H1 S1 Sa st1 dj1 er1 r1
    have t1 := st1.less (S2 := S1) fun a x => .inl x
    refine ⟨Z1, ρ1, S1, t1.wd, er1, ?_⟩
    have o1 := OutE.after (K := K) (mg := mg) (W := W) (σ := σ) (Q := Q) t1 o
    cases e2 : fb ρ1 with
    | stuck => simp only [e2] at o1; exact o1
    | exc x ρ2 => simp only [e2] at o1; exact o1
    | ok eb ρ2 =>
      simp only [e2] at o1
      intro y Z2 H2 S2 Sb st2 dj2 er2 r2
      have t2 := st2.less (S2 := S2) fun a x => .inl x
      have o2 := OutE.after (K := K) (mg := mg) (W := W) (σ := σ) (Q := Q) t2 o1
      split at o2
      · rename_i i j h1 h2
        have ex := int_of h1 r1 er2
        have ey := int_of h2 r2 er2
        refine ⟨i, j, ex, ey, p i j, rfl, ?_⟩
        cases hp : p i j with
        | false =>
          rw [hp] at o2
          exact o2 (.bl false) Z2 H2 S2 Fp0 t2.wd.nil (fun _ _ x => x) er2 rfl
        | true =>
          rw [hp] at o2
          simp only [if_true] at o2 ⊢
          refine ⟨Z2, ρ2, S2, t2.wd, er2, ?_⟩
          cases e3 : fc ρ2 with
          | stuck => simp only [e3] at o2; exact o2
          | exc x ρ3 => simp only [e3] at o2; exact o2
          | ok ec ρ3 =>
            simp only [e3] at o2
            intro z Z3 H3 S3 Sc st3 dj3 er3 r3
            have t3 := st3.less (S2 := S3) fun a x => .inl x
            have o3 := OutE.after (K := K) (mg := mg) (W := W) (σ := σ) (Q := Q) t3 o2
            split at o3
            · rename_i l h3
              exact ⟨j, l, ey, int_of h3 r3 er3, o3 (.bl (q j l)) Z3 H3 S3 Fp0 t3.wd.nil (fun _ _ x => x) er3 rfl⟩
            · exact o3.elim
      · exact o2.elim
theorem E_ch {op op' : CmpOp} {p q : Int → Int → Bool} (h1 : OpR X (compareOp op) (rI0 fun i j => .bl (p i j))) (h2 : OpR X (compareOp op') (rI0 fun i j => .bl (q i j))) (ha : PE X a (tE X.K X.mg W fa)) (hb : PE X b (tE X.K X.mg W fb)) (hc : PE X c (tE X.K X.mg W fc))
    (hm : lastMarks [op, op'] [b, c] = false := by with_unfolding_all rfl) : PE X (.Compare a [op, op'] [b, c] pos) (tE X.K X.mg W (chI p q fa fb fc)) := PE.of (pe_chain h1 h2 ha hb hc hm) fun _ _ _ q => tE_chI q
theorem tT_tstOf {f : M EV} {t : TE} {Q : Bool → Hp → Prop} (i : ∀ σ H Q, tE K mg W f σ H Q → t σ H Q) (h : tT K mg W (tst f) σ H Q) : tTest t σ H Q := i _ _ _ (tT_tst h)
theorem T_ch {op op' : CmpOp} {p q : Int → Int → Bool} (h1 : OpR X (compareOp op) (rI0 fun i j => .bl (p i j))) (h2 : OpR X (compareOp op') (rI0 fun i j => .bl (q i j))) (ha : PE X a (tE X.K X.mg W fa)) (hb : PE X b (tE X.K X.mg W fb)) (hc : PE X c (tE X.K X.mg W fc))
    (hm : lastMarks [op, op'] [b, c] = false := by with_unfolding_all rfl) : PT X (.Compare a [op, op'] [b, c] pos) (tT X.K X.mg W (tst (chI p q fa fb fc))) := PT.of (pt_chain h1 h2 ha hb hc hm) fun _ _ _ q => tT_tstOf (fun _ _ _ => tE_chI) q
def cLt (i j : Int) : Bool := decide (i < j)
def cLe (i j : Int) : Bool := decide (i ≤ j)
def cGt (i j : Int) : Bool := decide (j < i)
def cGe (i j : Int) : Bool := decide (j ≤ i)
theorem oc_lt : OpR X (compareOp .Lt) (rI0 fun i j => .bl (cLt i j)) := op_lt
theorem oc_le : OpR X (compareOp .LtE) (rI0 fun i j => .bl (cLe i j)) := op_le
theorem oc_gt : OpR X (compareOp .Gt) (rI0 fun i j => .bl (cGt i j)) := op_gt
theorem oc_ge : OpR X (compareOp .GtE) (rI0 fun i j => .bl (cGe i j)) := op_ge
/-! ### one text within another -/
def subS (i j : Str) : Bool := !(Builtin.Str.occurrences j i 0 j.length 1).isEmpty
def opInS : List D → Option D
  | [.str i, .str j] => some (.bl (subS i j))
  | _ => none
def opNotInS : List D → Option D
  | [.str i, .str j] => some (.bl (!(subS i j)))
  | _ => none
theorem opd_inS : Opd X (compareOp .In) opInS := by
  refine ⟨_, op_in_str, snd_pure fun Z H S ds vs d Q w rb e k => ?_⟩
  unfold opInS at e
  split at e
  · rename_i x y
    obtain ⟨v, u, rfl, rv, ru⟩ := rb2 rb
    obtain rfl : v = .str x := rv
    obtain rfl : u = .str y := ru
    cases e
    exact ⟨_, _, rfl, x, y, rfl, rfl, k _ rfl⟩
  · cases e
theorem opd_notInS : Opd X (compareOp .NotIn) opNotInS := by
  refine ⟨_, op_notin_str, snd_pure fun Z H S ds vs d Q w rb e k => ?_⟩
  unfold opNotInS at e
  split at e
  · rename_i x y
    obtain ⟨v, u, rfl, rv, ru⟩ := rb2 rb
    obtain rfl : v = .str x := rv
    obtain rfl : u = .str y := ru
    cases e
    exact ⟨_, _, rfl, x, y, rfl, rfl, k _ rfl⟩
  · cases e
/-! ### all, any -/
def blsD : List D → Option (List Bool)
  | [] => some []
  | .bl b :: ds => (blsD ds).map (b :: ·)
  | _ => none
theorem blsD_map : ∀ bs : List Bool, blsD (bs.map D.bl) = some bs
  | [] => rfl
  | b :: bs => by rw [List.map_cons, blsD, blsD_map bs]; rfl
theorem blsD_inv : ∀ {ds : List D} {bs : List Bool}, blsD ds = some bs → ds = bs.map D.bl
  | [], bs, h => by
    simp only [blsD, Option.some.injEq] at h
    subst h
    rfl
  | d :: ds, bs, h => by
    cases d with
    | bl b =>
      simp only [blsD, Option.map_eq_some_iff] at h
      obtain ⟨cs, h1, rfl⟩ := h
      rw [blsD_inv h1]
      rfl
    | _ => simp [blsD] at h
theorem reps_bls : ∀ {bs : List Bool} {vs : List V} {S : Fp}, RepL K Z H (bs.map D.bl) vs S → vs = bs.map V.bl
  | [], [], _, _ => rfl
  | [], _ :: _, _, h => h.elim
  | _ :: _, [], _, h => h.elim
  | b :: bs, v :: vs, S, ⟨_, _, _, _, _, r, q⟩ => by
    have e : v = .bl b := r
    rw [e, reps_bls q]
    rfl
def opAll : List D → Option D
  | [.node _ .lst xs] => match blsD xs with
    | some bs => some (.bl (bs.all id))
    | none => none
  | _ => none
def opAny : List D → Option D
  | [.node _ .lst xs] => match blsD xs with
    | some bs => some (.bl (bs.any id))
    | none => none
  | _ => none
theorem snd_all : Snd X (rAll X.K) opAll := by
  refine snd_pure fun Z H S ds vs d Q w rb e k => ?_
  unfold opAll at e
  split at e
  · split at e
    · rename_i bs hb
      obtain ⟨v, rfl, rv⟩ := rb1 rb
      obtain ⟨a, ys, rfl, c, rl⟩ := rep_lst w.same rv
      rw [blsD_inv hb] at rl
      have ey := reps_bls rl
      subst ey
      cases e
      exact ⟨a, bs, rfl, SqL.of c, k _ rfl⟩
    · cases e
  · cases e
theorem snd_any : Snd X (rAny X.K) opAny := by
  refine snd_pure fun Z H S ds vs d Q w rb e k => ?_
  unfold opAny at e
  split at e
  · split at e
    · rename_i bs hb
      obtain ⟨v, rfl, rv⟩ := rb1 rb
      obtain ⟨a, ys, rfl, c, rl⟩ := rep_lst w.same rv
      rw [blsD_inv hb] at rl
      have ey := reps_bls rl
      subst ey
      cases e
      exact ⟨a, bs, rfl, SqL.of c, k _ rfl⟩
    · cases e
  · cases e
end
end Pm
/-! PmZ: lists and tuples joined, membership. -/
namespace Pm
open PySem PySem.Spec PyProof.Rows L2
section
variable {K : PySem.W.Frag} {mg : Str → Option Value} {W : WX} {Z Z' H H' : Hp} {S S' : Fp} {σ : Sl} {X : Cx} {a b c e : Expr} {pos : Pos} {fa fb fc : M EV}
theorem RepL.joinP : ∀ {ds es : List D} {vs ws : List V}, RepL K Z H ds vs Fp0 → RepL K Z H es ws Fp0 → RepL K Z H (ds ++ es) (vs ++ ws) Fp0 := fun {ds es vs ws} h1 h2 => RepL.append h1 h2 (fun _ x => x) (fun _ x => x) fun _ x _ => x
def opCatL : List D → Option D
  | [.node _ .lst xs, .node _ .lst ys] => if plainL xs = true ∧ plainL ys = true ∧ xs.length + ys.length ≤ cap then some (.lst true (xs ++ ys)) else none
  | _ => none
theorem opd_catL : Opd X (binaryOp .Add) opCatL := by
  refine ⟨_, op_cat, fun Z H S ds vs d Q w rb e k => ?_⟩
  unfold opCatL at e
  split at e
  · split at e
    · rename_i hp
      obtain ⟨v, u, rfl, rv, ru⟩ := rb2 rb
      obtain ⟨a, ys, rfl, c, rl⟩ := rep_lst w.same rv
      obtain ⟨a', ys', rfl, c', rl'⟩ := rep_lst w.same ru
      cases e
      refine ⟨_, _, rfl, a, a', ys, ys', rfl, rfl, c, c', by rw [← rl.length, ← rl'.length]; exact cap_le hp.2.2, fun p np => ?_⟩
      obtain ⟨f1, f2, f3, f4⟩ := fresh_lst w np ((rl.plain hp.1).joinP (rl'.plain hp.2.1))
      exact k _ _ _ _ f1 f2 f3 f4
    · cases e
  · cases e
def opCatT : List D → Option D
  | [.node false .tup xs, .node false .tup ys] => if plainL xs = true ∧ plainL ys = true ∧ xs.length + ys.length ≤ cap then some (.tup (xs ++ ys)) else none
  | _ => none
theorem opd_catT : Opd X (binaryOp .Add) opCatT := by
  refine ⟨_, op_catA, fun Z H S ds vs d Q w rb e k => ?_⟩
  unfold opCatT at e
  split at e
  · split at e
    · rename_i xs zs hp
      obtain ⟨v, u, rfl, rv, ru⟩ := rb2 rb
      have rv0 : Rep X.K Z H (.tup xs) v Fp0 := Rep.plain rv (by simp [D.plain, hp.1])
      have ru0 : Rep X.K Z H (.tup zs) u Fp0 := Rep.plain ru (by simp [D.plain, hp.2.1])
      obtain ⟨a, ys, rfl, c, rl⟩ := rep_tup w.same rv0
      obtain ⟨a', ys', rfl, c', rl'⟩ := rep_tup w.same ru0
      cases e
      have l1 := rl.length
      have l2 := rl'.length
      refine ⟨_, _, rfl, a, a', ys, ys', rfl, rfl, c, c', by rw [← l1, ← l2]; exact cap_le hp.2.2, fun h => ?_, fun _ h => ?_, fun _ _ p np => ?_⟩
      · have ex : xs = [] := List.length_eq_zero_iff.mp (by rw [l1, h]; rfl)
        rw [ex, List.nil_append] at k
        exact k _ _ _ Fp0 w.nil (Same.refl H) (fun _ _ x => x) ru0
      · have ex : zs = [] := List.length_eq_zero_iff.mp (by rw [l2, h]; rfl)
        rw [ex, List.append_nil] at k
        exact k _ _ _ Fp0 w.nil (Same.refl H) (fun _ _ x => x) rv0
      · obtain ⟨f1, f2, f3⟩ := fresh_tup w np ((rl.plain hp.1).joinP (rl'.plain hp.2.1))
        exact k _ _ _ _ f1 f2 (fun _ _ x => x) f3
    · cases e
  · cases e
/-- everything that is added -/
def hAdd : List D → Option D
  | [.str a, .str b] => gAddS [.str a, .str b]
  | [.node p .lst xs, .node q .lst ys] => opCatL [.node p .lst xs, .node q .lst ys]
  | [.node p .tup xs, .node q .tup ys] => opCatT [.node p .tup xs, .node q .tup ys]
  | ds => on2I iAdd ds
theorem opd_hAdd : Opd X (binaryOp .Add) hAdd := by
  refine Opd.or (g1 := gAdd) (g2 := fun ds => match opCatL ds with | some d => some d | none => opCatT ds) opd_gAdd (Opd.or opd_catL opd_catT fun ds d h => ?_) fun ds d h => ?_
  · cases e : opCatL ds with
    | some d' => simp only [e] at h; exact .inl h
    | none => simp only [e] at h; exact .inr h
  · unfold hAdd at h
    split at h
    · exact .inl h
    · exact .inr (by simp only [h])
    · exact .inr (by
        rename_i p xs q ys
        have e : opCatL [D.node p .tup xs, .node q .tup ys] = none := rfl
        simp only [e]
        exact h)
    · refine .inl ?_
      unfold gAdd
      split
      · rename_i n1 _ _
        exact absurd rfl (n1 _ _)
      · exact h
/-! ### x in a list or a tuple of flat things -/
def flt : D → Option V
  | .non => some .non
  | .bl b => some (.bl b)
  | .int i => some (.int i)
  | .str x => some (.str x)
  | _ => none
def fltL : List D → Option (List V)
  | [] => some []
  | d :: ds => match flt d, fltL ds with
    | some v, some vs => some (v :: vs)
    | _, _ => none
theorem flt_ok {d : D} {v v' : V} (h : flt d = some v) (r : Rep K Z H d v' S) : v' = v ∧ flatV v = true := by
  cases d with
  | non => cases h; exact ⟨r, rfl⟩
  | bl b => cases h; exact ⟨r, rfl⟩
  | int i => cases h; exact ⟨r, rfl⟩
  | str x => cases h; exact ⟨r, rfl⟩
  | op u => cases h
  | node o k xs => cases h
theorem fltL_ok : ∀ {ds : List D} {vs vs' : List V} {S : Fp}, fltL ds = some vs → RepL K Z H ds vs' S → vs' = vs ∧ vs.all flatV = true
  | [], vs, [], _, h, _ => by cases h; exact ⟨rfl, rfl⟩
  | [], _, _ :: _, _, _, r => r.elim
  | _ :: _, _, [], _, _, r => r.elim
  | d :: ds, vs, v' :: vs', _, h, ⟨_, _, _, _, _, r, q⟩ => by
    unfold fltL at h
    split at h
    · rename_i v us h1 h2
      cases h
      obtain ⟨e1, f1⟩ := flt_ok h1 r
      obtain ⟨e2, f2⟩ := fltL_ok h2 q
      exact ⟨by rw [e1, e2], by rw [List.all_cons, f1, f2]; rfl⟩
    · cases h
def opInQ (neg : Bool) : List D → Option D
  | [x, .node _ .lst xs] => match flt x, fltL xs with
    | some v, some vs => some (.bl (if neg then !inV v vs else inV v vs))
    | _, _ => none
  | [x, .node _ .tup xs] => match flt x, fltL xs with
    | some v, some vs => some (.bl (if neg then !inV v vs else inV v vs))
    | _, _ => none
  | _ => none
theorem snd_inQ {neg : Bool} : Snd X (fun vs H Q => ∃ x y, vs = [x, y] ∧ rIn X.K neg x y H Q) (opInQ neg) := by
  refine snd_pure fun Z H S ds vs d Q w rb e k => ?_
  unfold opInQ at e
  split at e
  · split at e
    · rename_i v us h1 h2
      obtain ⟨v', u', rfl, rv, ru⟩ := rb2 rb
      obtain ⟨a, ys, rfl, c, rl⟩ := rep_lst w.same ru
      obtain ⟨e1, f1⟩ := flt_ok h1 rv
      obtain ⟨e2, f2⟩ := fltL_ok h2 rl
      subst e1
      subst e2
      cases e
      exact ⟨_, _, rfl, a, _, rfl, .inl (SqL.of c), f1, f2, k _ rfl⟩
    · cases e
  · split at e
    · rename_i v us h1 h2
      obtain ⟨v', u', rfl, rv, ru⟩ := rb2 rb
      obtain ⟨a, ys, rfl, c, rl⟩ := rep_tup w.same ru
      obtain ⟨e1, f1⟩ := flt_ok h1 rv
      obtain ⟨e2, f2⟩ := fltL_ok h2 rl
      subst e1
      subst e2
      cases e
      exact ⟨_, _, rfl, a, _, rfl, .inr c, f1, f2, k _ rfl⟩
    · cases e
  · cases e
def opIn : List D → Option D
  | [.str i, .str j] => opInS [.str i, .str j]
  | ds => opInQ false ds
def opNotIn : List D → Option D
  | [.str i, .str j] => opNotInS [.str i, .str j]
  | ds => opInQ true ds
theorem opd_in : Opd X (compareOp .In) opIn := Opd.or opd_inS ⟨_, op_in_seq, snd_inQ⟩ fun ds d h => by
  unfold opIn at h
  split at h
  · exact .inl h
  · exact .inr h
theorem opd_notIn : Opd X (compareOp .NotIn) opNotIn := Opd.or opd_notInS ⟨_, op_notIn_seq, snd_inQ⟩ fun ds d h => by
  unfold opNotIn at h
  split at h
  · exact .inl h
  · exact .inr h
end
end Pm
/-! PmZa: methods of texts. -/
namespace Pm
open PySem PySem.Spec PyProof.Rows L2
section
variable {K : PySem.W.Frag} {mg : Str → Option Value} {W : WX} {Z Z' H H' : Hp} {S S' : Fp} {σ : Sl} {X : Cx} {a b c e o : Expr} {pos : Pos} {fa fb fc : M EV}
/-- a method of a text without arguments, with one -/
def smet0 (g : List D → Option D) (f : M EV) : M EV := bnd f fun e1 => fun ρ => match peek1 ρ e1 with
  | some (.str a) => match g [.str a] with
    | some d => .ok (.val d) ρ
    | none => .stuck
  | _ => .stuck
def smet1 (g : List D → Option D) (f fe : M EV) : M EV := bnd f fun e1 => fun ρ => match peek1 ρ e1 with
  | some (.str a) => (bnd fe fun e2 => fun ρ' => match peek1 ρ' e2 with
    | some d => match g [.str a, d] with
      | some d' => .ok (.val d') ρ'
      | none => .stuck
    | none => .stuck) ρ
  | _ => .stuck
theorem str_of {ev : EV} {v : V} {x : Str} {ρ : Env} (h : peek1 ρ ev = some (.str x)) (r : EVR K Z H σ ev v S) (er : EnvR K Z' H' ρ σ S') : v = .str x := by
  cases ev with
  | val d =>
    have e : d = .str x := Option.some.inj h
    subst e
    exact r
  | ref j => exact peek1_rep (Z := Z') (H := H') (Sa := Fp0) (e := .ref j) er r h
theorem tE_smet0 {g : List D → Option D} {r : V → List V → Hp → VK → Prop} {Q : VK} (hs : Snd X (fun vs H Q => ∃ x, vs = [x] ∧ r x [] H Q) g) (h : tE X.K X.mg W (smet0 g fa) σ H Q) : tM0 r (tE X.K X.mg W fa) σ H Q := by
  obtain ⟨Z, ρ, S, w, er, o⟩ := h
  refine ⟨Z, ρ, S, w, er, ?_⟩
  simp only [smet0, bnd] at o
  cases e1 : fa ρ with
  | stuck => rw [e1] at o; exact o
  | exc x ρ1 => rw [e1] at o; exact o
  | ok ea ρ1 =>
    rw [e1] at o
    intro x Z1 H1 S1 Sa st1 dj1 er1 r1
    have t1 := st1.less (S2 := S1) fun a x => .inl x
    simp only at o
    have o1 := OutE.after (K := X.K) (mg := X.mg) (W := W) (σ := σ) (Q := Q) t1 o
    split at o1
    · rename_i z hz
      have ex := str_of hz r1 er1
      subst ex
      refine ⟨⟨z, rfl⟩, ?_⟩
      split at o1
      · rename_i d hd
        obtain ⟨x', hx, q⟩ := hs Z1 H1 S1 [.str z] [.str z] d Q t1.wd ⟨rfl, trivial⟩ hd fun v Z2 H2 Sd st2 sm dj2 rd => o1 v Z2 H2 S1 Sd st2 dj2 (er1.move st2.zz (fun a ob _ e => sm a ob e) fun _ x => x) rd
        cases hx
        exact q
      · exact o1.elim
    · exact o1.elim
theorem tE_smet1 {g : List D → Option D} {r : V → List V → Hp → VK → Prop} {Q : VK} (hs : Snd X (fun vs H Q => ∃ x y, vs = [x, y] ∧ r x [y] H Q) g) (h : tE X.K X.mg W (smet1 g fa fb) σ H Q) : tM1 r (tE X.K X.mg W fa) (tE X.K X.mg W fb) σ H Q := by
  obtain ⟨Z, ρ, S, w, er, o⟩ := h
  refine ⟨Z, ρ, S, w, er, ?_⟩
  simp only [smet1, bnd] at o
  cases e1 : fa ρ with
  | stuck => rw [e1] at o; exact o
  | exc x ρ1 => rw [e1] at o; exact o
  | ok ea ρ1 =>
    rw [e1] at o
    intro x Z1 H1 S1 Sa st1 dj1 er1 r1
    have t1 := st1.less (S2 := S1) fun a x => .inl x
    simp only at o
    have o1 := OutE.after (K := X.K) (mg := X.mg) (W := W) (σ := σ) (Q := Q) t1 o
    split at o1
    · rename_i z hz
      have ex := str_of hz r1 er1
      subst ex
      refine ⟨⟨z, rfl⟩, Z1, ρ1, S1, t1.wd, er1, ?_⟩
      cases e2 : fb ρ1 with
      | stuck => simp only [e2] at o1; exact o1
      | exc x ρ2 => simp only [e2] at o1; exact o1
      | ok eb ρ2 =>
        simp only [e2] at o1
        intro y Z2 H2 S2 Sb st2 dj2 er2 r2
        have o2 := OutE.after (K := X.K) (mg := X.mg) (W := W) (σ := σ) (Q := Q) st2 o1
        split at o2
        · rename_i d hd
          split at o2
          · rename_i d' hg
            obtain ⟨x', y', hx, q⟩ := hs Z2 H2 _ [.str z, d] [.str z, y] d' Q st2.wd ⟨rfl, peek1_rep er2 r2 hd, trivial⟩ hg fun v Z3 H3 Sd st3 sm dj3 rd =>
              o2 v Z3 H3 S2 Sd (st3.less fun a x => x.elim (fun y => .inl (.inl y)) .inr) (fun a x y => dj3 a (.inl x) y) (er2.move st3.zz (fun a ob _ e => sm a ob e) fun _ x => x) rd
            cases hx
            exact q
          · exact o2.elim
        · exact o2.elim
    · exact o1.elim
/-! #### join -/
def strsD : List D → Option (List Str)
  | [] => some []
  | .str x :: ds => (strsD ds).map (x :: ·)
  | _ => none
theorem strsD_map : ∀ xs : List Str, strsD (xs.map D.str) = some xs
  | [] => rfl
  | x :: xs => by rw [List.map_cons, strsD, strsD_map xs]; rfl
theorem strsD_inv : ∀ {ds : List D} {xs : List Str}, strsD ds = some xs → ds = xs.map D.str
  | [], xs, h => by
    simp only [strsD, Option.some.injEq] at h
    subst h
    rfl
  | d :: ds, xs, h => by
    cases d with
    | str x =>
      simp only [strsD, Option.map_eq_some_iff] at h
      obtain ⟨ys, h1, rfl⟩ := h
      rw [strsD_inv h1]
      rfl
    | _ => simp [strsD] at h
theorem reps_strs : ∀ {xs : List Str} {vs : List V} {S : Fp}, RepL K Z H (xs.map D.str) vs S → vs = xs.map V.str
  | [], [], _, _ => rfl
  | [], _ :: _, _, h => h.elim
  | _ :: _, [], _, h => h.elim
  | x :: xs, v :: vs, S, ⟨_, _, _, _, _, r, q⟩ => by
    have e : v = .str x := r
    rw [e, reps_strs q]
    rfl
def opJoin : List D → Option D
  | [.str a, .node _ .lst xs] => match strsD xs with
    | some ys => if (ys.map (·.length)).sum + ys.length * a.length ≤ cap then some (.str (Txt.join a ys)) else none
    | none => none
  | [.str a, .node _ .tup xs] => match strsD xs with
    | some ys => if (ys.map (·.length)).sum + ys.length * a.length ≤ cap then some (.str (Txt.join a ys)) else none
    | none => none
  | _ => none
def rJoin (K : PySem.W.Frag) : V → List V → Hp → VK → Prop := fun x xs H Q => ∃ a p, ∃ ys : List Str, x = .str a ∧ xs = [.ref p] ∧ (SqL K H p (ys.map V.str) ∨ SqT K H p (ys.map V.str)) ∧ (ys.map (·.length)).sum + ys.length * a.length ≤ 16777216 ∧ Q (.str (Txt.join a ys)) H
theorem snd_join : Snd X (fun vs H Q => ∃ x y, vs = [x, y] ∧ rJoin X.K x [y] H Q) opJoin := by
  refine snd_pure fun Z H S ds vs d Q w rb e k => ?_
  unfold opJoin at e
  split at e
  · split at e
    · rename_i ys hy
      split at e
      · rename_i hl
        obtain ⟨v, u, rfl, rv, ru⟩ := rb2 rb
        obtain ⟨p, zs, rfl, c, rl⟩ := rep_lst w.same ru
        rw [strsD_inv hy] at rl
        have ez := reps_strs rl
        subst ez
        cases e
        exact ⟨_, _, rfl, _, p, ys, rv, rfl, .inl (SqL.of c), Nat.le_trans hl (by decide), k _ rfl⟩
      · cases e
    · cases e
  · split at e
    · rename_i ys hy
      split at e
      · rename_i hl
        obtain ⟨v, u, rfl, rv, ru⟩ := rb2 rb
        obtain ⟨p, zs, rfl, c, rl⟩ := rep_tup w.same ru
        rw [strsD_inv hy] at rl
        have ez := reps_strs rl
        subst ez
        cases e
        exact ⟨_, _, rfl, _, p, ys, rv, rfl, .inr c, Nat.le_trans hl (by decide), k _ rfl⟩
      · cases e
    · cases e
  · cases e
theorem E_join {apos : Pos} (ho : PE X o (tE X.K X.mg W fa)) (he : PE X e (tE X.K X.mg W fb)) (hs : starEach [e] X.env = [(false, eval e X.env)] := by rfl) (hbase : attributeBase o "join" X.env (eval o X.env) = eval o X.env := by rfl) (hline : (apos.endLine == pos.line) = true := by rfl) :
    PE X (.Call (.Attribute o "join" apos) [e] [] pos) (tE X.K X.mg W (smet1 opJoin fa fb)) := PE.of (pe_join ho he hs hbase hline) fun _ _ _ q => tE_smet1 (r := rJoin X.K) snd_join q
/-! #### texts in, a thing of one piece out -/
def onSS (g : Str → Str → D) : List D → Option D
  | [.str a, .str b] => some (g a b)
  | _ => none
theorem snd_SS {r : V → List V → Hp → VK → Prop} {g : Str → Str → D} {hv : Str → Str → V} (hr : ∀ a b H Q, Q (hv a b) H → r (.str a) [.str b] H Q) (hg : ∀ a b Z H, Rep X.K Z H (g a b) (hv a b) Fp0) : Snd X (fun vs H Q => ∃ x y, vs = [x, y] ∧ r x [y] H Q) (onSS g) := by
  refine snd_pure fun Z H S ds vs d Q w rb e k => ?_
  unfold onSS at e
  split at e
  · rename_i a b
    obtain ⟨v, u, rfl, rv, ru⟩ := rb2 rb
    obtain rfl : v = .str a := rv
    obtain rfl : u = .str b := ru
    cases e
    exact ⟨_, _, rfl, hr _ _ _ _ (k _ (hg a b Z H))⟩
  · cases e
abbrev opCountS : List D → Option D := onSS fun a b => .int (Txt.count a b)
theorem snd_count : Snd X (fun vs H Q => ∃ x y, vs = [x, y] ∧ (fun (x : V) (xs : List V) (H : Hp) (Q : VK) => ∃ a b, x = .str a ∧ xs = [.str b] ∧ Q (.int (Txt.count a b)) H) x [y] H Q) opCountS :=
  snd_SS (r := fun (x : V) (xs : List V) (H : Hp) (Q : VK) => ∃ a b, x = .str a ∧ xs = [.str b] ∧ Q (.int (Txt.count a b)) H) (g := fun a b => .int (Txt.count a b)) (hv := fun a b => .int (Txt.count a b)) (fun a b H Q h => ⟨a, b, rfl, rfl, h⟩) fun _ _ _ _ => rfl
theorem E_count {apos : Pos} (ho : PE X o (tE X.K X.mg W fa)) (he : PE X e (tE X.K X.mg W fb)) (hs : starEach [e] X.env = [(false, eval e X.env)] := by rfl) (hbase : attributeBase o "count" X.env (eval o X.env) = eval o X.env := by rfl) (hline : (apos.endLine == pos.line) = true := by rfl) :
    PE X (.Call (.Attribute o "count" apos) [e] [] pos) (tE X.K X.mg W (smet1 opCountS fa fb)) :=
  PE.of (pe_m1 F.slot_str_count F.type_str_count mt_count ho he hs hbase hline) fun _ _ _ q => tE_smet1 (g := opCountS) snd_count q
end
end Pm
/-! PmZb: list.pop. -/
namespace Pm
open PySem PySem.Spec PyProof.Rows L2
section
variable {K : PySem.W.Frag} {mg : Str → Option Value} {W : WX} {Z Z' H H' : Hp} {S S' : Fp} {σ : Sl} {X : Cx} {a b c e o : Expr} {pos : Pos} {fa fb fc : M EV}
theorem RepL.erase : ∀ {ds : List D} {vs : List V} {S : Fp} {i : Nat} {d : D}, RepL K Z H ds vs S → ds[i]? = some d →
    ∃ v, ∃ S1 S2 : Fp, vs[i]? = some v ∧ (∀ a, S1 a → S a) ∧ (∀ a, S2 a → S a) ∧ (∀ a, S1 a → S2 a → False) ∧ Rep K Z H d v S1 ∧ RepL K Z H (ds.eraseIdx i) (vs.eraseIdx i) S2
  | [], _, _, _, _, _, e => by simp at e
  | _ :: _, [], _, _, _, h, _ => h.elim
  | d :: ds, v :: vs, S, 0, d', ⟨S1, S2, s1, s2, dj, r, q⟩, e => by
    simp only [List.getElem?_cons_zero, Option.some.injEq] at e
    subst e
    exact ⟨v, S1, S2, rfl, s1, s2, dj, r, q⟩
  | d :: ds, v :: vs, S, i + 1, d', ⟨S1, S2, s1, s2, dj, r, q⟩, e => by
    simp only [List.getElem?_cons_succ] at e
    obtain ⟨u, U1, U2, hu, u1, u2, uj, ru, rest⟩ := RepL.erase q e
    exact ⟨u, U1, fun a => S1 a ∨ U2 a, by simpa using hu, fun a x => s2 a (u1 a x), fun a x => x.elim (s1 a) fun y => s2 a (u2 a y), fun a x y => y.elim (fun z => dj a z (u1 a x)) (uj a x), ru, S1, U2, fun _ x => .inl x, fun _ x => .inr x, fun a x y => dj a x (u2 a y), r, rest⟩
theorem pop_item {i j : Nat} {xs : List D} {ρ : Env} {d : D} (w : Wd Z H S) (er : EnvR K Z H ρ σ S) (e : ρ.getD j none = some (.node true .lst xs)) (hi : xs[i]? = some d) :
    ∃ p ys y, ∃ S' T : Fp, σ[j]? = some (some (.ref p)) ∧ H p = some (.lst ys) ∧ ys.length = xs.length ∧ ys[i]? = some y ∧ (∀ a, S' a → S a) ∧ (∀ a, T a → S a) ∧ (∀ a, S' a → T a → False) ∧ S p ∧
      Rep K Z (upd H p (.lst (ys.eraseIdx i))) d y T ∧ EnvR K Z (upd H p (.lst (ys.eraseIdx i))) (ρ.set j (some (.node true .lst (xs.eraseIdx i)))) σ S' := by
  obtain ⟨u, U1, U2, hv, u1, u2, uj, ru, eu⟩ := er.take (getD_some e)
  obtain ⟨p, ys, U', rfl, c, sa, na, sub, rl⟩ := ru
  obtain ⟨hj, ej⟩ := List.getElem?_eq_some_iff.mp hv
  have es : σ.set j (some (.ref p)) = σ := by rw [← ej, List.set_getElem_self]
  have hl : j < ρ.length := by rw [er.length]; exact hj
  obtain ⟨y, T1, T2, hy, t1, t2, tj, ry, rest⟩ := rl.erase hi
  have keep : ∀ {B : Fp}, (∀ a, B a → a = p → False) → ∀ a o, B a → H a = some o → upd H p (.lst (ys.eraseIdx i)) a = some o := fun {B} n a o b q => by rw [upd_ne fun z => n a b z]; exact q
  have n1 : ∀ a, U' a → a = p → False := fun a x y => na (by rw [← y]; exact x)
  have rn : Rep K Z (upd H p (.lst (ys.eraseIdx i))) (.node true .lst (xs.eraseIdx i)) (.ref p) (fun a => a = p ∨ T2 a) := ⟨p, ys.eraseIdx i, T2, rfl, upd_same, .inl rfl, fun x => n1 p (t2 p x) rfl, fun _ x => .inr x, rest.move (Same.refl Z) (keep fun a x => n1 a (t2 a x)) fun _ x => x⟩
  have q := EnvR.put (S := fun a => (a = p ∨ T2 a) ∨ U2 a) (eu.move (Same.refl Z) (keep fun a x y => uj p sa (by rw [← y]; exact x)) fun _ x => x) hl rn (fun _ x => .inl x) (fun _ x => .inr x) fun a x y => by
    rcases x with x | x
    · exact uj p sa (by rw [← x]; exact y)
    · exact uj a (sub a (t2 a x)) y
  rw [es] at q
  refine ⟨p, ys, y, _, T1, hv, c, rl.length.symm, hy, fun a x => ?_, fun a x => u1 a (sub a (t1 a x)), fun a x t => ?_, u1 p sa, ry.move (Same.refl Z) (keep fun a x => n1 a (t1 a x)) fun _ x => x, q⟩
  · rcases x with (x | x) | x
    · rw [x]; exact u1 p sa
    · exact u1 a (sub a (t2 a x))
    · exact u2 a x
  · rcases x with (x | x) | x
    · exact n1 a (t1 a t) x
    · exact tj a t x
    · exact uj a (sub a (t1 a t)) x
/-- x.pop(), x.pop(i) of a slot's own list -/
def popd (j : Nat) : M EV := fun ρ => match ρ.getD j none with
  | some (.node true .lst xs) => match xs[xs.length - 1]? with
    | some d => .ok (.val d) (ρ.set j (some (.node true .lst (xs.eraseIdx (xs.length - 1)))))
    | none => .stuck
  | _ => .stuck
def popi (j : Nat) (fi : M EV) : M EV := fun ρ0 => match ρ0.getD j none with
  | some (.node true .lst _) => bnd fi (fun ei => fun ρ => match ρ.getD j none, peek1 ρ ei with
    | some (.node true .lst xs), some (.int k) => match ixN xs.length k with
      | some i => match xs[i]? with
        | some d => if xs.length ≤ cap then .ok (.val d) (ρ.set j (some (.node true .lst (xs.eraseIdx i)))) else .stuck
        | none => .stuck
      | none => .stuck
    | _, _ => .stuck) ρ0
  | _ => .stuck
theorem drop_erase {α : Type} (xs : List α) : xs.dropLast = xs.eraseIdx (xs.length - 1) := by
  rw [List.dropLast_eq_take, List.eraseIdx_eq_take_drop_succ]
  cases xs with
  | nil => rfl
  | cons x xs => simp
theorem tE_popd {j : Nat} {Q : VK} (h : tE K mg W (popd j) σ H Q) : tBM0 K "list" rPop (tVar j) σ H Q := by
  obtain ⟨Z, ρ, S, w, er, o⟩ := h
  simp only [popd] at o
  split at o
  · rename_i xs h0
    split at o
    · rename_i d hd
      obtain ⟨p, ys, y, S', T, hv, hp, hl, hy, m1, m2, dj, sp, rd, er'⟩ := pop_item w er h0 hd
      refine ⟨.ref p, hv, .inl ⟨rfl, ys, SqL.of hp⟩, p, ys, y, rfl, rfl, hp, by rw [hl]; exact hy, ?_⟩
      rw [drop_erase, hl]
      exact o y Z _ S' T ((Step.write w sp).less fun a x => x.elim (m1 a) (m2 a)) dj er' rd
    · exact o.elim
  · exact o.elim
theorem tE_popi {j : Nat} {Q : VK} (h : tE K mg W (popi j fa) σ H Q) : tBM K "list" rPopAt (tVar j) (tCons (tE K mg W fa) tNil) σ H Q := by
  obtain ⟨Z, ρ, S, w, er, o⟩ := h
  simp only [popi] at o
  split at o
  · rename_i xs0 h0
    obtain ⟨u, U1, U2, hv, u1, u2, uj, ru, eu⟩ := er.take (getD_some h0)
    obtain ⟨p0, ys0, U', rfl, c0, _⟩ := ru
    refine ⟨.ref p0, hv, .inl ⟨rfl, ys0, SqL.of c0⟩, Z, ρ, S, w, er, ?_⟩
    simp only [bnd] at o
    cases e1 : fa ρ with
    | stuck => rw [e1] at o; exact o
    | exc x ρ1 => rw [e1] at o; exact o
    | ok ev ρ1 =>
      simp only [e1] at o
      intro v Z1 H1 S1 Sa st1 dj1 er1 r1
      have t1 := st1.less (S2 := S1) fun a x => .inl x
      have o1 := OutE.after (K := K) (mg := mg) (W := W) (σ := σ) (Q := Q) t1 o
      split at o1
      · rename_i xs k hx hk
        have ev' := int_of hk r1 er1
        subst ev'
        split at o1
        · rename_i i hi
          split at o1
          · rename_i d hd
            split at o1
            · rename_i hz
              obtain ⟨p, ys, y, S', T, hv2, hp, hl, hy, m1, m2, dj, sp, rd, er'⟩ := pop_item t1.wd er1 hx hd
              rw [hv] at hv2
              cases hv2
              obtain ⟨q1, q2, q3, q4⟩ := ixN_seq hi
              have hz' : xs.length ≤ 1000000 := hz
              refine ⟨p0, ys, k, i, y, rfl, rfl, hp, by omega, by omega, by rw [hl]; exact q1, hy, ?_⟩
              exact o1 y Z1 _ S' T ((Step.write t1.wd sp).less fun a x => x.elim (m1 a) (m2 a)) dj er' rd
            · exact o1.elim
          · exact o1.elim
        · exact o1.elim
      · exact o1.elim
  · exact o.elim
theorem E_popd {j : Nat} {x : Str} {p2 apos cpos : Pos} (hj : X.N[j]? = some x := by rfl) (hv : Vis X.env.scope x := by first | exact Or.inl rfl | exact Or.inr (Or.inl rfl) | exact Or.inr (Or.inr rfl)) (hd : (x == ("__debug__" : Str)) = false := by decide) (hcd : (x == ("__classdict__" : Str)) = false := by decide)
    (hbase : attributeBase (.Name x p2) "pop" X.env (eval (.Name x p2) X.env) = eval (.Name x p2) X.env := by rfl) (hline : (apos.endLine == cpos.line) = true := by rfl) : PE X (.Call (.Attribute (.Name x p2) "pop" apos) [] [] cpos) (tE X.K X.mg W (popd j)) :=
  PE.of (pe_bm0 PySem.F.plainAttrs_list PySem.F.slot_list_pop PySem.F.type_list_pop mt_pop (pe_var hj hv hd hcd) hbase hline) fun _ _ _ q => tE_popd q
theorem E_popi {j : Nat} {x : Str} {p2 apos cpos : Pos} (he : PE X e (tE X.K X.mg W fa)) (hj : X.N[j]? = some x := by rfl) (hv : Vis X.env.scope x := by first | exact Or.inl rfl | exact Or.inr (Or.inl rfl) | exact Or.inr (Or.inr rfl)) (hd : (x == ("__debug__" : Str)) = false := by decide) (hcd : (x == ("__classdict__" : Str)) = false := by decide)
    (hbase : attributeBase (.Name x p2) "pop" X.env (eval (.Name x p2) X.env) = eval (.Name x p2) X.env := by rfl)
    (hfew : ((backTo cpos (starEach [e] X.env)).all (fun x => !x.1) && (backToKw cpos (keywordEach [] X.env)).all (fun x => x.1.isSome)
      && decide ([e].length + ([] : List Keyword).length + (if ([] : List Keyword).isEmpty then 0 else 1) < 30)) = true := by rfl)
    (hline : (apos.endLine == cpos.line) = true := by rfl) (hs : starEach [e] X.env = (false, eval e X.env) :: starEach [] X.env := by rfl) (hplain : (backTo cpos (starEach [] X.env)).any (·.1) = false := by rfl) :
    PE X (.Call (.Attribute (.Name x p2) "pop" apos) [e] [] cpos) (tE X.K X.mg W (popi j fa)) :=
  PE.of (pe_bm PySem.F.plainAttrs_list PySem.F.slot_list_pop PySem.F.type_list_pop mt_popAt (pe_var hj hv hd hcd) (pa_cons he pa_nil hs) hbase hfew hline hs hplain) fun _ _ _ q => tE_popi q
end
end Pm
/-! PmZc: sorted. -/
namespace Pm
open PySem PySem.Spec PyProof.Rows L2
section
variable {K : PySem.W.Frag} {mg : Str → Option Value} {W : WX} {Z Z' H H' : Hp} {S S' : Fp} {σ : Sl} {X : Cx} {a b c e o : Expr} {pos : Pos} {fa fb fc : M EV}
def sortI (ns : List Int) : List Int := ns.mergeSort fun i j => decide (i ≤ j)
theorem sortI_perm (ns : List Int) : (sortI ns).Perm ns := List.mergeSort_perm ns _
theorem sortI_pair (ns : List Int) : (sortI ns).Pairwise (· ≤ ·) := by
  have h := List.pairwise_mergeSort (le := fun (i j : Int) => decide (i ≤ j)) (fun a b c h1 h2 => by simp at *; omega) (fun a b => by simp; omega) ns
  exact h.imp fun h => of_decide_eq_true h
theorem sortI_of {ns ms : List Int} (h : ms.Perm ns) (h2 : ms.Pairwise (· ≤ ·)) : ms = sortI ns := List.Perm.eq_of_pairwise (le := (· ≤ ·)) (fun a b _ _ h1 h2 => by omega) h2 (sortI_pair ns) (h.trans (sortI_perm ns).symm)
def leS (x y : Str) : Bool := !decide (y.cps.toList < x.cps.toList)
theorem leS_trans (a b c : Str) (h1 : leS a b = true) (h2 : leS b c = true) : leS a c = true := by
  unfold leS at *
  simp only [Bool.not_eq_true', decide_eq_false_iff_not] at *
  exact List.not_lt.mpr (List.le_trans (List.not_lt.mp h1) (List.not_lt.mp h2))
theorem leS_total (a b : Str) : (leS a b || leS b a) = true := by
  unfold leS
  rcases List.le_total a.cps.toList b.cps.toList with h | h
  · have h' : ¬ b.cps.toList < a.cps.toList := List.not_lt.mpr h
    simp [h']
  · have h' : ¬ a.cps.toList < b.cps.toList := List.not_lt.mpr h
    simp [h']
theorem leS_anti (a b : Str) (h1 : leS a b = true) (h2 : leS b a = true) : a = b := by
  unfold leS at *
  simp only [Bool.not_eq_true', decide_eq_false_iff_not] at *
  have e := List.le_antisymm (List.not_lt.mp h1) (List.not_lt.mp h2)
  cases a
  cases b
  congr
  exact Array.toList_inj.mp e
def sortS (xs : List Str) : List Str := xs.mergeSort leS
theorem sortS_perm (xs : List Str) : (sortS xs).Perm xs := List.mergeSort_perm xs _
theorem sortS_pair (xs : List Str) : (sortS xs).Pairwise fun x y => leS x y = true := List.pairwise_mergeSort leS_trans leS_total xs
theorem rising_pair : ∀ (p : Str) (xs : List Str), risingS p xs = true → (p :: xs).Pairwise fun x y => leS x y = true
  | p, [], _ => List.pairwise_singleton _ _
  | p, x :: xs, h => by
    unfold risingS at h
    rw [Bool.and_eq_true] at h
    have ih := rising_pair x xs h.2
    have hp : leS p x = true := (PyProof.Rows.le_meets p x).trans h.1
    refine List.Pairwise.cons (fun y hy => ?_) ih
    rcases List.mem_cons.mp hy with rfl | hy
    · exact hp
    · exact leS_trans _ _ _ hp ((List.pairwise_cons.mp ih).1 y hy)
theorem sortS_of {xs ys : List Str} (h : ys.Perm xs) (h2 : sortedS ys = true) : ys = sortS xs := by
  refine List.Perm.eq_of_pairwise (le := fun x y => leS x y = true) (fun a b _ _ h1 h2 => leS_anti a b h1 h2) ?_ (sortS_pair xs) (h.trans (sortS_perm xs).symm)
  cases ys with
  | nil => exact List.Pairwise.nil
  | cons y ys => exact rising_pair y ys h2
def opSorted : List D → Option D
  | [.node _ .lst xs] => match intsD xs with
    | some ns => some (.lst true ((sortI ns).map D.int))
    | none => match strsD xs with
      | some ys => if ys.length < 64 then some (.lst true ((sortS ys).map D.str)) else none
      | none => none
  | _ => none
theorem reps_strsV : ∀ xs : List Str, RepL K Z H (xs.map D.str) (xs.map V.str) Fp0
  | [] => trivial
  | x :: xs => ⟨Fp0, Fp0, fun _ x => x, fun _ x => x, fun _ x _ => x, rfl, reps_strsV xs⟩
theorem reps_ints0 : ∀ ns : List Int, RepL K Z H (ns.map D.int) (ns.map V.int) Fp0
  | [] => trivial
  | x :: xs => ⟨Fp0, Fp0, fun _ x => x, fun _ x => x, fun _ x _ => x, rfl, reps_ints0 xs⟩
theorem snd_sorted : Snd X (fun vs H Q => rSortedI X.K vs H Q ∨ rSortedS X.K vs H Q) opSorted := by
  intro Z H S ds vs d Q w rb e k
  unfold opSorted at e
  split at e
  · split at e
    · rename_i ns hn
      obtain ⟨v, rfl, rv⟩ := rb1 rb
      obtain ⟨a, ys, rfl, c, rl⟩ := rep_lst w.same rv
      rw [intsD_inv hn] at rl
      have ey := reps_intsV rl
      subst ey
      cases e
      refine .inl ⟨a, ns, rfl, SqL.of c, fun ms p h1 h2 np => ?_⟩
      rw [sortI_of h1 h2]
      obtain ⟨f1, f2, f3, f4⟩ := fresh_lst w np (reps_ints0 (K := X.K) (Z := Z) (H := H) (sortI ns))
      exact k _ _ _ _ f1 f2 f3 f4
    · split at e
      · rename_i ys hy
        split at e
        · rename_i hl
          obtain ⟨v, rfl, rv⟩ := rb1 rb
          obtain ⟨a, zs, rfl, c, rl⟩ := rep_lst w.same rv
          rw [strsD_inv hy] at rl
          have ez := reps_strs rl
          subst ez
          cases e
          refine .inr ⟨a, ys, rfl, SqL.of c, hl, fun ms p h1 h2 np => ?_⟩
          rw [sortS_of h1 h2]
          obtain ⟨f1, f2, f3, f4⟩ := fresh_lst w np (reps_strsV (K := X.K) (Z := Z) (H := H) (sortS ys))
          exact k _ _ _ _ f1 f2 f3 f4
        · cases e
      · cases e
  · cases e
theorem call_sortedA : CallR X (.builtin "sorted") (fun vs H Q => rSortedI X.K vs H Q ∨ rSortedS X.K vs H Q) := CallR.or cr_sortedI cr_sortedS
end
end Pm
/-! PmZd: enumerate. -/
namespace Pm
open PySem PySem.Spec PyProof.Rows L2
section
variable {K : PySem.W.Frag} {mg : Str → Option Value} {W : WX} {Z Z' H H' : Hp} {S S' : Fp} {σ : Sl} {X : Cx} {a b c e o : Expr} {pos : Pos} {fa fb fc : M EV}
def enumD : Nat → List D → List D
  | _, [] => []
  | i, d :: ds => .tup [.int (i : Int), d] :: enumD (i + 1) ds
theorem enumD_length : ∀ (ds : List D) (i : Nat), (enumD i ds).length = ds.length
  | [], _ => rfl
  | d :: ds, i => by rw [enumD, List.length_cons, List.length_cons, enumD_length ds]
theorem enumD_get : ∀ (ds : List D) (k i : Nat) (d' : D), (enumD k ds)[i]? = some d' → ∃ d, ds[i]? = some d ∧ d' = .tup [.int ((k + i : Nat) : Int), d]
  | [], _, _, _, h => by simp [enumD] at h
  | d :: ds, k, 0, d', h => by
    simp only [enumD, List.getElem?_cons_zero, Option.some.injEq] at h
    exact ⟨d, rfl, h.symm⟩
  | d :: ds, k, i + 1, d', h => by
    simp only [enumD, List.getElem?_cons_succ] at h
    obtain ⟨e, h1, h2⟩ := enumD_get ds (k + 1) i d' h
    exact ⟨e, by simpa using h1, by rw [h2, show k + 1 + i = k + (i + 1) by omega]⟩
theorem walk_enum {p : Addr} {ds : List D} (h : WalkR K (Itl K p) Z ds) : WalkR K (Ite K p) Z (enumD 0 ds) := by
  intro Z' H' z1 z2
  obtain ⟨h1, h2⟩ := h Z' H' z1 z2
  refine ⟨fun i hi => h1 i (by rw [enumD_length] at hi; exact hi), fun i d hd => ?_⟩
  obtain ⟨d0, hd0, rfl⟩ := enumD_get ds 0 i d hd
  obtain ⟨g, y⟩ := h2 i d0 hd0
  refine ⟨g, fun x H'' S' w hx => ?_⟩
  obtain ⟨T, u, rfl, nT, rfl, fu⟩ := hx
  obtain ⟨Z2, st, sm, ru⟩ := y u H' S' w ⟨rfl, fu⟩
  have st2 := Step.allocZ (o := .tup [.int ((i : Nat) : Int), u]) st.wd nT
  refine ⟨_, st.trans st2, fun a o e => by rw [upd_ne (ne_of_none e nT)]; exact e, T, [.int ((i : Nat) : Int), u], rfl, SqT.of upd_same, Fp0, Fp0, fun _ x => x, fun _ x => x, fun _ x _ => x, by rw [Nat.zero_add]; rfl, Fp0, Fp0, fun _ x => x, fun _ x => x, fun _ x _ => x, ?_, trivial⟩
  exact ru.move st2.zz (fun _ _ x => x.elim) fun _ x => x
def srcEnum (f : M EV) : M (List D) := bnd (srcSeq f .lst) fun ds => ret (enumD 0 ds)
theorem tI_enum {R : It → Hp → Prop} (h : tI K mg W (srcEnum fa) σ H R) : tI K mg W (srcSeq fa .lst) σ H fun J H1 => ∃ Z1 ds, WalkR K J Z1 ds ∧ ∀ J2, WalkR K J2 Z1 (enumD 0 ds) → R J2 H1 := by
  obtain ⟨Z, ρ, S, w, er, o⟩ := h
  refine ⟨Z, ρ, S, w, er, ?_⟩
  simp only [srcEnum, bnd] at o
  cases e1 : srcSeq fa .lst ρ with
  | stuck => rw [e1] at o; exact o
  | exc x ρ1 => rw [e1] at o; exact o
  | ok ds ρ1 =>
    simp only [e1, ret] at o
    exact fun J Z1 H1 S1 st er1 wk => ⟨Z1, ds, wk, fun J2 w2 => o J2 Z1 H1 S1 st er1 w2⟩
theorem I_enum {p tpos : Pos} {elts : List Expr} {kk : Nat} (hm : X.mg "enumerate" = none) (h : PE X e (tE X.K X.mg W fa)) (hg : Gl X "enumerate" := by rfl) (hs : starEach [e] X.env = [(false, eval e X.env)] := by rfl) :
    PI X (.Tuple elts kk tpos) (.Call (.Name "enumerate" p) [e] [] pos) (tI X.K X.mg W (srcEnum fa)) :=
  PI.of (pi_enum hg hm (pa_cons h pa_nil hs) hs) fun σ H R q => by
    have q1 := srcSeq_of (tI_enum q) (.inl rfl)
    refine tE_mono (fun x H1 q2 => ?_) q1
    obtain ⟨a, rfl, Z', ys, ds, sm, c, rl, k⟩ := q2
    obtain ⟨Z1, ds1, wk, f⟩ := k _ (walk_lst' (SqL.of c) rl)
    exact ⟨a, ys, rfl, Sam.seq sm (SqL.of c), f _ (walk_enum wk)⟩
end
end Pm
/-! PmZe: zip of two lists, of two tuples. -/
namespace Pm
open PySem PySem.Spec PyProof.Rows L2
section
variable {K : PySem.W.Frag} {mg : Str → Option Value} {W : WX} {Z Z' H H' : Hp} {S S' : Fp} {σ : Sl} {X : Cx} {a b c e e2 o : Expr} {pos : Pos} {fa fb fc : M EV}
def zipD : List D → List D → List D
  | d :: ds, e :: es => .tup [d, e] :: zipD ds es
  | _, _ => []
theorem zipD_length : ∀ ds es : List D, (zipD ds es).length = min ds.length es.length
  | [], es => by simp [zipD]
  | d :: ds, [] => by simp [zipD]
  | d :: ds, e :: es => by rw [zipD, List.length_cons, zipD_length ds es, List.length_cons, List.length_cons]; omega
theorem zipD_get : ∀ (ds es : List D) (i : Nat) (x : D), (zipD ds es)[i]? = some x → ∃ d e, ds[i]? = some d ∧ es[i]? = some e ∧ x = .tup [d, e]
  | [], _, _, _, h => by simp [zipD] at h
  | _ :: _, [], _, _, h => by simp [zipD] at h
  | d :: ds, e :: es, 0, x, h => by
    simp only [zipD, List.getElem?_cons_zero, Option.some.injEq] at h
    exact ⟨d, e, rfl, rfl, h.symm⟩
  | d :: ds, e :: es, i + 1, x, h => by
    simp only [zipD, List.getElem?_cons_succ] at h
    obtain ⟨d', e', h1, h2, h3⟩ := zipD_get ds es i x h
    exact ⟨d', e', by simpa using h1, by simpa using h2, h3⟩
theorem WalkR.more {J : It} {ds : List D} (h : WalkR K J Z ds) (s : Same Z Z') : WalkR K J Z' ds := fun Z1 H1 z1 z2 => h Z1 H1 (s.trans z1) z2
def srcZip (k : Kd) (f g : M EV) : M (List D) := bnd (srcSeq f k) fun ds => bnd (srcSeq g k) fun es => ret (zipD ds es)
theorem tI_zip {k : Kd} {R : It → Hp → Prop} (h : tI K mg W (srcZip k fa fb) σ H R) : tI K mg W (srcSeq fa k) σ H fun J H1 => ∃ ds, tI K mg W (srcSeq fb k) σ H1 fun J2 H2 => ∃ Z2 es, Sam Z2 H2 ∧ WalkR K J Z2 ds ∧ WalkR K J2 Z2 es ∧ ∀ J3, WalkR K J3 Z2 (zipD ds es) → R J3 H2 := by
  obtain ⟨Z, ρ, S, w, er, o⟩ := h
  refine ⟨Z, ρ, S, w, er, ?_⟩
  simp only [srcZip, bnd] at o
  cases e1 : srcSeq fa k ρ with
  | stuck => rw [e1] at o; exact o
  | exc x ρ1 => rw [e1] at o; exact o
  | ok ds ρ1 =>
    simp only [e1] at o
    intro J Z1 H1 S1 st1 er1 wk
    refine ⟨ds, Z1, ρ1, S1, st1.wd, er1, ?_⟩
    cases e2 : srcSeq fb k ρ1 with
    | stuck => simp only [e2] at o; exact o
    | exc x ρ2 => simp only [e2] at o; exact o.after st1
    | ok es ρ2 =>
      simp only [e2, ret] at o
      exact fun J2 Z2 H2 S2 st2 er2 wk2 => ⟨Z2, es, st2.wd.same, wk.more st2.zz, wk2, fun J3 w3 => o J3 Z2 H2 S2 (st1.trans st2) er2 w3⟩
theorem walk_zipL {p q : Addr} {ds es : List D} (h : WalkR K (Itl K p) Z ds) (h' : WalkR K (Itl K q) Z es) : WalkR K (Itz K p q) Z (zipD ds es) := by
  intro Z' H' z1 z2
  obtain ⟨h1, h2⟩ := h Z' H' z1 z2
  obtain ⟨h3, h4⟩ := h' Z' H' z1 z2
  refine ⟨fun i hi => ?_, fun i d hd => ?_⟩
  · obtain ⟨xs, c1, l1⟩ := h1 (max i ds.length) (by omega)
    obtain ⟨ys, c2, l2⟩ := h3 (max i es.length) (by omega)
    rw [zipD_length] at hi
    by_cases hc : ds.length ≤ i
    · obtain ⟨xs, c1, l1⟩ := h1 i hc
      exact ⟨xs, ys, c1, c2, .inl l1⟩
    · obtain ⟨ys, c2, l2⟩ := h3 i (by omega)
      exact ⟨xs, ys, c1, c2, .inr l2⟩
  · obtain ⟨d1, e1, hd1, he1, rfl⟩ := zipD_get ds es i d hd
    obtain ⟨⟨xs, x, c1, g1⟩, y1⟩ := h2 i d1 hd1
    obtain ⟨⟨ys, y, c2, g2⟩, y2⟩ := h4 i e1 he1
    refine ⟨⟨xs, ys, x, y, c1, c2, g1, g2⟩, fun v H'' S' w hx => ?_⟩
    obtain ⟨T, u, v', rfl, nT, rfl, f1, f2⟩ := hx
    obtain ⟨Z2, st, sm, ru⟩ := y1 u H' S' w ⟨rfl, f1⟩
    obtain ⟨_, y2'⟩ := (h'.more (z1.trans st.zz)) Z2 H' (Same.refl Z2) st.wd.same
    obtain ⟨Z3, st', sm', rv⟩ := (y2' i e1 he1).2 v' H' S' st.wd ⟨rfl, f2⟩
    have st2 := Step.allocZ (o := .tup [u, v']) st'.wd nT
    refine ⟨_, (st.trans st').trans st2, fun a o e => by rw [upd_ne (ne_of_none e nT)]; exact e, T, [u, v'], rfl, SqT.of upd_same, Fp0, Fp0, fun _ x => x, fun _ x => x, fun _ x _ => x, ru.move (st'.zz.trans st2.zz) (fun _ _ x => x.elim) fun _ x => x, Fp0, Fp0, fun _ x => x, fun _ x => x, fun _ x _ => x, ?_, trivial⟩
    exact rv.move st2.zz (fun _ _ x => x.elim) fun _ x => x
theorem I_zipL {p tpos : Pos} {elts : List Expr} {kk : Nat} (hm : X.mg "zip" = none) (h : PE X e (tE X.K X.mg W fa)) (h2 : PE X e2 (tE X.K X.mg W fb)) (hg : Gl X "zip" := by rfl) (hs : starEach [e, e2] X.env = (false, eval e X.env) :: starEach [e2] X.env := by rfl) (hs2 : starEach [e2] X.env = (false, eval e2 X.env) :: starEach [] X.env := by rfl) (hpl : (backTo pos (starEach [e2] X.env)).any (·.1) = false := by rfl) :
    PI X (.Tuple elts kk tpos) (.Call (.Name "zip" p) [e, e2] [] pos) (tI X.K X.mg W (srcZip .lst fa fb)) :=
  PI.of (RZ.pi_zipA hg hm (pa_cons h (pa_cons h2 pa_nil hs2) hs) hs hpl) fun σ H R q => by
    have q1 := srcSeq_of (tI_zip q) (.inl rfl)
    refine tE_mono (fun x H1 q2 => ?_) q1
    obtain ⟨p1, rfl, Z1, ys1, ds1, sm1, c, rl, k1⟩ := q2
    obtain ⟨ds, q3⟩ := k1 _ (walk_lst' (SqL.of c) rl)
    refine tE_mono (fun y H2 q4 => ?_) (srcSeq_of q3 (.inl rfl))
    obtain ⟨p2, rfl, Z2, ys2, es2, sm2, c, rl, k2⟩ := q4
    obtain ⟨Z3, es, sm3, wk1, wk2, f⟩ := k2 _ (walk_lst' (SqL.of c) rl)
    obtain ⟨xs, cx, _⟩ := (wk1 Z3 H2 (Same.refl Z3) sm3).1 ds.length (Nat.le_refl _)
    obtain ⟨zs, cz, _⟩ := (wk2 Z3 H2 (Same.refl Z3) sm3).1 es.length (Nat.le_refl _)
    exact ⟨p1, p2, xs, zs, rfl, .inl ⟨cx, cz, f _ (walk_zipL wk1 wk2)⟩⟩
theorem walk_zipT {p q : Addr} {ds es : List D} (h : WalkR K (Itt K p) Z ds) (h' : WalkR K (Itt K q) Z es) : WalkR K (RZ.ItzT K p q) Z (zipD ds es) := by
  intro Z' H' z1 z2
  obtain ⟨h1, h2⟩ := h Z' H' z1 z2
  obtain ⟨h3, h4⟩ := h' Z' H' z1 z2
  refine ⟨fun i hi => ?_, fun i d hd => ?_⟩
  · obtain ⟨xs, c1, l1⟩ := h1 (max i ds.length) (by omega)
    obtain ⟨ys, c2, l2⟩ := h3 (max i es.length) (by omega)
    rw [zipD_length] at hi
    by_cases hc : ds.length ≤ i
    · obtain ⟨xs, c1, l1⟩ := h1 i hc
      exact ⟨xs, ys, c1, c2, .inl l1⟩
    · obtain ⟨ys, c2, l2⟩ := h3 i (by omega)
      exact ⟨xs, ys, c1, c2, .inr l2⟩
  · obtain ⟨d1, e1, hd1, he1, rfl⟩ := zipD_get ds es i d hd
    obtain ⟨⟨xs, x, c1, g1⟩, y1⟩ := h2 i d1 hd1
    obtain ⟨⟨ys, y, c2, g2⟩, y2⟩ := h4 i e1 he1
    refine ⟨⟨xs, ys, x, y, c1, c2, g1, g2⟩, fun v H'' S' w hx => ?_⟩
    obtain ⟨T, u, v', rfl, nT, rfl, f1, f2⟩ := hx
    obtain ⟨Z2, st, sm, ru⟩ := y1 u H' S' w ⟨rfl, f1⟩
    obtain ⟨_, y2'⟩ := (h'.more (z1.trans st.zz)) Z2 H' (Same.refl Z2) st.wd.same
    obtain ⟨Z3, st', sm', rv⟩ := (y2' i e1 he1).2 v' H' S' st.wd ⟨rfl, f2⟩
    have st2 := Step.allocZ (o := .tup [u, v']) st'.wd nT
    refine ⟨_, (st.trans st').trans st2, fun a o e => by rw [upd_ne (ne_of_none e nT)]; exact e, T, [u, v'], rfl, SqT.of upd_same, Fp0, Fp0, fun _ x => x, fun _ x => x, fun _ x _ => x, ru.move (st'.zz.trans st2.zz) (fun _ _ x => x.elim) fun _ x => x, Fp0, Fp0, fun _ x => x, fun _ x => x, fun _ x _ => x, ?_, trivial⟩
    exact rv.move st2.zz (fun _ _ x => x.elim) fun _ x => x
theorem I_zipT {p tpos : Pos} {elts : List Expr} {kk : Nat} (hm : X.mg "zip" = none) (h : PE X e (tE X.K X.mg W fa)) (h2 : PE X e2 (tE X.K X.mg W fb)) (hg : Gl X "zip" := by rfl) (hs : starEach [e, e2] X.env = (false, eval e X.env) :: starEach [e2] X.env := by rfl) (hs2 : starEach [e2] X.env = (false, eval e2 X.env) :: starEach [] X.env := by rfl) (hpl : (backTo pos (starEach [e2] X.env)).any (·.1) = false := by rfl) :
    PI X (.Tuple elts kk tpos) (.Call (.Name "zip" p) [e, e2] [] pos) (tI X.K X.mg W (srcZip .tup fa fb)) :=
  PI.of (RZ.pi_zipA hg hm (pa_cons h (pa_cons h2 pa_nil hs2) hs) hs hpl) fun σ H R q => by
    have q1 := srcSeq_of (tI_zip q) (.inr rfl)
    refine tE_mono (fun x H1 q2 => ?_) q1
    obtain ⟨p1, rfl, Z1, ys1, ds1, sm1, c, rl, k1⟩ := q2
    obtain ⟨ds, q3⟩ := k1 _ (walk_tup c rl)
    refine tE_mono (fun y H2 q4 => ?_) (srcSeq_of q3 (.inr rfl))
    obtain ⟨p2, rfl, Z2, ys2, es2, sm2, c, rl, k2⟩ := q4
    obtain ⟨Z3, es, sm3, wk1, wk2, f⟩ := k2 _ (walk_tup c rl)
    obtain ⟨xs, cx, _⟩ := (wk1 Z3 H2 (Same.refl Z3) sm3).1 ds.length (Nat.le_refl _)
    obtain ⟨zs, cz, _⟩ := (wk2 Z3 H2 (Same.refl Z3) sm3).1 es.length (Nat.le_refl _)
    exact ⟨p1, p2, xs, zs, rfl, .inr ⟨cx, cz, f _ (walk_zipT wk1 wk2)⟩⟩
end
end Pm
/-! PmZf: several targets, defs that call themselves. -/
namespace Pm
open PySem PySem.Spec PyProof.Rows L2
section
variable {K : PySem.W.Frag} {mg : Str → Option Value} {W : WX} {Z Z' H H' : Hp} {S S' : Fp} {σ : Sl} {X : Cx} {A : Nat → Bool} {a b c e e2 o : Expr} {pos : Pos} {fa fb fc : M EV} {f : M EV} {g1 g2 g3 : Tg}
/-- the same plain thing to two, to three targets -/
def asg2 (f : M EV) (g1 g2 : Tg) : M Fl := bnd f fun e => bnd (use1 e) fun d => fun ρ => if d.plain = true then (match g1 d ρ with
  | .ok _ ρ1 => match g2 d ρ1 with
    | .ok _ ρ2 => .ok .nx ρ2
    | _ => .stuck
  | _ => .stuck) else .stuck
def asg3 (f : M EV) (g1 g2 g3 : Tg) : M Fl := bnd f fun e => bnd (use1 e) fun d => fun ρ => if d.plain = true then (match g1 d ρ with
  | .ok _ ρ1 => match g2 d ρ1 with
    | .ok _ ρ2 => match g3 d ρ2 with
      | .ok _ ρ3 => .ok .nx ρ3
      | _ => .stuck
    | _ => .stuck
  | _ => .stuck) else .stuck
theorem tS_asg2 {D : Ends} (h : tS K mg W A (asg2 f g1 g2) D σ H) : tAsg2 (tE K mg W f) (tG K A g1) (tG K A g2) D σ H := by
  obtain ⟨Z, ρ, S, w, er, o⟩ := h
  refine keep_of w er o fun v d ρ1 Z1 H1 S1 Sd st dj er1 r1 o1 => ?_
  by_cases hp : d.plain = true
  · simp only [if_pos hp] at o1
    refine ⟨Z1, ρ1, S1, Sd, d, st.wd, dj, er1, r1, ?_⟩
    cases e1 : g1 d ρ1 with
    | stuck => simp only [e1] at o1; exact o1
    | exc x ρ2 => simp only [e1] at o1; exact o1.elim
    | ok u ρ2 =>
      simp only [e1] at o1
      intro σ2 Z2 H2 S2 kp2 st2 er2
      refine ⟨Z2, ρ2, S2, Fp0, d, st2.wd.less fun a x => x.elim id False.elim, fun _ _ x => x, er2, (Rep.plain (H' := H2) r1 hp).move st2.zz (fun _ _ x => x.elim) fun _ x => x, ?_⟩
      cases e2 : g2 d ρ2 with
      | stuck => simp only [e2] at o1; exact o1
      | exc x ρ3 => simp only [e2] at o1; exact o1.elim
      | ok u ρ3 =>
        simp only [e2] at o1
        intro σ3 Z3 H3 S3 kp3 st3 er3
        have st3' : Step Z2 H2 S2 Z3 H3 S3 := ⟨st3.wd, st3.zz, fun a o n e => st3.fr a o (fun x => x.elim n False.elim) e, fun a x => (st3.new a x).elim (fun y => y.elim .inl False.elim) .inr, fun a o e => (st3.znew a o e).elim .inl fun y => y.elim (fun z => z.elim (fun q => .inr (.inl q)) False.elim) fun q => .inr (.inr q)⟩
        exact o1 σ3 .non Z3 H3 S3 Fp0 (kp2.trans kp3) ((st.trans (st2.trans st3')).less fun a x => x.elim id False.elim) (fun _ _ x => x) er3 trivial
  · simp only [if_neg hp] at o1
    exact o1.elim
theorem tS_asg3 {D : Ends} (h : tS K mg W A (asg3 f g1 g2 g3) D σ H) : tAsg3 (tE K mg W f) (tG K A g1) (tG K A g2) (tG K A g3) D σ H := by
  obtain ⟨Z, ρ, S, w, er, o⟩ := h
  refine keep_of w er o fun v d ρ1 Z1 H1 S1 Sd st dj er1 r1 o1 => ?_
  by_cases hp : d.plain = true
  · simp only [if_pos hp] at o1
    refine ⟨Z1, ρ1, S1, Sd, d, st.wd, dj, er1, r1, ?_⟩
    have nar : ∀ {Z2 H2 Z3 H3 : Hp} {S2 S3 : Fp}, Step Z2 H2 (fun a => S2 a ∨ Fp0 a) Z3 H3 S3 → Step Z2 H2 S2 Z3 H3 S3 := fun st3 => ⟨st3.wd, st3.zz, fun a o n e => st3.fr a o (fun x => x.elim n False.elim) e, fun a x => (st3.new a x).elim (fun y => y.elim .inl False.elim) .inr, fun a o e => (st3.znew a o e).elim .inl fun y => y.elim (fun z => z.elim (fun q => .inr (.inl q)) False.elim) fun q => .inr (.inr q)⟩
    cases e1 : g1 d ρ1 with
    | stuck => simp only [e1] at o1; exact o1
    | exc x ρ2 => simp only [e1] at o1; exact o1.elim
    | ok u ρ2 =>
      simp only [e1] at o1
      intro σ2 Z2 H2 S2 kp2 st2 er2
      have r2 : Rep K Z2 H2 d v Fp0 := (Rep.plain (H' := H2) r1 hp).move st2.zz (fun _ _ x => x.elim) fun _ x => x
      refine ⟨Z2, ρ2, S2, Fp0, d, st2.wd.less fun a x => x.elim id False.elim, fun _ _ x => x, er2, r2, ?_⟩
      cases e2 : g2 d ρ2 with
      | stuck => simp only [e2] at o1; exact o1
      | exc x ρ3 => simp only [e2] at o1; exact o1.elim
      | ok u ρ3 =>
        simp only [e2] at o1
        intro σ3 Z3 H3 S3 kp3 st3 er3
        refine ⟨Z3, ρ3, S3, Fp0, d, st3.wd.less fun a x => x.elim id False.elim, fun _ _ x => x, er3, (Rep.plain (H' := H3) r2 hp).move st3.zz (fun _ _ x => x.elim) fun _ x => x, ?_⟩
        cases e3 : g3 d ρ3 with
        | stuck => simp only [e3] at o1; exact o1
        | exc x ρ4 => simp only [e3] at o1; exact o1.elim
        | ok u ρ4 =>
          simp only [e3] at o1
          intro σ4 Z4 H4 S4 kp4 st4 er4
          exact o1 σ4 .non Z4 H4 S4 Fp0 ((kp2.trans kp3).trans kp4) ((st.trans (st2.trans ((nar st3).trans (nar st4)))).less fun a x => x.elim id False.elim) (fun _ _ x => x) er4 trivial
  · simp only [if_neg hp] at o1
    exact o1.elim
theorem S_as2 {t1 t2 : Expr} (he : PE X e (tE X.K X.mg W f)) (h1 : PG X t1 (tG X.K A g1)) (h2 : PG X t2 (tG X.K A g2)) (ha : (assignEach [t1, t2] X.env).map (·.2) = [assign t1 X.env, assign t2 X.env] := by rfl) (hw : swappedStores [t1, t2] e X.env = pure none := by rfl) :
    PS X (.Assign [t1, t2] e pos) (tS X.K X.mg W A (asg2 f g1 g2)) := PS.of (ps_asg2 he h1 h2 ha hw) fun _ _ _ q => tS_asg2 q
theorem S_as3 {t1 t2 t3 : Expr} (he : PE X e (tE X.K X.mg W f)) (h1 : PG X t1 (tG X.K A g1)) (h2 : PG X t2 (tG X.K A g2)) (h3 : PG X t3 (tG X.K A g3)) (ha : (assignEach [t1, t2, t3] X.env).map (·.2) = [assign t1 X.env, assign t2 X.env, assign t3 X.env] := by rfl) (hw : swappedStores [t1, t2, t3] e X.env = pure none := by rfl) :
    PS X (.Assign [t1, t2, t3] e pos) (tS X.K X.mg W A (asg3 f g1 g2 g3)) := PS.of (ps_asg3 he h1 h2 h3 ha hw) fun _ _ _ q => tS_asg3 q
end
section
variable {P : Program} {w : World} {K : PySem.W.Frag} {mg : Str → Option Value} {base : Heap}
/-- of a def of which nothing is known nothing is told -/
theorem fnG_stuck {k : Nat} {f : Addr} {fd : FuncData} {ps : List Str} : FnG P w K mg base k f fd ps (fun _ => .stuck) :=
  ⟨fun _ h => absurd rfl h, fun _ _ _ _ _ _ _ _ _ _ _ _ _ _ h => by
    obtain ⟨_, _, _, _, _, _, o⟩ := h
    exact o.elim⟩
end
end Pm
/-! PmZg: str() of whole numbers. -/
namespace Pm
open PySem PySem.Spec PyProof.Rows L2
section
variable {K : PySem.W.Frag} {mg : Str → Option Value} {W : WX} {Z H : Hp} {S : Fp} {σ : Sl} {X : Cx}
def opStrI : List D → Option D
  | [.int i] => if i.natAbs.log2 < 1920 then some (.str (toString i)) else none
  | _ => none
theorem snd_strI : Snd X (fun xs H Q => ∃ i : Int, xs = [.int i] ∧ i.natAbs.log2 < 1920 ∧ Q (.str (toString i)) H) opStrI := by
  refine snd_pure fun Z H S ds vs d Q w rb e k => ?_
  unfold opStrI at e
  split at e
  · split at e
    · rename_i i c
      obtain ⟨v, rfl, rv⟩ := rb1 rb
      obtain rfl : v = .int i := rv
      cases e
      exact ⟨i, rfl, c, k _ rfl⟩
    · cases e
  · cases e
end
end Pm
/-! PmZh: list.extend. -/
namespace Pm
open PySem PySem.Spec PyProof.Rows L2
section
variable {K : PySem.W.Frag} {mg : Str → Option Value} {W : WX} {Z H : Hp} {S : Fp} {σ : Sl} {X : Cx} {e : Expr} {fa fe : M EV}
theorem push_items {j : Nat} {xs : List D} {ρ : Env} {ds : List D} {vs : List V} (w : Wd Z H S) (er : EnvR K Z H ρ σ S) (e : ρ.getD j none = some (.node true .lst xs)) (rv : RepL K Z H ds vs Fp0) :
    ∃ p ys, σ[j]? = some (some (.ref p)) ∧ H p = some (.lst ys) ∧ ys.length = xs.length ∧ ∃ S', (∀ a, S' a → S a) ∧ S p ∧ EnvR K Z (upd H p (.lst (ys ++ vs))) (ρ.set j (some (.node true .lst (xs ++ ds)))) σ S' := by
  obtain ⟨u, U1, U2, hv, u1, u2, uj, ru, eu⟩ := er.take (getD_some e)
  obtain ⟨p, ys, U', rfl, c, sa, na, sub, rl⟩ := ru
  obtain ⟨hj, ej⟩ := List.getElem?_eq_some_iff.mp hv
  have es : σ.set j (some (.ref p)) = σ := by rw [← ej, List.set_getElem_self]
  have hl : j < ρ.length := by rw [er.length]; exact hj
  have keep : ∀ {B : Fp}, (∀ a, B a → a = p → False) → ∀ a o, B a → H a = some o → upd H p (.lst (ys ++ vs)) a = some o := fun {B} n a o b q => by rw [upd_ne fun z => n a b z]; exact q
  have n1 : ∀ a, U' a → a = p → False := fun a x y => na (by rw [← y]; exact x)
  have pl : RepL K Z (upd H p (.lst (ys ++ vs))) (xs ++ ds) (ys ++ vs) U' := RepL.append (rl.move (Same.refl Z) (keep n1) fun _ x => x) (rv.move (Same.refl Z) (fun _ _ x => x.elim) fun _ x => x) (fun _ x => x) (fun _ x => x.elim) fun _ _ x => x
  have rn : Rep K Z (upd H p (.lst (ys ++ vs))) (.node true .lst (xs ++ ds)) (.ref p) (fun a => a = p ∨ U' a) := ⟨p, ys ++ vs, U', rfl, upd_same, .inl rfl, fun x => n1 p x rfl, fun _ x => .inr x, pl⟩
  have q := EnvR.put (S := fun a => (a = p ∨ U' a) ∨ U2 a) (eu.move (Same.refl Z) (keep fun a x y => uj p sa (by rw [← y]; exact x)) fun _ x => x) hl rn (fun _ x => .inl x) (fun _ x => .inr x) fun a x y => by
    rcases x with x | x
    · exact uj p sa (by rw [← x]; exact y)
    · exact uj a (sub a x) y
  rw [es] at q
  refine ⟨p, ys, hv, c, rl.length.symm, _, fun a x => ?_, u1 p sa, q⟩
  rcases x with (x | x) | x
  · rw [x]; exact u1 p sa
  · exact u1 a (sub a x)
  · exact u2 a x
/-- x.extend(a list of plain things) of a slot's own list -/
def extd (j : Nat) (fe : M EV) : M EV := fun ρ0 => match ρ0.getD j none with
  | some (.node true .lst _) => bnd fe (fun ev => fun ρ => match ρ.getD j none, peek1 ρ ev with
    | some (.node true .lst xs), some (.node _ .lst ys) => if plainL ys = true ∧ xs.length + ys.length ≤ cap then .ok (.val .non) (ρ.set j (some (.node true .lst (xs ++ ys)))) else .stuck
    | _, _ => .stuck) ρ0
  | _ => .stuck
theorem tE_extd {j : Nat} {Q : VK} (h : tE K mg W (extd j fe) σ H Q) : tBM K "list" rExtend (tVar j) (tCons (tE K mg W fe) tNil) σ H Q := by
  obtain ⟨Z, ρ, S, w, er, o⟩ := h
  simp only [extd] at o
  split at o
  · rename_i xs0 h0
    obtain ⟨u, U1, U2, hv, u1, u2, uj, ru, eu⟩ := er.take (getD_some h0)
    obtain ⟨p0, ys0, U', rfl, c0, _⟩ := ru
    refine ⟨.ref p0, hv, .inl ⟨rfl, ys0, SqL.of c0⟩, Z, ρ, S, w, er, ?_⟩
    simp only [bnd] at o
    cases e1 : fe ρ with
    | stuck => rw [e1] at o; exact o
    | exc x ρ1 => rw [e1] at o; exact o
    | ok ev ρ1 =>
      simp only [e1] at o
      intro v Z1 H1 S1 Sa st1 dj1 er1 r1
      have t1 := st1.less (S2 := S1) fun a x => .inl x
      have o1 := OutE.after (K := K) (mg := mg) (W := W) (σ := σ) (Q := Q) t1 o
      split at o1
      · rename_i xs b ys hx hk
        split at o1
        · rename_i hc
          have rb := peek1_rep er1 r1 hk
          obtain ⟨b2, zs, rfl, cb, rl⟩ := rep_lst t1.wd.same rb
          obtain ⟨p, ws, hv2, hp, hl, S', m', sp, er'⟩ := push_items t1.wd er1 hx (rl.plain hc.1)
          rw [hv] at hv2
          cases hv2
          refine ⟨p0, b2, ws, zs, rfl, rfl, hp, cb, by rw [hl, ← rl.length]; exact cap_le hc.2, ?_⟩
          exact o1 .non Z1 _ S' Fp0 ((Step.write t1.wd sp).less fun a x => x.elim (m' a) False.elim) (fun _ _ x => x) er' rfl
        · exact o1.elim
      · exact o1.elim
  · exact o.elim
theorem E_ext {j : Nat} {x : Str} {p2 apos cpos : Pos} (he : PE X e (tE X.K X.mg W fe)) (hj : X.N[j]? = some x := by rfl) (hv : Vis X.env.scope x := by first | exact Or.inl rfl | exact Or.inr (Or.inl rfl) | exact Or.inr (Or.inr rfl)) (hd : (x == ("__debug__" : Str)) = false := by decide) (hcd : (x == ("__classdict__" : Str)) = false := by decide)
    (hbase : attributeBase (.Name x p2) "extend" X.env (eval (.Name x p2) X.env) = eval (.Name x p2) X.env := by rfl)
    (hfew : ((backTo cpos (starEach [e] X.env)).all (fun x => !x.1) && (backToKw cpos (keywordEach [] X.env)).all (fun x => x.1.isSome)
      && decide ([e].length + ([] : List Keyword).length + (if ([] : List Keyword).isEmpty then 0 else 1) < 30)) = true := by rfl)
    (hline : (apos.endLine == cpos.line) = true := by rfl) (hs : starEach [e] X.env = (false, eval e X.env) :: starEach [] X.env := by rfl) (hplain : (backTo cpos (starEach [] X.env)).any (·.1) = false := by rfl) :
    PE X (.Call (.Attribute (.Name x p2) "extend" apos) [e] [] cpos) (tE X.K X.mg W (extd j fe)) :=
  PE.of (pe_bm PySem.F.plainAttrs_list PySem.F.slot_list_extend PySem.F.type_list_extend mt_extend (pe_var hj hv hd hcd) (pa_cons he pa_nil hs) hbase hfew hline hs hplain) fun _ _ _ q => tE_extd q
end
end Pm
/-! PmZm: stars in displays, xs += ys, comparisons of texts and of tuples of numbers, repeated lists, constants of the module that are tuples, sorted(set(xs)). -/
namespace Pm
open PySem PySem.Spec PyProof.Rows L2 StX
section
variable {K : PySem.W.Frag} {mg : Str → Option Value} {W : WX} {Z Z' H H' : Hp} {S S' : Fp} {σ : Sl} {X : Cx} {A : Nat → Bool} {a b c e o : Expr} {es : List Expr} {pos p : Pos} {fa fb fc f : M EV} {fs : M (List EV)}
/-! ### *e in a display -/
def itemsP : D → Option (List D)
  | .node _ .lst xs => if plainL xs = true then some xs else none
  | .node _ .tup xs => if plainL xs = true then some xs else none
  | _ => none
def aStar (f : M EV) (fs : M (List EV)) : M (List EV) := bnd f fun e => fun ρ => match peek1 ρ e with
  | some d => match itemsP d with
    | some ds => bnd fs (fun es => ret (ds.map EV.val ++ es)) ρ
    | none => .stuck
  | none => .stuck
theorem evs_vals : ∀ {ds : List D} {vs ws : List V} {es : List EV} {Sb : Fp}, RepL K Z H ds vs Fp0 → EVsR K Z H σ es ws Sb → EVsR K Z H σ (ds.map EV.val ++ es) (vs ++ ws) Sb
  | [], [], _, _, _, _, h => h
  | [], _ :: _, _, _, _, h, _ => h.elim
  | _ :: _, [], _, _, _, h, _ => h.elim
  | d :: ds, v :: vs, ws, es, Sb, ⟨_, _, s1, s2, _, r, q⟩, h =>
    ⟨Fp0, Sb, fun _ x => x.elim, fun _ x => x, fun _ x _ => x, r.move (Same.refl Z) (fun _ _ _ x => x) s1, evs_vals (q.move (Same.refl Z) (fun _ _ _ x => x) s2) h⟩
theorem tA_star {Q : List V → Hp → Prop} (h : tA K mg W (aStar f fs) σ H Q) : tStar K (tE K mg W f) (tA K mg W fs) σ H Q := by
  obtain ⟨Z, ρ, S, w, er, o⟩ := h
  refine ⟨Z, ρ, S, w, er, ?_⟩
  simp only [aStar, bnd] at o
  cases e1 : f ρ with
  | stuck => rw [e1] at o; exact o
  | exc x ρ1 => rw [e1] at o; exact o
  | ok ev ρ1 =>
    simp only [e1] at o
    intro v Z1 H1 S1 Sa st1 dj1 er1 r1
    cases hp : peek1 ρ1 ev with
    | none => simp only [hp] at o; exact o.elim
    | some d =>
      cases hi : itemsP d with
      | none => simp only [hp, hi] at o; exact o.elim
      | some ds =>
        simp only [hp, hi] at o
        have rd := peek1_rep er1 r1 hp
        have hs : ∃ a ys, v = .ref a ∧ (SqT K H1 a ys ∨ SqL K H1 a ys) ∧ RepL K Z1 H1 ds ys Fp0 := by
          unfold itemsP at hi
          split at hi
          · split at hi
            · rename_i hpl
              cases hi
              obtain ⟨a, ys, rfl, c, rl⟩ := rep_lst st1.wd.same rd
              exact ⟨a, ys, rfl, .inr (SqL.of c), rl.plain hpl⟩
            · cases hi
          · split at hi
            · rename_i hpl
              cases hi
              obtain ⟨a, ys, rfl, c, rl⟩ := rep_tup st1.wd.same rd
              exact ⟨a, ys, rfl, .inl c, rl.plain hpl⟩
            · cases hi
          · cases hi
        obtain ⟨a, ys, rfl, sq, rl⟩ := hs
        have t1 := st1.less (S2 := S1) fun a x => .inl x
        refine ⟨a, ys, rfl, sq, Z1, ρ1, S1, t1.wd, er1, ?_⟩
        cases e2 : fs ρ1 with
        | stuck => simp only [e2] at o; exact o
        | exc x ρ2 => simp only [e2] at o; exact XOut.after t1 o
        | ok es ρ2 =>
          simp only [e2, ret] at o
          intro vs Z2 H2 S2 Sb st2 dj2 er2 r2
          exact o (ys ++ vs) Z2 H2 S2 Sb (t1.trans st2) dj2 er2 (evs_vals (rl.move st2.zz (fun _ _ x => x.elim) fun _ x => x) r2)
theorem A_s (he : PE X e (tE X.K X.mg W f)) (hr : PA X es (tA X.K X.mg W fs)) (hs : starEach (.Starred e p :: es) X.env = (true, eval e X.env) :: starEach es X.env := by rfl) : PA X (.Starred e p :: es) (tA X.K X.mg W (aStar f fs)) :=
  PA.of (pa_star he hr hs) fun _ _ _ q => tA_star q
/-! ### xs += ys -/
def augL (i : Nat) (f : M EV) : M Fl := fun ρ0 => match ρ0.getD i none with
  | some (.node true .lst _) => bnd f (fun ev => fun ρ => match ρ.getD i none, peek1 ρ ev with
    | some (.node true .lst xs), some (.node _ .lst ys) => if plainL ys = true ∧ xs.length + ys.length ≤ cap then .ok .nx (ρ.set i (some (.node true .lst (xs ++ ys)))) else .stuck
    | _, _ => .stuck) ρ0
  | _ => .stuck
theorem tS_augL {i : Nat} {D : Ends} (hA : A i = true) (h : tS K mg W A (augL i f) D σ H) : tAug i (tE K mg W f) rExt2 D σ H := by
  obtain ⟨Z, ρ, S, w, er, o⟩ := h
  simp only [augL] at o
  split at o
  · rename_i xs0 h0
    obtain ⟨u, U1, U2, hv, u1, u2, uj, ru, eu⟩ := er.take (getD_some h0)
    obtain ⟨p0, ys0, U', rfl, c0, _⟩ := ru
    refine ⟨.ref p0, hv, Z, ρ, S, w, er, ?_⟩
    simp only [bnd] at o
    cases e1 : f ρ with
    | stuck => rw [e1] at o; exact o
    | exc x ρ1 => rw [e1] at o; exact o σ (Keep.refl σ)
    | ok ev ρ1 =>
      simp only [e1] at o
      intro v Z1 H1 S1 Sa st1 dj1 er1 r1
      have t1 := st1.less (S2 := S1) fun a x => .inl x
      have o1 := OutS.after (K := K) (mg := mg) (W := W) (A := A) (σ := σ) (D := D) t1 o
      split at o1
      · rename_i xs b ys hx hk
        split at o1
        · rename_i hc
          have rb := peek1_rep er1 r1 hk
          obtain ⟨b2, zs, rfl, cb, rl⟩ := rep_lst t1.wd.same rb
          obtain ⟨p, ws, hv2, hp, hl, S', m', sp, er'⟩ := push_items t1.wd er1 hx (rl.plain hc.1)
          rw [hv] at hv2
          cases hv2
          refine ⟨p0, b2, ws, zs, rfl, rfl, hp, cb, by rw [hl, ← rl.length]; exact cap_le hc.2, ?_⟩
          have es : σ.set i (some (.ref p0)) = σ := by
            obtain ⟨hj, ej⟩ := List.getElem?_eq_some_iff.mp hv
            rw [← ej, List.set_getElem_self]
          show D.nx (σ.set i (some (.ref p0))) _
          rw [es]
          exact o1 σ .non Z1 _ S' Fp0 (Keep.refl σ) ((Step.write t1.wd sp).less fun a x => x.elim (m' a) False.elim) (fun _ _ x => x) er' trivial
        · exact o1.elim
      · exact o1.elim
  · exact o.elim
theorem pip_of {op : Operator} {r : R2} (ho : OpR X (inplaceOp op) r) : PIp X op r := fun pins s σ H x y u v Q I rx ry q => ho pins s σ H x y u v Q I rx ry q
theorem S_augL {i : Nat} {x : Str} {pos' : Pos} (he : PE X e (tE X.K X.mg W f)) (hN : X.N.Nodup) (hA : A i = true := by rfl) (hi : X.N[i]? = some x := by rfl) (hx : Loc X.env.scope x := by first | exact .inl rfl | exact .inr rfl)
    (hf : X.fn x = true ∨ X.env.scope.names.lookup x = some .local := by first | exact .inl rfl | exact .inr rfl) : PS X (.AugAssign (.Name x pos') .Add e pos) (tS X.K X.mg W A (augL i f)) := PS.of (ps_aug hN hi hx he (pip_of iop_ext) hf) fun _ _ _ q => tS_augL hA q
/-! ### comparisons of texts, of tuples of numbers -/
def onS2 (g : Str → Str → Bool) : List D → Option D
  | [.str a, .str b] => some (.bl (g a b))
  | _ => none
theorem opd_S2 {fo : Value → Value → Sem Value} {g : Str → Str → Bool} (ho : OpR X fo (fun x y H Q => ∃ i j, x = .str i ∧ y = .str j ∧ Q (.bl (g i j)) H)) : Opd X fo (onS2 g) := by
  refine ⟨_, ho, snd_pure fun Z H S ds vs d Q w rb e k => ?_⟩
  unfold onS2 at e
  split at e
  · rename_i a b
    obtain ⟨v, u, rfl, rv, ru⟩ := rb2 rb
    obtain rfl : v = .str a := rv
    obtain rfl : u = .str b := ru
    cases e
    exact ⟨_, _, rfl, a, b, rfl, rfl, k _ rfl⟩
  · cases e
def ltS (a b : Str) : Bool := decide (a.cps.toList < b.cps.toList)
def opLtT : List D → Option D
  | [.node _ .tup xs, .node _ .tup ys] => match intsD xs, intsD ys with
    | some ns, some ms => some (.bl (HT.lexLt ns ms))
    | _, _ => none
  | _ => none
theorem opd_ltT (hu : X.A.units + 64 < cLine) : Opd X (compareOp .Lt) opLtT := by
  refine ⟨_, op_ltT (by omega), snd_pure fun Z H S ds vs d Q w rb e k => ?_⟩
  unfold opLtT at e
  split at e
  · split at e
    · rename_i ns ms h1 h2
      obtain ⟨v, u, rfl, rv, ru⟩ := rb2 rb
      obtain ⟨a, ys, rfl, c, rl⟩ := rep_tup w.same rv
      obtain ⟨b, zs, rfl, c2, rl2⟩ := rep_tup w.same ru
      rw [intsD_inv h1] at rl
      rw [intsD_inv h2] at rl2
      have e1 := reps_intsV rl
      have e2 := reps_intsV rl2
      subst e1
      subst e2
      cases e
      exact ⟨_, _, rfl, a, b, ns, ms, rfl, rfl, c, c2, k _ rfl⟩
    · cases e
  · cases e
/-- < of all kinds -/
def opLtA : List D → Option D
  | [.int i, .int j] => on2I iLt [.int i, .int j]
  | [.str i, .str j] => onS2 ltS [.str i, .str j]
  | ds => opLtT ds
theorem opd_ltA (hu : X.A.units + 64 < cLine) : Opd X (compareOp .Lt) opLtA := by
  refine Opd.or (g1 := on2I iLt) (g2 := fun ds => match onS2 ltS ds with | some d => some d | none => opLtT ds) opd_ltI (Opd.or (opd_S2 op_lt_str) (opd_ltT hu) fun ds d h => ?_) fun ds d h => ?_
  · cases e : onS2 ltS ds with
    | some d' => simp only [e] at h; exact .inl (show onS2 ltS ds = some d by rw [e]; exact h)
    | none => simp only [e] at h; exact .inr h
  · unfold opLtA at h
    split at h
    · exact .inl h
    · exact .inr (by simp only [h])
    · refine .inr ?_
      rename_i n1 n2
      have e : onS2 ltS ds = none := by
        unfold onS2
        split
        · first
            | exact (n2 _ _ rfl).elim
            | exact (n1 _ _ rfl).elim
        · rfl
      simp only [e]
      exact h
def orS (g : Int → Int → Option D) (q : Str → Str → Bool) : List D → Option D
  | [.str i, .str j] => onS2 q [.str i, .str j]
  | ds => on2I g ds
theorem opd_orS {fo : Value → Value → Sem Value} {g : Int → Int → Option D} {q : Str → Str → Bool} (h1 : Opd X fo (on2I g)) (h2 : Opd X fo (onS2 q)) : Opd X fo (orS g q) := Opd.or h1 h2 fun ds d h => by
  unfold orS at h
  split at h
  · exact .inr h
  · exact .inl h
abbrev opLeA : List D → Option D := orS iLe fun a b => !decide (b.cps.toList < a.cps.toList)
abbrev opGtA : List D → Option D := orS iGt fun a b => decide (b.cps.toList < a.cps.toList)
abbrev opGeA : List D → Option D := orS iGe fun a b => !decide (a.cps.toList < b.cps.toList)
theorem opd_leA : Opd X (compareOp .LtE) opLeA := opd_orS opd_leI (opd_S2 op_le_str)
theorem opd_gtA : Opd X (compareOp .Gt) opGtA := opd_orS opd_gtI (opd_S2 op_gt_str)
theorem opd_geA : Opd X (compareOp .GtE) opGeA := opd_orS opd_geI (opd_S2 op_ge_str)
/-! ### a constant of the module that is a tuple -/
theorem E_gt {x : Str} {d : D} {q : Addr} (hm : X.mg x = some (.ref q)) (hr : ∀ Z H : Hp, Rep X.K Z H d (.ref q) Fp0) (hg : Gl X x := by rfl) (hd : (x == ("__debug__" : Str)) = false := by decide) : PE X (.Name x pos) (tE X.K X.mg W (con d)) :=
  ⟨fun _ _ _ H _ I h => ld_glob I hg hm ⟨.ref q, H, I, rfl, tE_con (d := d) hr h⟩ hd⟩
theorem rep_cT {q : Addr} {dd : Option Addr} {n : Nat} {sl : Array (Option Value)} {its : List Value} {ds : List D} {vs : List V} (l : K.lookup q = some ⟨.type "tuple", dd, .seq its.toArray n, sl⟩) (r : Vals vs its) (hl : its.length ≤ 1000) (h : ∀ Z H : Hp, RepL K Z H ds vs Fp0) (Z H : Hp) : Rep K Z H (.tup ds) (.ref q) Fp0 :=
  ⟨q, vs, rfl, .inr ⟨_, its.toArray, n, l, rfl, rfl, by rw [List.size_toArray, sizeLine_eq]; omega, r⟩, h Z H⟩
theorem repL_0 (Z H : Hp) : RepL K Z H [] [] Fp0 := trivial
theorem repL_c {d : D} {v : V} {ds : List D} {vs : List V} (h1 : ∀ Z H : Hp, Rep K Z H d v Fp0) (h2 : ∀ Z H : Hp, RepL K Z H ds vs Fp0) (Z H : Hp) : RepL K Z H (d :: ds) (v :: vs) Fp0 := ⟨Fp0, Fp0, fun _ x => x, fun _ x => x, fun _ x _ => x, h1 Z H, h2 Z H⟩
theorem rep_cI (i : Int) (Z H : Hp) : Rep K Z H (.int i) (.int i) Fp0 := rfl
theorem rep_cS (x : Str) (Z H : Hp) : Rep K Z H (.str x) (.str x) Fp0 := rfl
/-! ### xs * k -/
def opRepL : List D → Option D
  | [.node true .lst xs, .int k] => if plainL xs = true ∧ -(2 ^ 63) ≤ k ∧ k < 2 ^ 63 ∧ xs.length * k.toNat ≤ cap then some (.lst true (List.replicate k.toNat xs).flatten) else none
  | _ => none
theorem reps_rep {ds : List D} {vs : List V} (r : RepL K Z H ds vs Fp0) : ∀ n : Nat, RepL K Z H (List.replicate n ds).flatten (List.replicate n vs).flatten Fp0
  | 0 => trivial
  | n + 1 => by
    rw [List.replicate_succ, List.replicate_succ, List.flatten_cons, List.flatten_cons]
    exact r.joinP (reps_rep r n)
theorem opd_repL : Opd X (binaryOp .Mult) opRepL := by
  refine ⟨_, op_rep, fun Z H S ds vs d Q w rb e k => ?_⟩
  unfold opRepL at e
  split at e
  · split at e
    · rename_i xs n hp
      obtain ⟨v, u, rfl, rv, ru⟩ := rb2 rb
      obtain ⟨a, ys, S', rfl, c, sa, na, sub, rl⟩ := rv
      obtain rfl : u = .int n := ru
      cases e
      refine ⟨_, _, rfl, a, n, ys, rfl, rfl, c, hp.2.1, hp.2.2.1, by rw [← rl.length]; exact cap_le hp.2.2.2, fun p np => ?_⟩
      obtain ⟨f1, f2, f3, f4⟩ := fresh_lst w np (reps_rep (rl.plain (H' := H) hp.1) n.toNat)
      exact k _ _ _ _ f1 f2 f3 f4
    · cases e
  · cases e
/-- everything that is multiplied -/
def hMul : List D → Option D
  | [.node o .lst xs, .int k] => opRepL [.node o .lst xs, .int k]
  | ds => gMul ds
theorem opd_hMul : Opd X (binaryOp .Mult) hMul := Opd.or opd_gMul opd_repL fun ds d h => by
  unfold hMul at h
  split at h
  · exact .inr h
  · exact .inl h
end
end Pm
/-! PmZi: what is never reached; [::-1]; dicts that are written and shown. -/
namespace Pm
open PySem PySem.Spec PyProof.Rows L2
section
variable {K : PySem.W.Frag} {mg : Str → Option Value} {W : WX} {Z Z' H H' : Hp} {S S' : Fp} {σ : Sl} {X : Cx} {A : Nat → Bool} {a b c e o : Expr} {pos : Pos} {fa fb fc f : M EV} {st : Stmt}
/-- a statement that is never reached -/
def nvr : M Fl := fun _ => .stuck
theorem S_never : PS X st (tS X.K X.mg W A nvr) := PS.of ps_never fun _ _ _ q => by
  obtain ⟨_, _, _, _, _, o⟩ := q
  exact o
end
/-! ### x[::-1] -/
section
open HT
variable {prog : Program} {w : World} {A : Around} {E : Value → Shared → Prop} {s : Shared}
theorem adjust_rev (n : Nat) : Builtin.Slice.sliceAdjust none none (-1) (n : Int) = ((n : Int) - 1, -1) := by
  unfold Builtin.Slice.sliceAdjust
  simp
theorem places_rev (n : Nat) : Builtin.Slice.slicePlaces ((n : Int) - 1) (-1) (-1) = n := by
  unfold Builtin.Slice.slicePlaces
  simp only [show ¬ ((-1 : Int) > 0) by decide, if_false, show (-(-1) : Int) = 1 by decide, Int.ediv_one]
  split <;> omega
theorem sliceApplied_rev {sl : Addr} {vs : Value} {n : Nat} {Q : Int × Int × Nat → Shared → Prop} (hs : s.heap.IsSliceOf sl .none .none vs) (ps : IsPart vs (some (-1)))
    (h : Q ((n : Int) - 1, -1, n) s) : wpAny (model prog w) A (Builtin.Slice.sliceApplied (.ref sl) (pure (n : Int))) Q E s := by
  obtain ⟨os, hos, hcs, hds⟩ := id hs
  unfold Builtin.Slice.sliceApplied Builtin.Slice.sliceFields
  refine wpAny_bind (wpAny_bind (wpAny_field hos hds (x := .none) rfl (wpAny_bind (wpAny_field hos hds (x := .none) rfl (wpAny_bind (wpAny_field hos hds (x := vs) rfl (wpAny_pure ?_)))))))
  refine wpAny_bind (slicePart_ ps ?_)
  show wpAny _ _ (if ((-1 : Int) == 0) = true then _ else _) _ _ s
  rw [if_neg (by decide)]
  refine wpAny_bind (slicePart_none (wpAny_bind (slicePart_none (wpAny_bind (wpAny_pure ?_)))))
  show wpAny _ _ (match Builtin.Slice.sliceAdjust none none (-1) (n : Int) with | (lo, hi) => pure (lo, (-1 : Int), Builtin.Slice.slicePlaces lo hi (-1))) _ _ s
  rw [adjust_rev]
  show wpAny _ _ (pure ((n : Int) - 1, (-1 : Int), Builtin.Slice.slicePlaces ((n : Int) - 1) (-1) (-1))) _ _ s
  rw [places_rev]
  exact wpAny_pure h
theorem pick_rev (xs : Array Value) : ((List.range xs.size).filterMap fun (m : Nat) => xs[(((xs.size : Nat) : Int) - 1 + (m : Int) * (-1)).toNat]?).toArray = xs.toList.reverse.toArray := by
  have e : (List.range xs.size).filterMap (fun (m : Nat) => xs[(((xs.size : Nat) : Int) - 1 + (m : Int) * (-1)).toNat]?) = ((List.range xs.size).map fun k => xs.size - 1 - k).filterMap (xs[·]?) := by
    have h1 : (List.range xs.size).filterMap (fun (m : Nat) => xs[(((xs.size : Nat) : Int) - 1 + (m : Int) * (-1)).toNat]?) = ((List.range xs.size).map fun (m : Nat) => (((xs.size : Nat) : Int) - 1 + (m : Int) * (-1)).toNat).filterMap (xs[·]?) := by
      rw [List.filterMap_map]
      rfl
    rw [h1]
    congr 1
    refine List.map_congr_left fun m hm => ?_
    have := List.mem_range.mp hm
    omega
  rw [e, PySem.W.krv_range, List.filterMap_reverse, PySem.W.krv_all]
theorem getItem_tuple_rev {t sl : Addr} {items : Array Value} {vs : Value} {Q : Value → Shared → Prop} (ht : IsTup s.heap t items) (hs : s.heap.IsSliceOf sl .none .none vs) (ps : IsPart vs (some (-1)))
    (h : Q (.ref s.heap.objs.size) { s with heap := s.heap.push { cls := .type "tuple", data := .seq items.toList.reverse.toArray } })
    (hsz : items.size ≤ sizeLine) : wpAny (model prog w) A (getItem (.ref t) (.ref sl)) Q E s := by
  have htake : sizeOk (.seq items.toList.reverse.toArray) := by
    show (items.toList.reverse.toArray).size ≤ sizeLine
    rw [List.size_toArray, List.length_reverse, Array.length_toList]
    exact hsz
  obtain ⟨os, hos, hcs, hds⟩ := id hs
  have hTs : s.TypeIs (.ref sl) "slice" := ⟨os, hos, hcs⟩
  unfold getItem
  try with_reducible refine wpAny_holding ?_
  first | refine wpAny_bind (wpAny_pure ?_) | skip
  refine wpAny_bind (wpAny_sequenceKey ht.typeIs (by decide) ?_)
  refine wpAny_bind (wpAny_callSpecial?_slot (name := Str.ofString "__getitem__") ht.typeIs PyProof.Rows.slot_tuple_getitem
    (wpAny_call_entry PyProof.Rows.slot_tuple_getitem ht.typeIs entry_tuple_getitem ?_ (args_tuple_getitem _ _)))
  show wpAny _ _ (Builtin.Tuple.tupleItemsOf (.ref t) >>= _) _ _ s
  refine wpAny_bind (tupleItemsOf_ ht ?_)
  refine wpAny_bind (wpAny_typeOf hTs ?_)
  rw [if_pos (by decide)]
  refine wpAny_bind (sliceApplied_rev hs ps ?_)
  have hno : ¬ ((((items.size : Nat) : Int) - 1 == 0 && (-1 : Int) == 1 && items.size == items.size) = true) := by
    intro q
    rw [Bool.and_eq_true, Bool.and_eq_true] at q
    exact absurd q.1.2 (by decide)
  show wpAny _ _ (if ((((items.size : Nat) : Int) - 1 == 0 && (-1 : Int) == 1 && items.size == items.size) = true) then _ else _) _ _ s
  rw [if_neg hno, pick_rev]
  first
    | exact wpAny_bind (m := Builtin.Tuple.tupleExact _) (wpAny_newObj_type (wpAny_pure ⟨_, rfl, wpAny_pure h⟩) htake)
    | exact wpAny_bind (m := Builtin.Tuple.tupleExact _) (wpAny_newObj_type (wpAny_bind (wpAny_pure (wpAny_pure ⟨_, rfl, wpAny_pure h⟩))) htake)
    | exact wpAny_bind (wpAny_bind (m := Builtin.Tuple.tupleExact _) (wpAny_newObj_type (wpAny_pure (wpAny_pure ⟨_, rfl, wpAny_pure h⟩)) htake))
    | exact wpAny_bind (wpAny_bind (m := Builtin.Tuple.tupleExact _) (wpAny_newObj_type (wpAny_pure ⟨_, rfl, wpAny_pure h⟩) htake))
end
section
variable {K : PySem.W.Frag} {mg : Str → Option Value} {W : WX} {Z Z' H H' : Hp} {S S' : Fp} {σ : Sl} {X : Cx} {A : Nat → Bool} {a b c e o : Expr} {pos : Pos} {fa fb fc f : M EV}
/-- a text from its end -/
def revS (x : Str) : Str := ⟨x.cps.toList.reverse.toArray⟩
theorem revS_ix (x : Str) : Builtin.Str.strSliceIndices none none (-1) x.length = (List.range x.cps.size).reverse := by
  unfold Builtin.Str.strSliceIndices
  show sliceRange (if (-1 : Int) > 0 then 0 else (x.cps.size : Int) - 1) (if (-1 : Int) > 0 then (x.cps.size : Int) else -1) (-1) = _
  rw [if_neg (by decide), if_neg (by decide), PySem.W.krv_sliceRange, PySem.W.krv_range]
theorem revS_len (x : Str) : (revS x).length = x.length := by
  show (x.cps.toList.reverse.toArray).size = x.cps.size
  simp
def rRev (K : PySem.W.Frag) : V → Hp → VK → Prop := fun x H Q => (∃ a xs, x = .ref a ∧ SqL K H a xs ∧ ∀ p, H p = none → Q (.ref p) (upd H p (.lst xs.reverse))) ∨
  (∃ a xs, x = .ref a ∧ SqT K H a xs ∧ ∀ p, H p = none → Q (.ref p) (upd H p (.tup xs.reverse))) ∨ ∃ z, x = .str z ∧ z.length ≤ sizeLine ∧ Q (.str (revS z)) H
theorem pe_rev {te : TE} {k : Nat} {p1 p2 p3 : Pos} (he : PE X e te) : PE X (.Subscript e (.Slice none none (some (.UnaryOp .USub (.Constant (.int 1) k p1) p2)) p3) pos) (tUn (rRev X.K) te) := by
  refine ⟨fun pins s σ H Q I h => ?_⟩
  refine Subscript_ (thn (he.run pins s σ H _ I h) fun v s1 ⟨x, H1, I1, r1, q1⟩ => ?_)
  have hst : PO X (some (.UnaryOp .USub (.Constant (.int 1) k p1) p2)) (tPart (tUn (rU fun i => .int (-i)) (tC (.int 1)))) := po_some (pe_un un_neg pe_int)
  refine wpAny_Slice (thn (po_none.run pins s1 σ H1 (fun o H2 => o = none ∧ H2 = H1) I1 ⟨rfl, rfl⟩) fun vl s2 ⟨l, H2, I2, pl, el, e2⟩ => ?_)
  subst el e2
  refine thn (po_none.run pins s2 σ H2 (fun o H3 => o = none ∧ H3 = H2) I2 ⟨rfl, rfl⟩) fun vu s3 ⟨u, H3, I3, pu, eu, e3⟩ => ?_
  subst eu e3
  refine thn (hst.run pins s3 σ H3 (fun o H4 => o = some (-1) ∧ H4 = H3) I3 ⟨1, rfl, -1, rfl, rfl, rfl⟩) fun vs s4 ⟨o, H4, I4, ps, eo, e4⟩ => ?_
  subst eo e4
  have I5 : Inv X pins σ H4 { s4 with heap := s4.heap.push { cls := .type "slice", data := .fields #[vl, vu, vs] } } := I4.kept (t' := s4.toks) fun b ob q => Heap.get?_push_of_some _ q
  have q1 : rRev X.K x H4 Q := q1
  rcases q1 with ⟨a, xs, ex, hx, q⟩ | ⟨a, xs, ex, hx, q⟩ | ⟨z, ex, hz, q⟩
  · subst ex
    cases r1
    obtain ⟨its, r, ht, hz⟩ := I5.list hx
    have hlen := r.length
    show wpAny (model X.prog X.w) X.A (subscriptTail e (.Slice none none (some (.UnaryOp .USub (.Constant (.int 1) k p1) p2)) p3) (.ref a) (.ref s4.heap.objs.size)) (EP X pins σ Q) X.xe { s4 with heap := s4.heap.push { cls := .type "slice", data := .fields #[vl, vu, vs] } }
    refine tail_any (ops := [.ref a, .ref s4.heap.objs.size]) ht.isList.typeIs (PySem.slot_list_getitem.lookup) ?_ (by with_unfolding_all rfl)
    refine wpAny_getItem_list_slice ht.isList (Heap.IsSliceOf.new _ vl vu vs) pl pu ps (by decide) ?_ (by rw [List.size_toArray]; omega)
    rw [PySem.W.krv_pick]
    refine ⟨.ref _, _, I5.laid (t' := s4.toks) (o := .lst xs.reverse) (fun b ob q => Heap.get?_push_of_some _ q) (Nat.le_refl _) ?_, rfl, q _ (I5.hok.fresh (Nat.le_refl _))⟩
    exact ⟨by rw [List.length_reverse]; exact hz, _, 0, r.reverse, Heap.get?_push_size _ rfl⟩
  · subst ex
    cases r1
    cases pl
    cases pu
    obtain ⟨its, r, ht, hz⟩ := I5.tuple hx
    have hlen := r.length
    show wpAny (model X.prog X.w) X.A (subscriptTail e (.Slice none none (some (.UnaryOp .USub (.Constant (.int 1) k p1) p2)) p3) (.ref a) (.ref s4.heap.objs.size)) (EP X pins σ Q) X.xe { s4 with heap := s4.heap.push { cls := .type "slice", data := .fields #[.none, .none, vs] } }
    refine tail_any (ops := [.ref a, .ref s4.heap.objs.size]) ht.typeIs (PyProof.Rows.slot_tuple_getitem.lookup) ?_ (by with_unfolding_all rfl)
    refine getItem_tuple_rev ht (Heap.IsSliceOf.new _ .none .none vs) ps ?_ (by rw [List.size_toArray]; omega)
    refine ⟨.ref _, _, I5.laid (t' := s4.toks) (o := .tup xs.reverse) (fun b ob q => Heap.get?_push_of_some _ q) (Nat.le_refl _) ?_, rfl, q _ (I5.hok.fresh (Nat.le_refl _))⟩
    exact ⟨by rw [List.length_reverse]; exact hz, its.reverse, r.reverse, IsTup.new _ _⟩
  · subst ex
    obtain ⟨t, rfl⟩ := r1
    cases pl
    cases pu
    cases ps with
    | int _ t2 =>
    show wpAny (model X.prog X.w) X.A (subscriptTail e (.Slice none none (some (.UnaryOp .USub (.Constant (.int 1) k p1) p2)) p3) (.str z t) (.ref s4.heap.objs.size)) (EP X pins σ Q) X.xe { s4 with heap := s4.heap.push { cls := .type "slice", data := .fields #[.none, .none, .int (-1) t2] } }
    refine tail_any (ops := [.str z t, .ref s4.heap.objs.size]) (typeIs_str _ _ _) (F.slot_str_getitem.lookup) ?_ (by with_unfolding_all rfl)
    refine wpAny_getItem_str_slice (l := none) (u := none) (st := some (-1, t2)) ⟨_, Heap.get?_push_size _ rfl, rfl, rfl⟩ rfl ?_
    show Made.post (if ((-1 : Int) == 1 && (Builtin.Str.strSliceIndices none none (-1) z.length).length == z.length) = true then Made.val (.str z t)
      else Made.str ⟨((Builtin.Str.strSliceIndices none none (-1) z.length).filterMap (z.cps[·]?)).toArray⟩) (EP X pins σ Q) _
    rw [if_neg (by intro q; rw [Bool.and_eq_true] at q; exact absurd q.1 (by decide)), revS_ix, List.filterMap_reverse, PySem.W.krv_all]
    exact ⟨by show (revS z).length ≤ sizeLine; rw [revS_len]; exact hz, .str _, H4, I5.tok _, ⟨_, rfl⟩, q⟩
theorem RepL.revP : ∀ {ds : List D} {vs : List V}, RepL K Z H ds vs Fp0 → RepL K Z H ds.reverse vs.reverse Fp0
  | [], [], _ => trivial
  | [], _ :: _, h => h.elim
  | _ :: _, [], h => h.elim
  | d :: ds, v :: vs, ⟨_, _, s1, s2, dj, r, q⟩ => by
    rw [List.reverse_cons, List.reverse_cons]
    have r0 : Rep K Z H d v Fp0 := r.move (Same.refl _) (fun _ _ _ x => x) s1
    have q0 : RepL K Z H ds vs Fp0 := q.move (Same.refl _) (fun _ _ _ x => x) s2
    exact RepL.joinP (RepL.revP q0) ⟨Fp0, Fp0, fun _ x => x, fun _ x => x, fun _ x _ => x, r0, trivial⟩
def opRev : List D → Option D
  | [.node _ .lst xs] => if plainL xs = true then some (.lst true xs.reverse) else none
  | [.node _ .tup xs] => if plainL xs = true then some (.tup xs.reverse) else none
  | [.str x] => if x.length ≤ cap then some (.str (revS x)) else none
  | _ => none
theorem snd_rev : Snd X (fun vs H Q => ∃ x, vs = [x] ∧ rRev X.K x H Q) opRev := by
  intro Z H S ds vs d Q w rb e k
  unfold opRev at e
  split at e
  · split at e
    · rename_i hp
      obtain ⟨v, rfl, rv⟩ := rb1 rb
      obtain ⟨a, ys, rfl, c, rl⟩ := rep_lst w.same rv
      cases e
      refine ⟨_, rfl, .inl ⟨a, ys, rfl, SqL.of c, fun p np => ?_⟩⟩
      obtain ⟨f1, f2, f3, f4⟩ := fresh_lst w np (RepL.revP (rl.plain hp))
      exact k _ _ _ _ f1 f2 f3 f4
    · cases e
  · split at e
    · rename_i hp
      obtain ⟨v, rfl, rv⟩ := rb1 rb
      obtain ⟨a, ys, rfl, c, rl⟩ := rep_tup w.same rv
      cases e
      refine ⟨_, rfl, .inr (.inl ⟨a, ys, rfl, c, fun p np => ?_⟩)⟩
      obtain ⟨f1, f2, f3⟩ := fresh_tup w np (RepL.revP (rl.plain hp))
      exact k _ _ _ _ f1 f2 (fun _ _ x => x) f3
    · cases e
  · split at e
    · rename_i hp
      obtain ⟨v, rfl, rv⟩ := rb1 rb
      obtain rfl : v = .str _ := rv
      cases e
      exact ⟨_, rfl, .inr (.inr ⟨_, rfl, cap_le hp, k _ _ _ Fp0 w.nil (Same.refl H) (fun _ _ x => x) rfl⟩)⟩
    · cases e
  · cases e
theorem E_rev {k : Nat} {p1 p2 p3 : Pos} (he : PE X e (tE X.K X.mg W f)) : PE X (.Subscript e (.Slice none none (some (.UnaryOp .USub (.Constant (.int 1) k p1) p2)) p3) pos) (tE X.K X.mg W (un opRev f)) :=
  PE.of (pe_rev he) fun _ _ _ q => one_of (tE_app snd_rev q)
/-! ### dicts written -/
def newD : M EV := con (.dct true [] [])
theorem tE_newD {Q : VK} (h : tE K mg W newD σ H Q) : tDNewK σ H Q := by
  obtain ⟨Z, ρ, S, w, er, o⟩ := h
  intro p np
  have r0 : RepL K Z H ([] : List D) ([] : List V) Fp0 := trivial
  have st := Step.alloc (o := .dK []) w np
  refine o (.ref p) Z _ S (fun a => a = p) st (fun a s e => w.dom a s (by rw [e]; exact np)) (er.move (Same.refl _) (fun a o _ e => by rw [upd_ne (ne_of_none e np)]; exact e) fun _ x => x) ?_
  exact ⟨p, [], Fp0, rfl, ⟨rfl, upd_same⟩, rfl, fun x => x, fun _ x => x.elim, trivial⟩
theorem E_D0 : PE X (.Dict [] [] pos) (tE X.K X.mg W newD) := PE.of pe_dnewK fun _ _ _ q => tE_newD q
/-- {k: e} with k a number or a text -/
def keyD : Key → D
  | .inl i => .int i
  | .inr x => .str x
def dct1 (k : Key) (f : M EV) : M EV := bnd f fun e => bnd (use1 e) fun d => ret (.val (.dct true [k] [d]))
theorem keyD_rep (k : Key) : Rep K Z H (keyD k) (kV k) Fp0 := by cases k <;> rfl
theorem tE_dct1 {k : Key} {Q : VK} (h : tE K mg W (dct1 k f) σ H Q) : tDisp [(tC (kV k), tE K mg W f)] σ H Q := by
  obtain ⟨Z, ρ, S, w, er, o⟩ := h
  intro p np
  show tPairs [(tC (kV k), tE K mg W f)] σ (upd H p (.dK [])) _
  have st0 := Step.alloc (o := .dK []) w np
  have dj0 : ∀ a, S a → a = p → False := fun a s e => w.dom a s (by rw [e]; exact np)
  have er0 : EnvR K Z (upd H p (.dK [])) ρ σ S := er.move (Same.refl _) (fun a o _ e => by rw [upd_ne (ne_of_none e np)]; exact e) fun _ x => x
  show tE K mg W f σ (upd H p (.dK [])) _
  refine ⟨Z, ρ, S, st0.wd.less fun a x => .inl x, er0, ?_⟩
  simp only [dct1, bnd] at o
  cases e1 : f ρ with
  | stuck => rw [e1] at o; exact o
  | exc x ρ1 =>
    rw [e1] at o
    exact XOut.behind st0 dj0 o
  | ok ev ρ1 =>
    simp only [e1] at o
    intro v Z1 H1 S1 Sa st1 dj1 er1 r1
    have st1F := st1.frame st0.wd dj0
    have ap1 := st1.apart (T := fun a => a = p) (fun a x => st0.wd.live a (.inr x)) dj0
    have hp1 : H1 p = some (.dK []) := st1.fr p _ (fun x => dj0 p x rfl) upd_same nt_dK
    cases e2 : use1 ev ρ1 with
    | stuck => simp only [e2] at o; exact o.elim
    | exc x ρ2 => exact absurd e2 use1_noexc
    | ok d ρ2 =>
      simp only [e2, ret] at o
      obtain ⟨Z2, S2, st2, m2, er2, r2⟩ := use1_ok st1F.wd dj1 ap1 er1 r1 e2
      refine ⟨hp1, [(k, v)], rfl, by show 1 ≤ 15; decide, ?_⟩
      show Q (.ref p) (upd H1 p (.dK [(k, v)]))
      have st3 : Step Z2 H1 (fun a => (S2 a ∨ Sa a) ∨ a = p) Z2 (upd H1 p (.dK [(k, v)])) (fun a => (S2 a ∨ Sa a) ∨ a = p) := Step.write st2.wd (.inr rfl)
      have keep : ∀ {B : Fp}, (∀ a, B a → a = p → False) → ∀ a o, B a → H1 a = some o → upd H1 p (.dK [(k, v)]) a = some o := fun {B} n a o b q => by rw [upd_ne fun z => n a b z]; exact q
      have apS2 : ∀ a, S2 a → a = p → False := fun a x e => ap1 a (.inl (m2 a x)) e
      have apSa : ∀ a, Sa a → a = p → False := fun a x e => ap1 a (.inr x) e
      refine o (.ref p) Z2 _ S2 (fun a => Sa a ∨ a = p) ?_ (fun a x y => y.elim (dj1 a (m2 a x)) (apS2 a x)) (er2.move (Same.refl _) (keep apS2) fun _ x => x) ?_
      · refine (((st0.trans st1F).trans st2).trans st3).less fun a x => ?_
        rcases x with x | x | x
        · exact .inl (.inl x)
        · exact .inl (.inr x)
        · exact .inr x
      · exact ⟨p, [v], Sa, rfl, ⟨rfl, upd_same⟩, .inr rfl, fun x => apSa p x rfl, fun a x => .inl x, ⟨Sa, Fp0, fun _ x => x, fun _ x => x.elim, fun _ _ x => x, r2.move (Same.refl _) (keep apSa) fun _ x => x, trivial⟩⟩
theorem E_D1s {x : Str} {j : Nat} {p2 : Pos} (hv : PE X e (tE X.K X.mg W f)) : PE X (.Dict [some (.Constant (.str x) j p2)] [e] pos) (tE X.K X.mg W (dct1 (.inr x) f)) :=
  PE.of (pe_disp (pps_cons pe_str hv pps_nil) rfl rfl (by intro z; cases z) (by show 1 ≤ 15; decide)) fun _ _ _ q => tE_dct1 q
theorem E_D1i {i : Int} {j : Nat} {p2 : Pos} (hv : PE X e (tE X.K X.mg W f)) : PE X (.Dict [some (.Constant (.int i) j p2)] [e] pos) (tE X.K X.mg W (dct1 (.inl i) f)) :=
  PE.of (pe_disp (pps_cons pe_int hv pps_nil) rfl rfl (by intro z; cases z) (by show 1 ≤ 15; decide)) fun _ _ _ q => tE_dct1 q
/-! ### dicts shown: what they hold is of one piece -/
def keyP : Key → PyData
  | .inl i => .int i
  | .inr x => .str x
def pyF : V → PyData
  | .bl b => .bool b
  | .int i => .int i
  | .str x => .str x
  | _ => .none
theorem reads_flat {h : Heap} {v : V} {u : Value} (hf : flatV v = true) (r : RelV v u) : Reads h u (pyF v) [] := by
  cases v with
  | non => cases r; exact .none
  | bl b => cases r; exact .bool b
  | int i => obtain ⟨t, rfl⟩ := r; exact .int i t
  | str x => obtain ⟨t, rfl⟩ := r; exact .str x t
  | _ => cases hf
theorem pairsRead_of {h : Heap} : ∀ {kvs : List (Key × V)} {vs : List (Key × Value)}, KV kvs vs → (kvs.all fun kv => flatV kv.2) = true → PyProof.V.PairsRead h keyP vs (kvs.map fun kv => (keyP kv.1, pyF kv.2)) []
  | [], _, r, _ => by cases r; exact .nil
  | p :: kvs, _, r, hf => by
    rw [List.all_cons, Bool.and_eq_true] at hf
    cases r with
    | @cons a b as bs h1 h2 =>
      obtain ⟨k, u⟩ := b
      obtain ⟨k', v⟩ := p
      obtain ⟨e, ru⟩ := h1
      cases e
      exact .cons (as := []) (reads_flat hf.1 ru) (pairsRead_of h2 hf.2)
def dctP (ks : List Key) (vs : List V) : PyData := .dict ((ks.zip vs).map fun kv => (keyP kv.1, pyF kv.2))
def rReprD : List V → Hp → VK → Prop := fun xs H Q => ∃ a kvs, xs = [.ref a] ∧ Rd H a (.dK kvs) ∧ (kvs.all fun kv => flatV kv.2) = true ∧ PyData.showable (.dict (kvs.map fun kv => (keyP kv.1, pyF kv.2))) = true ∧
  PyData.depth (.dict (kvs.map fun kv => (keyP kv.1, pyF kv.2))) ≤ 60 ∧ (PyData.shown (.dict (kvs.map fun kv => (keyP kv.1, pyF kv.2)))).length ≤ sizeLine ∧ Q (.str (PyData.shown (.dict (kvs.map fun kv => (keyP kv.1, pyF kv.2))))) H
theorem call_reprD (hg : X.A.guards = some []) (hu : X.A.units + 64 < cLine) : CallR X (.builtin "repr") rReprD := by
  intro pins s σ H xs us Q I r h
  obtain ⟨a, kvs, rfl, hr, hf, hs, hp, hz, q⟩ := h
  obtain ⟨u, rfl, rx⟩ := vals1 r
  cases rx
  obtain ⟨_, hd, vs, rel, dd⟩ := dk_rd I.hok hr
  have rd : Reads s.heap (.ref a) (.dict (kvs.map fun kv => (keyP kv.1, pyF kv.2))) (a :: []) := PyProof.V.reads_dictOf (fun k key hk => by
    rcases keyIs_shape (show keyIs k key = true from hk) with ⟨i, t, rfl, rfl⟩ | ⟨x, t, rfl, rfl⟩
    · exact .int i t
    · exact .str x t) dd (pairsRead_of rel hf)
  refine repr_of_reads' rd hs (fun _ hm => ?_) hg (by omega) (fun _ _ e => e) (fun h' u tk k => ⟨.str _, H, I.kept k, ⟨_, rfl⟩, q⟩) hz
  rcases List.mem_cons.mp hm with e | e
  · rw [← e] at hd
    exact absurd hd (by simp)
  · cases e
theorem zip_all : ∀ (ks : List Key) (vs : List V), vs.all flatV = true → ((ks.zip vs).all fun kv => flatV kv.2) = true
  | [], _, _ => rfl
  | _ :: _, [], _ => rfl
  | k :: ks, v :: vs, h => by
    rw [List.all_cons, Bool.and_eq_true] at h
    rw [List.zip_cons_cons, List.all_cons, Bool.and_eq_true]
    exact ⟨h.1, zip_all ks vs h.2⟩
/-! ### repr of a tuple in which flat dicts stand -/
def isDct : D → Bool
  | .node _ (.dct _) _ => true
  | _ => false
def dItemP : D → Option PyData
  | .node _ (.dct ks) xs => match fltL xs with
    | some vs => if ks.length = vs.length then some (dctP ks vs) else none
    | none => none
  | d => (flt d).map pyF
def dItemsP : List D → Option (List PyData)
  | [] => some []
  | d :: ds => match dItemP d, dItemsP ds with
    | some p, some ps => some (p :: ps)
    | _, _ => none
/-- an item as it is read -/
inductive ItP (H : Hp) : V → PyData → Prop where
  | flat {v : V} : flatV v = true → ItP H v (pyF v)
  | dct {a : Addr} {kvs : List (Key × V)} : Rd H a (.dK kvs) → (kvs.all fun kv => flatV kv.2) = true → ItP H (.ref a) (.dict (kvs.map fun kv => (keyP kv.1, pyF kv.2)))
inductive ItPs (H : Hp) : List V → List PyData → Prop where
  | nil : ItPs H [] []
  | cons {v : V} {vs : List V} {p : PyData} {ps : List PyData} : ItP H v p → ItPs H vs ps → ItPs H (v :: vs) (p :: ps)
theorem dItemP_ok {K : PySem.W.Frag} {Z H : Hp} {S : Fp} (w : Sam Z H) {d : D} {v : V} {p : PyData} (h : dItemP d = some p) (r : Rep K Z H d v S) : ItP H v p := by
  unfold dItemP at h
  split at h
  · rename_i o ks xs
    split at h
    · rename_i vs' hv
      split at h
      · rename_i hl
        cases h
        cases o with
        | false =>
          obtain ⟨a, ys, rfl, c, rl⟩ := r
          obtain ⟨e1, f1⟩ := fltL_ok hv rl
          subst e1
          exact .dct (.inl (w.get _ _ c.2 nt_dK)) (zip_all _ _ f1)
        | true =>
          obtain ⟨a, ys, S', rfl, c, sa, na, sub, rl⟩ := r
          obtain ⟨e1, f1⟩ := fltL_ok hv rl
          subst e1
          exact .dct (.inl c.2) (zip_all _ _ f1)
      · cases h
    · cases h
  · obtain ⟨u, hu, rfl⟩ := Option.map_eq_some_iff.mp h
    obtain ⟨e1, f1⟩ := flt_ok hu r
    subst e1
    exact .flat f1
theorem dItemsP_ok {K : PySem.W.Frag} {Z H : Hp} (w : Sam Z H) : ∀ {ds : List D} {vs : List V} {ps : List PyData} {S : Fp}, dItemsP ds = some ps → RepL K Z H ds vs S → ItPs H vs ps
  | [], [], _, _, h, _ => by cases h; exact .nil
  | [], _ :: _, _, _, _, r => r.elim
  | _ :: _, [], _, _, _, r => r.elim
  | d :: ds, v :: vs, ps, _, h, ⟨_, _, _, _, _, r, q⟩ => by
    unfold dItemsP at h
    split at h
    · rename_i p ps' h1 h2
      cases h
      exact .cons (dItemP_ok w h1 r) (dItemsP_ok w h2 q)
    · cases h
def rReprT (K : PySem.W.Frag) : List V → Hp → VK → Prop := fun xs H Q => ∃ (a : Addr) (ys : List V) (ps : List PyData), xs = [.ref a] ∧ SqT K H a ys ∧ ItPs H ys ps ∧ PyData.showable (.tuple ps) = true ∧ PyData.depth (.tuple ps) ≤ 60 ∧ (PyData.shown (.tuple ps)).length ≤ sizeLine ∧ Q (.str (PyData.shown (.tuple ps))) H
section
variable {X : Cx} {pins : List (Addr × Obj)} {σ : L2.St} {H : Hp} {s : Shared}
theorem itp_read (I : Inv X pins σ H s) {v : V} {p : PyData} {u : Value} (h : ItP H v p) (r : RelV v u) : ∃ as, Reads s.heap u p as ∧ sysModules ∉ as := by
  cases h with
  | flat f => exact ⟨[], reads_flat f r, by simp⟩
  | @dct a kvs hr hf =>
    cases r
    obtain ⟨_, hd, vs, rel, dd⟩ := dk_rd I.hok hr
    have rd : Reads s.heap (.ref a) (.dict (kvs.map fun kv => (keyP kv.1, pyF kv.2))) (a :: []) := PyProof.V.reads_dictOf (fun k key hk => by
      rcases keyIs_shape (show keyIs k key = true from hk) with ⟨i, t, rfl, rfl⟩ | ⟨x, t, rfl, rfl⟩
      · exact .int i t
      · exact .str x t) dd (pairsRead_of rel hf)
    refine ⟨_, rd, fun hm => ?_⟩
    rcases List.mem_cons.mp hm with e | e
    · rw [← e] at hd
      exact absurd hd (by simp)
    · cases e
theorem itps_read (I : Inv X pins σ H s) : ∀ {vs : List V} {ps : List PyData} {us : List Value}, ItPs H vs ps → Vals vs us → ∃ as, ReadsAll s.heap us ps as ∧ sysModules ∉ as
  | _, _, _, .nil, .nil => ⟨[], .nil, by simp⟩
  | _, _, _, .cons h t, .cons r q => by
    obtain ⟨as, h1, h2⟩ := itp_read I h r
    obtain ⟨bs, h3, h4⟩ := itps_read I t q
    exact ⟨as ++ bs, .cons h1 h3, fun m => (List.mem_append.mp m).elim h2 h4⟩
theorem call_reprT (hg : X.A.guards = some []) (hu : X.A.units + 64 < cLine) : CallR X (.builtin "repr") (rReprT X.K) := by
  intro pins s σ H xs us Q I r h
  obtain ⟨a, ys, ps, rfl, hr, hi, hs, hp, hz, q⟩ := h
  obtain ⟨u, rfl, rx⟩ := vals1 r
  cases rx
  obtain ⟨its, rv, ⟨o, ho, hc, n, hd⟩, _⟩ := I.tuple hr
  obtain ⟨as, h1, h2⟩ := itps_read I hi rv
  have rd : Reads s.heap (.ref a) (.tuple ps) as := .tuple ho hc hd (by simpa using h1)
  exact repr_of_reads' rd hs (fun _ => h2) hg (by omega) (fun _ _ e => e) (fun h' u tk k => ⟨.str _, H, I.kept k, ⟨_, rfl⟩, q⟩) hz
end
def opReprT : List D → Option D
  | [.node _ .tup xs] => match dItemsP xs with
    | some ps => if PyData.showable (.tuple ps) = true ∧ PyData.depth (.tuple ps) ≤ 60 ∧ (PyData.shown (.tuple ps)).length ≤ cap then some (.str (PyData.shown (.tuple ps))) else none
    | none => none
  | _ => none
theorem snd_reprT : Snd X (rReprT X.K) opReprT := by
  refine snd_pure fun Z H S ds vs d Q w rb e k => ?_
  unfold opReprT at e
  split at e
  · rename_i o xs
    split at e
    · rename_i ps hps
      split at e
      · rename_i c
        obtain ⟨c1, c2, c3⟩ := c
        obtain ⟨v, rfl, rv⟩ := rb1 rb
        cases e
        obtain ⟨a, ys, rfl, c, rl⟩ := rep_tup w.same rv
        exact ⟨a, ys, ps, rfl, c, dItemsP_ok w.same hps rl, c1, c2, cap_le c3, k _ rfl⟩
      · cases e
    · cases e
  · cases e
/-- repr of everything -/
def opReprA : List D → Option D
  | [.node o (.dct ks) xs] => match fltL xs with
    | some vs => if ks.length = vs.length ∧ PyData.showable (dctP ks vs) = true ∧ PyData.depth (dctP ks vs) ≤ 60 ∧ (PyData.shown (dctP ks vs)).length ≤ cap then some (.str (PyData.shown (dctP ks vs))) else none
    | none => none
  | [.node o .tup xs] => if xs.any isDct = true then opReprT [.node o .tup xs] else opRepr [.node o .tup xs]
  | ds => opRepr ds
def rReprA (K : PySem.W.Frag) : List V → Hp → VK → Prop := fun xs H Q => rRepr K xs H Q ∨ rReprD xs H Q ∨ rReprT K xs H Q
theorem call_reprB (hg : X.A.guards = some []) (hu : X.A.units + 64 < cLine) : CallR X (.builtin "repr") (rReprA X.K) := by
  intro pins s σ H xs us Q I r h
  rcases h with h | h | h
  · exact call_reprA hg hu pins s σ H xs us Q I r h
  · exact call_reprD hg hu pins s σ H xs us Q I r h
  · exact call_reprT hg hu pins s σ H xs us Q I r h
theorem snd_reprA : Snd X (rReprA X.K) opReprA := by
  intro Z H S ds vs d Q w rb e k
  unfold opReprA at e
  split at e
  · rename_i o ks xs
    split at e
    · rename_i vs' hv
      split at e
      · rename_i c
        obtain ⟨c1, c2, c3, c4⟩ := c
        obtain ⟨v, rfl, rv⟩ := rb1 rb
        cases e
        have hh : ∃ a, v = .ref a ∧ H a = some (.dK (ks.zip vs')) ∧ vs'.all flatV = true := by
          cases o with
          | false =>
            obtain ⟨a, ys, rfl, c, rl⟩ := rv
            obtain ⟨e1, f1⟩ := fltL_ok hv rl
            subst e1
            exact ⟨a, rfl, w.same.get _ _ c.2 nt_dK, f1⟩
          | true =>
            obtain ⟨a, ys, S', rfl, c, sa, na, sub, rl⟩ := rv
            obtain ⟨e1, f1⟩ := fltL_ok hv rl
            subst e1
            exact ⟨a, rfl, c.2, f1⟩
        obtain ⟨a, rfl, ha, hf⟩ := hh
        refine .inr (.inl ⟨a, ks.zip vs', rfl, .inl ha, zip_all _ _ hf, c2, c3, cap_le c4, k _ _ _ Fp0 w.nil (Same.refl H) (fun _ _ x => x) rfl⟩)
      · cases e
    · cases e
  · split at e
    · exact .inr (.inr (snd_reprT Z H S _ vs d Q w rb e k))
    · exact .inl (snd_repr Z H S _ vs d Q w rb e k)
  · exact .inl (snd_repr Z H S ds vs d Q w rb e k)
end
end Pm
/-! PmS: the functions that every law has: the pen and what is drawn with it. -/
namespace Pm
open PySem PySem.Spec PyProof.Rows L2
noncomputable def penS : FSem := mkF 1 1 [] (rtn (disp true .lst (aCons (app opList (aCons (cut (loc 0) none (some (con (.int 63)))) aNil)) (aCons (con (.int 0)) (aCons (con (.int 0)) aNil)))))
noncomputable def drawB : M Fl := (seq (ite (tst (bin (on2I iGt) (idx (aCons (loc 0) (aCons (con (.int 2)) aNil))) (con (.int 0)))) (seq (asg (bin (on2I iMod) (idx (aCons (loc 0) (aCons (con (.int 2)) aNil))) (loc 1)) (gN 2))
    (seq (asg (bin (on2I iDiv) (idx (aCons (loc 0) (aCons (con (.int 2)) aNil))) (loc 1)) (gI 0 (con (.int 2))))
    (rtn (mov 2)))) sNx)
    (seq (asg (idx (aCons (loc 0) (aCons (con (.int 1)) aNil))) (gN 3))
    (seq (asg (bin (on2I iAdd) (loc 3) (con (.int 1))) (gI 0 (con (.int 1))))
    (seq (asg (bin (on2I iAdd) (bin (on2I iMul) (con (.int 52363)) (loc 3)) (con (.int 71))) (gN 4))
    (seq (ite (tst (bin opNe (idx (aCons (loc 0) (aCons (con (.int 0)) aNil))) (disp true .lst aNil))) (asg (idx (aCons (idx (aCons (loc 0) (aCons (con (.int 0)) aNil))) (aCons (bin (on2I iMod) (loc 3) (app opLen (aCons (idx (aCons (loc 0) (aCons (con (.int 0)) aNil))) aNil))) aNil))) (gN 4)) sNx)
    (seq (ite (andT (tst (bin (on2I iLt) (loc 3) (app opLen (aCons (idx (aCons (loc 0) (aCons (con (.int 0)) aNil))) aNil)))) (tst (bin (on2I iGe) (app opAbs (aCons (loc 4) aNil)) (bin (on2I iPow) (con (.int 10)) (con (.int 18)))))) (seq (asg (bin (on2I iAdd) (bin (on2I iMul) (con (.int 2)) (app opAbs (aCons (loc 4) aNil))) (app opInt1 (aCons (bin (on2I iLt) (loc 4) (con (.int 0))) aNil))) (gN 5))
    (seq (asg (bin (on2I iDiv) (loc 5) (loc 1)) (gI 0 (con (.int 2))))
    (rtn (bin (on2I iMod) (loc 5) (loc 1))))) sNx)
    (seq (asg (bin (on2I iMod) (bin (on2I iPow) (bin (on2I iAdd) (bin (on2I iAdd) (bin (on2I iMod) (loc 4) (con (.int 2147483563))) (bin (on2I iMul) (con (.int 60041)) (loc 3))) (con (.int 29))) (con (.int 5))) (con (.int 2147483629))) (gN 6))
    (seq (asg (bin (on2I iMod) (bin (on2I iPow) (bin (on2I iAdd) (bin (on2I iMul) (loc 6) (bin (on2I iAdd) (bin (on2I iMul) (con (.int 2)) (loc 3)) (con (.int 11)))) (con (.int 80039))) (con (.int 3))) (con (.int 2147483587))) (gN 6))
    (rtn (bin (on2I iMod) (bin (on2I iDiv) (loc 6) (con (.int 16))) (loc 1)))))))))))
noncomputable def drawS : FSem := mkF 2 7 [] drawB

/-! ### how expressions come out -/
/-- f comes out at ρ with the value e and leaves ρ' -/
theorem seq_ok {a b : M Fl} {ρ ρ' : Env} (h : a ρ = .ok .nx ρ') : seq a b ρ = b ρ' := by unfold seq bnd; rw [h]
theorem seq_rt {a b : M Fl} {ρ ρ' : Env} {d : D} (h : a ρ = .ok (.rt d) ρ') : seq a b ρ = .ok (.rt d) ρ' := by unfold seq bnd; rw [h]; rfl
theorem ite_T {c : M Bool} {a b : M Fl} {ρ ρ' : Env} (h : c ρ = .ok true ρ') : ite c a b ρ = a ρ' := by unfold ite bnd; rw [h]; rfl
theorem ite_F {c : M Bool} {a b : M Fl} {ρ ρ' : Env} (h : c ρ = .ok false ρ') : ite c a b ρ = b ρ' := by unfold ite bnd; rw [h]; rfl
theorem shp_ints (n : Nat) : ∀ ns : List Int, (ns.map D.int).all (shp n) = true
  | [] => rfl
  | x :: ns => by
    rw [List.map_cons, List.all_cons, shp_ints n ns]
    cases n <;> rfl
theorem plain_ints : ∀ ns : List Int, plainL (ns.map D.int) = true
  | [] => rfl
  | x :: ns => by rw [List.map_cons, plainL, plain_ints ns]; rfl
theorem frz_ints : ∀ ns : List Int, frzL (ns.map D.int) = ns.map D.int
  | [] => rfl
  | x :: ns => by rw [List.map_cons, frzL, frz_ints ns]; rfl
theorem neNil (b c : Bool) (ns : List Int) : opNe [.node b .lst (ns.map D.int), .node c .lst []] = some (.bl (decide (ns ≠ []))) := by
  have h1 : shp 60 (.node b .lst (ns.map D.int)) = true := by
    show (ns.map D.int).all (shp 59) = true
    exact shp_ints 59 ns
  have h2 : shp 60 (.node c .lst []) = true := rfl
  show (if (shp 60 (.node b .lst (ns.map D.int)) && shp 60 (.node c .lst [])) = true then some (D.bl !deq (.node b .lst (ns.map D.int)) (.node c .lst [])) else none) = _
  rw [h1, h2]
  cases ns <;> rfl
/-- the pen: the cells, the place, what is left -/
def Pen (ns : List Int) (a : Int) (d : D) : Prop := ∃ (b : Bool) (at' left : Int), d = .node true .lst [.node b .lst (ns.map D.int), .int at', .int left] ∧ 0 ≤ at' ∧ at' ≤ a ∧ 0 ≤ left
theorem Pen.mono {ns : List Int} {a a' : Int} {d : D} (h : Pen ns a d) (l : a ≤ a') : Pen ns a' d := by
  obtain ⟨b, p, q, e, h1, h2, h3⟩ := h
  exact ⟨b, p, q, e, h1, by omega, h3⟩
theorem draw_left {c : D} {p left m : Int} (h0 : 0 < left) (hm : 0 < m) (hd : divOk m = true) : drawS [.node true .lst [c, .int p, .int left], .int m] = .ret (.int (left % m)) [.node true .lst [c, .int p, .int (left / m)], .int m] := by
  simp [drawS, drawB, mkF, reFrz, seq, ite, rtn, mov, asg, drp, sNx, bnd, bin, un, app, aCons, aNil, idx, loc, con, ret, peek1, peeks, itemOf, on2I, iAdd, iSub, iGt, iGe, iLt, iLe, iDiv, iMod, use1, useL, gI, gN, tst, andT, orT, notT, andE, orE, notE, ifE, ixN, D.frz, D.plain, plainL, argsBack, opLen, opAbs, opInt1, opNeg, disp, cap, callF, takes, puts, selA, sel, aApp, par, gT, gsC, gs0, appF, opDivmod, hm, hd, h0]
theorem mulOkL {i j : Int} (h : i.natAbs < 2 ^ 64) : mulOk i j = true := decide_eq_true (.inl h)
theorem mulOkR {i j : Int} (h : j.natAbs < 2 ^ 64) : mulOk i j = true := decide_eq_true (.inr (.inl h))
theorem mulL {i j : Int} (h : i.natAbs < 2 ^ 64) : iMul i j = some (.int (i * j)) := by unfold iMul; rw [mulOkL h]; rfl
theorem mulR {i j : Int} (h : j.natAbs < 2 ^ 64) : iMul i j = some (.int (i * j)) := by unfold iMul; rw [mulOkR h]; rfl
theorem powN {i : Int} {j : Nat} (h : i.natAbs < 2 ^ 64) (hj : j ≤ 1000000) : iPow i (j : Int) = some (.int (i ^ j)) := by
  unfold iPow
  rw [if_pos]
  · rw [Int.toNat_natCast]
  · exact decide_eq_true ⟨by omega, by omega, h⟩
def mixA (cell p : Int) : Int := (cell % 2147483563 + 60041 * p + 29) ^ 5 % 2147483629
def mixV (cell p : Int) : Int := (mixA cell p * (2 * p + 11) + 80039) ^ 3 % 2147483587
theorem mixA_lt (cell p : Int) : 0 ≤ mixA cell p ∧ mixA cell p < 2147483629 := ⟨Int.emod_nonneg _ (by decide), Int.emod_lt_of_pos _ (by decide)⟩
theorem pow5 {cell p : Int} (h : 0 ≤ p) (hp : p ≤ 1000000) : iPow (cell % 2147483563 + 60041 * p + 29) 5 = some (.int ((cell % 2147483563 + 60041 * p + 29) ^ 5)) := by
  have h1 := Int.emod_nonneg cell (show (2147483563 : Int) ≠ 0 by decide)
  have h2 := Int.emod_lt_of_pos cell (show (0 : Int) < 2147483563 by decide)
  exact powN (j := 5) (by omega) (by decide)
theorem pow3 {cell p : Int} (h : 0 ≤ p) (hp : p ≤ 1000000) : iPow (mixA cell p * (2 * p + 11) + 80039) 3 = some (.int ((mixA cell p * (2 * p + 11) + 80039) ^ 3)) := by
  obtain ⟨h1, h2⟩ := mixA_lt cell p
  have h3 : mixA cell p * (2 * p + 11) ≤ 2147483629 * 2000011 := Int.mul_le_mul (by omega) (by omega) (by omega) (by decide)
  have h4 : 0 ≤ mixA cell p * (2 * p + 11) := Int.mul_nonneg h1 (by omega)
  exact powN (j := 3) (by omega) (by decide)
theorem pow10_18 : iPow 10 18 = some (.int 1000000000000000000) := rfl
theorem pow10_7 : iPow 10 7 = some (.int 10000000) := rfl
theorem draw_nil {b : Bool} {p left m : Int} (h0 : ¬ 0 < left) (hm : 0 < m) (hd : divOk m = true) (hp : 0 ≤ p) (hp2 : p ≤ 1000000) :
    drawS [.node true .lst [.node b .lst [], .int p, .int left], .int m] = .ret (.int (mixV (52363 * p + 71) p / 16 % m)) [.node true .lst [.node false .lst [], .int (p + 1), .int left], .int m] := by
  have e1 := pow5 (cell := 52363 * p + 71) hp hp2
  have e2 := pow3 (cell := 52363 * p + 71) hp hp2
  have e3 : iMul 52363 p = some (.int (52363 * p)) := mulL (by decide)
  have e4 : iMul 60041 p = some (.int (60041 * p)) := mulL (by decide)
  have e5 : iMul 2 p = some (.int (2 * p)) := mulL (by decide)
  have e6 : iMul (mixA (52363 * p + 71) p) (2 * p + 11) = some (.int (mixA (52363 * p + 71) p * (2 * p + 11))) := mulR (by omega)
  have e7 : opNe [.node false .lst [], .node true .lst []] = some (.bl false) := rfl
  have e8 : divOk 16 = true := by decide
  have h1 : ¬ p < 0 := by omega
  simp only [mixA] at e2 e6
  cases b <;> simp [drawS, drawB, mkF, reFrz, seq, ite, rtn, mov, asg, drp, sNx, bnd, bin, un, app, aCons, aNil, idx, loc, con, ret, peek1, peeks, itemOf, on2I, iAdd, iSub, iGt, iGe, iLt, iLe, iDiv, iMod, use1, useL, gI, gN, tst, andT, orT, notT, andE, orE, notE, ifE, ixN, D.frz, D.plain, plainL, argsBack, opLen, opAbs, opInt1, opNeg, disp, cap, callF, takes, puts, selA, sel, aApp, par, gT, gsC, gs0, appF, opDivmod, hm, hd, h0, e1, e2, e3, e4, e5, e6, e7, e8, h1, frzL, mixV, mixA, pow10_18]
theorem draw_small {ns : List Int} {c : Int} {b : Bool} {p left m : Int} (h0 : ¬ 0 < left) (hm : 0 < m) (hd : divOk m = true) (hp : 0 ≤ p) (hp2 : p ≤ 1000000) (hn : ns ≠ []) (hl : ns.length ≤ 63) (hc : atI (ns.map D.int) (p % (ns.length : Int)) = some (.int c))
    (hs : ¬ (p < (ns.length : Int) ∧ 1000000000000000000 ≤ (if c < 0 then -c else c))) :
    drawS [.node true .lst [.node b .lst (ns.map D.int), .int p, .int left], .int m] = .ret (.int (mixV c p / 16 % m)) [.node true .lst [.node false .lst (ns.map D.int), .int (p + 1), .int left], .int m] := by
  have e1 := pow5 (cell := c) hp hp2
  have e2 := pow3 (cell := c) hp hp2
  have e3 : iMul 52363 p = some (.int (52363 * p)) := mulL (by decide)
  have e4 : iMul 60041 p = some (.int (60041 * p)) := mulL (by decide)
  have e5 : iMul 2 p = some (.int (2 * p)) := mulL (by decide)
  have e6 : iMul (mixA c p) (2 * p + 11) = some (.int (mixA c p * (2 * p + 11))) := mulR (by omega)
  have e7 : opNe [.node false .lst (ns.map D.int), .node true .lst []] = some (.bl true) := by rw [neNil, decide_eq_true hn]
  have e8 : divOk 16 = true := by decide
  have h1 : 0 < ns.length := List.length_pos_iff.mpr hn
  have h2 : ns.length ≤ 1000000 := by omega
  have pl := plain_ints ns
  have fz := frz_ints ns
  simp only [mixA] at e2 e6
  by_cases q : p < (ns.length : Int)
  · have q2 : ¬ 1000000000000000000 ≤ (if c < 0 then -c else c) := fun z => hs ⟨q, z⟩
    cases b <;> simp [drawS, drawB, mkF, reFrz, seq, ite, rtn, mov, asg, drp, sNx, bnd, bin, un, app, aCons, aNil, idx, loc, con, ret, peek1, peeks, itemOf, on2I, iAdd, iSub, iGt, iGe, iLt, iLe, iDiv, iMod, use1, useL, gI, gN, tst, andT, orT, notT, andE, orE, notE, ifE, ixN, D.frz, D.plain, plainL, argsBack, opLen, opAbs, opInt1, opNeg, disp, cap, callF, takes, puts, selA, sel, aApp, par, gT, gsC, gs0, appF, opDivmod, hm, hd, h0, e1, e2, e3, e4, e5, e6, e7, e8, h1, h2, pl, fz, hc, q, q2, mixV, mixA, pow10_18]
  · cases b <;> simp [drawS, drawB, mkF, reFrz, seq, ite, rtn, mov, asg, drp, sNx, bnd, bin, un, app, aCons, aNil, idx, loc, con, ret, peek1, peeks, itemOf, on2I, iAdd, iSub, iGt, iGe, iLt, iLe, iDiv, iMod, use1, useL, gI, gN, tst, andT, orT, notT, andE, orE, notE, ifE, ixN, D.frz, D.plain, plainL, argsBack, opLen, opAbs, opInt1, opNeg, disp, cap, callF, takes, puts, selA, sel, aApp, par, gT, gsC, gs0, appF, opDivmod, hm, hd, h0, e1, e2, e3, e4, e5, e6, e7, e8, h1, h2, pl, fz, hc, q, mixV, mixA, pow10_18]
theorem draw_great {ns : List Int} {c : Int} {b : Bool} {p left m : Int} (h0 : ¬ 0 < left) (hm : 0 < m) (hd : divOk m = true) (hp : 0 ≤ p) (hp2 : p ≤ 1000000) (hn : ns ≠ []) (hl : ns.length ≤ 63) (hc : atI (ns.map D.int) (p % (ns.length : Int)) = some (.int c))
    (q : p < (ns.length : Int)) (q2 : 1000000000000000000 ≤ (if c < 0 then -c else c)) :
    ∃ g : Int, 0 ≤ g ∧ drawS [.node true .lst [.node b .lst (ns.map D.int), .int p, .int left], .int m] = .ret (.int (g % m)) [.node true .lst [.node false .lst (ns.map D.int), .int (p + 1), .int (g / m)], .int m] := by
  have e3 : iMul 52363 p = some (.int (52363 * p)) := mulL (by decide)
  have e7 : opNe [.node false .lst (ns.map D.int), .node true .lst []] = some (.bl true) := by rw [neNil, decide_eq_true hn]
  have h1 : 0 < ns.length := List.length_pos_iff.mpr hn
  have h2 : ns.length ≤ 1000000 := by omega
  have pl := plain_ints ns
  have fz := frz_ints ns
  refine ⟨2 * (if c < 0 then -c else c) + (if c < 0 then 1 else 0), by split <;> omega, ?_⟩
  have e4 : iMul 2 (if c < 0 then -c else c) = some (.int (2 * (if c < 0 then -c else c))) := mulL (by decide)
  by_cases hc0 : c < 0
  · rw [if_pos hc0] at q2 e4
    cases b <;> simp [drawS, drawB, mkF, reFrz, seq, ite, rtn, mov, asg, drp, sNx, bnd, bin, un, app, aCons, aNil, idx, loc, con, ret, peek1, peeks, itemOf, on2I, iAdd, iSub, iGt, iGe, iLt, iLe, iDiv, iMod, use1, useL, gI, gN, tst, andT, orT, notT, andE, orE, notE, ifE, ixN, D.frz, D.plain, plainL, argsBack, opLen, opAbs, opInt1, opNeg, disp, cap, callF, takes, puts, selA, sel, aApp, par, gT, gsC, gs0, appF, opDivmod, hm, hd, h0, e3, e4, e7, h1, h2, pl, fz, hc, q, q2, hc0, pow10_18]
  · rw [if_neg hc0] at q2 e4
    cases b <;> simp [drawS, drawB, mkF, reFrz, seq, ite, rtn, mov, asg, drp, sNx, bnd, bin, un, app, aCons, aNil, idx, loc, con, ret, peek1, peeks, itemOf, on2I, iAdd, iSub, iGt, iGe, iLt, iLe, iDiv, iMod, use1, useL, gI, gN, tst, andT, orT, notT, andE, orE, notE, ifE, ixN, D.frz, D.plain, plainL, argsBack, opLen, opAbs, opInt1, opNeg, disp, cap, callF, takes, puts, selA, sel, aApp, par, gT, gsC, gs0, appF, opDivmod, hm, hd, h0, e3, e4, e7, h1, h2, pl, fz, hc, q, q2, hc0, pow10_18]
theorem at_ints {ns : List Int} {p : Int} (hp : 0 ≤ p) (hn : ns ≠ []) : ∃ c, atI (ns.map D.int) (p % (ns.length : Int)) = some (.int c) := by
  have h1 : 0 < ns.length := List.length_pos_iff.mpr hn
  have h2 := Int.emod_nonneg p (show (ns.length : Int) ≠ 0 by omega)
  have h3 := Int.emod_lt_of_pos p (show (0 : Int) < ns.length by omega)
  have hi : (p % (ns.length : Int)).toNat < ns.length := by omega
  refine ⟨ns[(p % (ns.length : Int)).toNat], ?_⟩
  unfold atI ixN
  rw [List.length_map, if_pos h2, if_pos h3]
  simp [List.getElem?_map, List.getElem?_eq_getElem hi]
/-- what a draw is -/
theorem draw_ok {ns : List Int} {d : D} {a m : Int} (hl : ns.length ≤ 63) (h : Pen ns a d) (ha : a ≤ 1000000) (hm : 0 < m) (hd : divOk m = true) : ∃ (r : Int) (d' : D), drawS [d, .int m] = .ret (.int r) [d', .int m] ∧ 0 ≤ r ∧ r < m ∧ Pen ns (a + 1) d' := by
  obtain ⟨b, p, left, rfl, hp, hpa, hl0⟩ := h
  have rng : ∀ x : Int, 0 ≤ x % m ∧ x % m < m := fun x => ⟨Int.emod_nonneg x (by omega), Int.emod_lt_of_pos x hm⟩
  by_cases h0 : 0 < left
  · exact ⟨_, _, draw_left h0 hm hd, (rng _).1, (rng _).2, b, _, _, rfl, by omega, by omega, Int.ediv_nonneg hl0 (by omega)⟩
  · by_cases hn : ns = []
    · subst hn
      exact ⟨_, _, draw_nil h0 hm hd hp (by omega), (rng _).1, (rng _).2, false, _, _, rfl, by omega, by omega, hl0⟩
    · obtain ⟨c, hc⟩ := at_ints hp hn
      by_cases hs : p < (ns.length : Int) ∧ 1000000000000000000 ≤ (if c < 0 then -c else c)
      · obtain ⟨g, hg, e⟩ := draw_great (b := b) h0 hm hd hp (by omega) hn hl hc hs.1 hs.2
        exact ⟨_, _, e, (rng _).1, (rng _).2, false, _, _, rfl, by omega, by omega, Int.ediv_nonneg hg (by omega)⟩
      · exact ⟨_, _, draw_small h0 hm hd hp (by omega) hn hl hc hs, (rng _).1, (rng _).2, false, _, _, rfl, by omega, by omega, hl0⟩
end Pm
/-! PmT: loops, the pen, numbers below a bound. -/
namespace Pm
open PySem PySem.Spec PyProof.Rows L2
/-! ### loops -/
theorem whl_T {c : M Bool} {b : M Fl} {ρ ρ1 ρ2 : Env} (h : c ρ = .ok true ρ1) (h2 : b ρ1 = .ok .nx ρ2) : whl c b ρ = whl c b ρ2 := by rw [whl_eq, h]; simp only [h2]
theorem whl_C {c : M Bool} {b : M Fl} {ρ ρ1 ρ2 : Env} (h : c ρ = .ok true ρ1) (h2 : b ρ1 = .ok .ct ρ2) : whl c b ρ = whl c b ρ2 := by rw [whl_eq, h]; simp only [h2]
theorem whl_F {c : M Bool} {b : M Fl} {ρ ρ1 : Env} (h : c ρ = .ok false ρ1) : whl c b ρ = .ok .nx ρ1 := by rw [whl_eq, h]
theorem forIt_ok {g : Tg} {b : M Fl} : ∀ {ds : List D} (I : Nat → Env → Prop), (∀ (j : Nat) (d : D) (ρ : Env), ds[j]? = some d → I j ρ → ∃ ρ1 ρ2, g d ρ = .ok () ρ1 ∧ (b ρ1 = .ok .nx ρ2 ∨ b ρ1 = .ok .ct ρ2) ∧ I (j + 1) ρ2) → ∀ ρ, I 0 ρ → ∃ ρ', forIt g b ds ρ = .ok .nx ρ' ∧ I ds.length ρ'
  | [], I, _, ρ, h => ⟨ρ, rfl, h⟩
  | d :: ds, I, f, ρ, h => by
    obtain ⟨ρ1, ρ2, e1, e2, h2⟩ := f 0 d ρ rfl h
    obtain ⟨ρ', e3, h3⟩ := forIt_ok (ds := ds) (fun j => I (j + 1)) (fun j d' ρ' hd hI => f (j + 1) d' ρ' (by simpa using hd) hI) ρ2 h2
    refine ⟨ρ', ?_, h3⟩
    unfold forIt
    rw [e1]
    rcases e2 with e2 | e2
    · simp only [bnd, e2]
      exact e3
    · simp only [bnd, e2]
      exact e3
theorem range_get {lo : Int} {n j : Nat} {d : D} (h : (rangeD lo n)[j]? = some d) : j < n ∧ d = .int (lo + (j : Int)) := by
  unfold rangeD at h
  rw [List.getElem?_map] at h
  by_cases hj : j < n
  · rw [List.getElem?_eq_getElem (by simpa using hj)] at h
    simp at h
    exact ⟨hj, h.symm⟩
  · rw [List.getElem?_eq_none (by simpa using Nat.le_of_not_lt hj)] at h
    cases h
theorem range_len {lo : Int} {n : Nat} : (rangeD lo n).length = n := by simp [rangeD]
/-! ### the pen -/
theorem pen_ok {ns : List Int} (hl : ns.length ≤ 63) : ∃ d, penS [.scr (ns.map D.int)] = .ret d [.scr (ns.map D.int)] ∧ Pen ns 0 d := by
  have e1 : gCut none (some 63) (.node false .scr (ns.map D.int)) = some (.lst true (ns.map D.int)) := by
    have h := HT.sIx_nat (ns.map D.int).length (ns.map D.int).length 63
    have h' : HT.sIx (ns.map D.int).length (ns.map D.int).length (some 63) = (ns.map D.int).length := by
      rw [show ((63 : Nat) : Int) = (63 : Int) from rfl] at h
      rw [h, List.length_map]
      omega
    show (if plainL (ns.map D.int) = true then some (D.lst true (cutD (ns.map D.int) none (some 63))) else none) = _
    rw [if_pos (plain_ints ns)]
    unfold cutD
    rw [h', HT.sIx_none, List.drop_zero, Nat.sub_zero, List.take_length]
  have pl := plain_ints ns
  refine ⟨_, ?_, true, 0, 0, rfl, by omega, by omega, by omega⟩
  simp [penS, mkF, reFrz, seq, ite, rtn, mov, asg, drp, sNx, bnd, bin, un, app, aCons, aNil, idx, loc, con, ret, peek1, peeks, itemOf, on2I, iAdd, iSub, iGt, iGe, iLt, iLe, iDiv, iMod, use1, useL, gI, gN, tst, andT, orT, notT, andE, orE, notE, ifE, ixN, D.frz, D.plain, plainL, argsBack, opLen, opAbs, opInt1, opNeg, disp, cap, callF, takes, puts, selA, sel, aApp, par, gT, gsC, gs0, appF, opDivmod, cut, e1, pl, opList]
noncomputable def belowB : M Fl := (seq (ite (tst (bin (on2I iLe) (loc 1) (bin (on2I iPow) (con (.int 10)) (con (.int 7))))) (rtn (callF drawS (aCons (loc 0) (aCons (loc 1) aNil)))) sNx)
    (seq (asg (con (.int 0)) (gN 2))
    (seq (asg (con (.int 1)) (gN 3))
    (seq (whl (tst (bin (on2I iLt) (loc 3) (loc 1))) (seq (asg (bin (on2I iAdd) (bin (on2I iMul) (loc 2) (bin (on2I iPow) (con (.int 10)) (con (.int 7)))) (callF drawS (aCons (loc 0) (aCons (bin (on2I iPow) (con (.int 10)) (con (.int 7))) aNil)))) (gN 2))
    (asg (bin (on2I iMul) (loc 3) (bin (on2I iPow) (con (.int 10)) (con (.int 7)))) (gN 3))))
    (rtn (bin (on2I iMod) (loc 2) (loc 1)))))))
noncomputable def belowS : FSem := mkF 2 4 [] belowB
theorem Pen.owned {ns : List Int} {a : Int} {d : D} (h : Pen ns a d) : ∃ xs, d = .node true .lst xs := by
  obtain ⟨b, p, q, e, _⟩ := h
  exact ⟨_, e⟩
theorem below_loop {ns : List Int} {m : Int} (hl : ns.length ≤ 63) : ∀ (k : Nat) (size found a : Int) (d : D), 0 < size → 0 ≤ found → m ≤ size * 10000000 ^ k → Pen ns a d → a + k ≤ 1000000 →
    ∃ (size' found' : Int) (d' : D), whl (tst (bin (on2I iLt) (loc 3) (loc 1))) (seq (asg (bin (on2I iAdd) (bin (on2I iMul) (loc 2) (bin (on2I iPow) (con (.int 10)) (con (.int 7)))) (callF drawS (aCons (loc 0) (aCons (bin (on2I iPow) (con (.int 10)) (con (.int 7))) aNil)))) (gN 2))
      (asg (bin (on2I iMul) (loc 3) (bin (on2I iPow) (con (.int 10)) (con (.int 7)))) (gN 3))) [some d, some (.int m), some (.int found), some (.int size)] = .ok .nx [some d', some (.int m), some (.int found'), some (.int size')] ∧ 0 ≤ found' ∧ Pen ns (a + k) d'
  | 0, size, found, a, d, hs, hf, hm, hp, ha => by
    refine ⟨size, found, d, ?_, hf, hp.mono (by omega)⟩
    have h : ¬ size < m := by omega
    exact whl_F (by simp [mkF, reFrz, seq, ite, rtn, mov, asg, drp, sNx, bnd, bin, un, app, aCons, aNil, idx, loc, con, ret, peek1, peeks, itemOf, on2I, iAdd, iSub, iGt, iGe, iLt, iLe, iDiv, iMod, use1, useL, gI, gN, tst, andT, orT, notT, andE, orE, notE, ifE, ixN, D.frz, D.plain, plainL, argsBack, opLen, opAbs, opInt1, opNeg, disp, cap, callF, takes, puts, selA, sel, aApp, par, gT, gsC, gs0, appF, opDivmod, h])
  | k + 1, size, found, a, d, hs, hf, hm, hp, ha => by
    by_cases h : size < m
    · obtain ⟨r, d', e, r0, r1, hp'⟩ := draw_ok hl hp (by omega) (show (0 : Int) < 10000000 by decide) (by decide)
      have e1 : iMul found 10000000 = some (.int (found * 10000000)) := mulR (by decide)
      have e2 : iMul size 10000000 = some (.int (size * 10000000)) := mulR (by decide)
      obtain ⟨xs, ed⟩ := hp.owned
      obtain ⟨xs', ed'⟩ := hp'.owned
      subst ed
      subst ed'
      obtain ⟨s', f', d2, e3, g1, g2⟩ := below_loop hl k (size * 10000000) (found * 10000000 + r) (a + 1) (.node true .lst xs') (by omega) (by omega) (by rw [Int.pow_succ] at hm; rw [Int.mul_assoc, Int.mul_comm 10000000 _]; exact hm) hp' (by omega)
      refine ⟨s', f', d2, ?_, g1, g2.mono (by omega)⟩
      rw [whl_T (ρ1 := [some (.node true .lst xs), some (.int m), some (.int found), some (.int size)]) (ρ2 := [some (.node true .lst xs'), some (.int m), some (.int (found * 10000000 + r)), some (.int (size * 10000000))]) (by simp [mkF, reFrz, seq, ite, rtn, mov, asg, drp, sNx, bnd, bin, un, app, aCons, aNil, idx, loc, con, ret, peek1, peeks, itemOf, on2I, iAdd, iSub, iGt, iGe, iLt, iLe, iDiv, iMod, use1, useL, gI, gN, tst, andT, orT, notT, andE, orE, notE, ifE, ixN, D.frz, D.plain, plainL, argsBack, opLen, opAbs, opInt1, opNeg, disp, cap, callF, takes, puts, selA, sel, aApp, par, gT, gsC, gs0, appF, opDivmod, h]) (by simp [mkF, reFrz, seq, ite, rtn, mov, asg, drp, sNx, bnd, bin, un, app, aCons, aNil, idx, loc, con, ret, peek1, peeks, itemOf, on2I, iAdd, iSub, iGt, iGe, iLt, iLe, iDiv, iMod, use1, useL, gI, gN, tst, andT, orT, notT, andE, orE, notE, ifE, ixN, D.frz, D.plain, plainL, argsBack, opLen, opAbs, opInt1, opNeg, disp, cap, callF, takes, puts, selA, sel, aApp, par, gT, gsC, gs0, appF, opDivmod, e, e1, e2, pow10_7])]
      exact e3
    · exact ⟨size, found, d, whl_F (by simp [mkF, reFrz, seq, ite, rtn, mov, asg, drp, sNx, bnd, bin, un, app, aCons, aNil, idx, loc, con, ret, peek1, peeks, itemOf, on2I, iAdd, iSub, iGt, iGe, iLt, iLe, iDiv, iMod, use1, useL, gI, gN, tst, andT, orT, notT, andE, orE, notE, ifE, ixN, D.frz, D.plain, plainL, argsBack, opLen, opAbs, opInt1, opNeg, disp, cap, callF, takes, puts, selA, sel, aApp, par, gT, gsC, gs0, appF, opDivmod, h]), hf, hp.mono (by omega)⟩
theorem below_ok {ns : List Int} {m a : Int} {d : D} (k : Nat) (hl : ns.length ≤ 63) (hp : Pen ns a d) (hm : 0 < m) (hd : divOk m = true) (hk : m ≤ 10000000 ^ k) (ha : a + k + 1 ≤ 1000000) : ∃ (r : Int) (d' : D), belowS [d, .int m] = .ret (.int r) [d', .int m] ∧ 0 ≤ r ∧ r < m ∧ Pen ns (a + k + 1) d' := by
  obtain ⟨xs, rfl⟩ := hp.owned
  by_cases h : m ≤ 10000000
  · obtain ⟨r, d', e, r0, r1, hp'⟩ := draw_ok hl hp (by omega) hm hd
    obtain ⟨xs', rfl⟩ := hp'.owned
    exact ⟨r, _, by simp [belowS, belowB, mkF, reFrz, seq, ite, rtn, mov, asg, drp, sNx, bnd, bin, un, app, aCons, aNil, idx, loc, con, ret, peek1, peeks, itemOf, on2I, iAdd, iSub, iGt, iGe, iLt, iLe, iDiv, iMod, use1, useL, gI, gN, tst, andT, orT, notT, andE, orE, notE, ifE, ixN, D.frz, D.plain, plainL, argsBack, opLen, opAbs, opInt1, opNeg, disp, cap, callF, takes, puts, selA, sel, aApp, par, gT, gsC, gs0, appF, opDivmod, h, e, pow10_7], r0, r1, hp'.mono (by omega)⟩
  · obtain ⟨s', f', d', e, f0, hp'⟩ := below_loop (m := m) hl k 1 0 a _ (by omega) (by omega) (by rw [Int.one_mul]; exact hk) hp (by omega)
    obtain ⟨xs', rfl⟩ := hp'.owned
    refine ⟨f' % m, _, ?_, Int.emod_nonneg _ (by omega), Int.emod_lt_of_pos _ hm, hp'.mono (by omega)⟩
    unfold belowS mkF
    rw [if_pos (by simp)]
    unfold belowB
    have s0 : ∀ b : M Fl, seq (ite (tst (bin (on2I iLe) (loc 1) (bin (on2I iPow) (con (.int 10)) (con (.int 7))))) (rtn (callF drawS (aCons (loc 0) (aCons (loc 1) aNil)))) sNx) b [some (.node true .lst xs), some (.int m), none, none] = b [some (.node true .lst xs), some (.int m), none, none] := fun b => seq_ok (by simp [mkF, reFrz, seq, ite, rtn, mov, asg, drp, sNx, bnd, bin, un, app, aCons, aNil, idx, loc, con, ret, peek1, peeks, itemOf, on2I, iAdd, iSub, iGt, iGe, iLt, iLe, iDiv, iMod, use1, useL, gI, gN, tst, andT, orT, notT, andE, orE, notE, ifE, ixN, D.frz, D.plain, plainL, argsBack, opLen, opAbs, opInt1, opNeg, disp, cap, callF, takes, puts, selA, sel, aApp, par, gT, gsC, gs0, appF, opDivmod, h, pow10_7])
    have s1 : ∀ b : M Fl, seq (asg (con (.int 0)) (gN 2)) b [some (.node true .lst xs), some (.int m), none, none] = b [some (.node true .lst xs), some (.int m), some (.int 0), none] := fun b => seq_ok (by simp [mkF, reFrz, seq, ite, rtn, mov, asg, drp, sNx, bnd, bin, un, app, aCons, aNil, idx, loc, con, ret, peek1, peeks, itemOf, on2I, iAdd, iSub, iGt, iGe, iLt, iLe, iDiv, iMod, use1, useL, gI, gN, tst, andT, orT, notT, andE, orE, notE, ifE, ixN, D.frz, D.plain, plainL, argsBack, opLen, opAbs, opInt1, opNeg, disp, cap, callF, takes, puts, selA, sel, aApp, par, gT, gsC, gs0, appF, opDivmod])
    have s2 : ∀ b : M Fl, seq (asg (con (.int 1)) (gN 3)) b [some (.node true .lst xs), some (.int m), some (.int 0), none] = b [some (.node true .lst xs), some (.int m), some (.int 0), some (.int 1)] := fun b => seq_ok (by simp [mkF, reFrz, seq, ite, rtn, mov, asg, drp, sNx, bnd, bin, un, app, aCons, aNil, idx, loc, con, ret, peek1, peeks, itemOf, on2I, iAdd, iSub, iGt, iGe, iLt, iLe, iDiv, iMod, use1, useL, gI, gN, tst, andT, orT, notT, andE, orE, notE, ifE, ixN, D.frz, D.plain, plainL, argsBack, opLen, opAbs, opInt1, opNeg, disp, cap, callF, takes, puts, selA, sel, aApp, par, gT, gsC, gs0, appF, opDivmod])
    show (match (seq _ _) [some (.node true .lst xs), some (.int m), none, none] with
      | .stuck => _
      | .ok (.rt d) ρ => _
      | .ok .nx ρ => _
      | .ok _ _ => _
      | .exc x ρ => _) = _
    rw [s0, s1, s2, seq_ok e]
    simp [mkF, reFrz, seq, ite, rtn, mov, asg, drp, sNx, bnd, bin, un, app, aCons, aNil, idx, loc, con, ret, peek1, peeks, itemOf, on2I, iAdd, iSub, iGt, iGe, iLt, iLe, iDiv, iMod, use1, useL, gI, gN, tst, andT, orT, notT, andE, orE, notE, ifE, ixN, D.frz, D.plain, plainL, argsBack, opLen, opAbs, opInt1, opNeg, disp, cap, callF, takes, puts, selA, sel, aApp, par, gT, gsC, gs0, appF, opDivmod, hm]
end Pm
/-! PmU: numbers of so many bits, comprehensions as maps. -/
namespace Pm
open PySem PySem.Spec PyProof.Rows L2
/-- of at most e bits -/
def Sm (e : Nat) (x : Int) : Prop := x.natAbs < 2 ^ e
theorem Sm.mono {e f : Nat} {x : Int} (h : Sm e x) (l : e ≤ f) : Sm f x := Nat.lt_of_lt_of_le h (Nat.pow_le_pow_right (by decide) l)
theorem Sm.mul {e f : Nat} {x y : Int} (h : Sm e x) (k : Sm f y) : Sm (e + f) (x * y) := by
  unfold Sm at *
  rw [Int.natAbs_mul, Nat.pow_add]
  exact Nat.mul_lt_mul'' h k
theorem Sm.add {e : Nat} {x y : Int} (h : Sm e x) (k : Sm e y) : Sm (e + 1) (x + y) := by
  unfold Sm at *
  have := Int.natAbs_add_le x y
  rw [Nat.pow_succ]
  omega
theorem Sm.neg {e : Nat} {x : Int} (h : Sm e x) : Sm e (-x) := by unfold Sm at *; rw [Int.natAbs_neg]; exact h
theorem Sm.sub {e : Nat} {x y : Int} (h : Sm e x) (k : Sm e y) : Sm (e + 1) (x - y) := by rw [Int.sub_eq_add_neg]; exact h.add k.neg
theorem Sm.between {e : Nat} {x y : Int} (h : Sm e y) (h0 : 0 ≤ x) (h1 : x ≤ y) : Sm e x := by unfold Sm at *; omega
theorem Sm.div {e : Nat} {x m : Int} (h : Sm e x) : Sm e (x / m) := by
  unfold Sm at *
  exact Nat.lt_of_le_of_lt (Int.natAbs_ediv_le_natAbs x m) h
theorem Sm.mod {e : Nat} {x m : Int} (h : Sm e m) (hm : 0 < m) : Sm e (x % m) := h.between (Int.emod_nonneg _ (by omega)) (Int.le_of_lt (Int.emod_lt_of_pos _ hm))
theorem Sm.mulOk {e f : Nat} {x y : Int} (h : Sm e x) (k : Sm f y) (he : 0 < e) (hf : 0 < f) (l : e + f ≤ 1000000) : iMul x y = some (.int (x * y)) := by
  have q : Pm.mulOk x y = true := decide_eq_true (.inr (.inr (wide_mul h k he hf l)))
  unfold iMul
  rw [q]
  rfl
theorem Sm.divOk {e : Nat} {x : Int} (h : Sm e x) (l : e ≤ 9000) : divOk x = true := by
  refine decide_eq_true ?_
  by_cases hx : x.natAbs = 0
  · rw [hx]; decide
  · exact (Nat.log2_lt hx).mpr (h.mono l)
theorem Sm.shw {e : Nat} {x : Int} (h : Sm e x) (l : e ≤ 1900) (n : Nat) : shw n (.int x) = true := by
  have : x.natAbs.log2 < 1900 := by
    by_cases hx : x.natAbs = 0
    · rw [hx]; decide
    · exact (Nat.log2_lt hx).mpr (h.mono l)
  cases n <;> exact decide_eq_true this
theorem repr_int {e : Nat} {x : Int} (h : Sm e x) (l : e ≤ 1900) : opRepr [.int x] = some (.str (reprD (.int x))) := by
  show (if shw 60 (.int x) = true then some (D.str (reprD (.int x))) else none) = _
  rw [if_pos (h.shw l 60)]
theorem ne_int (x y : Int) : opNe [.int x, .int y] = some (.bl (!(x == y))) := rfl
theorem eq_int' (x y : Int) : opEq [.int x, .int y] = some (.bl (x == y)) := rfl
/-- a comprehension that keeps every item -/
theorem compIt_map {own : List Nat} {g : Tg} {c : M Bool} {e : M EV} {ρ : Env} (v : D → D) : ∀ (ds acc : List D), (∀ d ∈ ds, ∃ ρ1 ρ2 ρ3 ρ4 ev, g d ρ = .ok () ρ1 ∧ c ρ1 = .ok true ρ2 ∧ e ρ2 = .ok ev ρ3 ∧ use1 ev ρ3 = .ok (v d) ρ4 ∧ wipeE ρ4 own = ρ) → acc.length + ds.length ≤ cap →
    compIt own g c e ds ρ acc = .ok (acc ++ ds.map v) ρ
  | [], acc, _, _ => by unfold compIt; rw [List.map_nil, List.append_nil]
  | d :: ds, acc, h, hl => by
    obtain ⟨ρ1, ρ2, ρ3, ρ4, ev, e1, e2, e3, e4, e5⟩ := h d List.mem_cons_self
    have hl' : acc.length < cap := by rw [List.length_cons] at hl; omega
    unfold compIt
    simp only [e1, e2, e3, e4, if_pos hl', e5]
    rw [compIt_map v ds (acc ++ [v d]) (fun d' hd => h d' (List.mem_cons_of_mem _ hd)) (by rw [List.length_append, List.length_singleton]; rw [List.length_cons] at hl; omega), List.map_cons, List.append_assoc]
    rfl
theorem sum_ints (b : Bool) (l : List Int) : opSum [.node b .lst (l.map D.int)] = some (.int l.sum) := by
  unfold opSum
  simp only [intsD_map]
theorem comp_of {own : List Nat} {s : M (List D)} {g : Tg} {c : M Bool} {e : M EV} {ρ ρ1 ρ2 : Env} {ds acc : List D} (hs : s ρ = .ok ds ρ1) (hc : compIt own g c e ds (wipeE ρ1 own) [] = .ok acc ρ2) : comp own s g c e ρ = .ok (.val (.lst true acc)) (backE ρ1 ρ2 own) := by
  unfold comp bnd
  simp only [hs, hc]
theorem forS_of {s : M (List D)} {g : Tg} {b : M Fl} {ρ ρ1 : Env} {ds : List D} (hs : s ρ = .ok ds ρ1) : forS s g b ρ = forIt g b ds ρ1 := by
  unfold forS bnd
  simp only [hs]
theorem src_r1 {f : M (List EV)} {ρ ρ1 : Env} {es : List EV} {n : Nat} (h : f ρ = .ok es ρ1) (hp : peeks ρ1 es = some [.int n]) (hn : n ≤ 1000000) : srcR1 f ρ = .ok (rangeD 0 n) ρ1 := by
  have h62 : sm62 (n : Int) = true := sm62_of ⟨by omega, by omega⟩
  unfold srcR1 bnd
  simp only [h, hp, h62, if_true, Int.toNat_natCast]
theorem rtn_app1 {g : List D → Option D} {f : M EV} {ρ ρ1 : Env} {d d' : D} (h : f ρ = .ok (.val d) ρ1) (hg : g [d] = some d') : rtn (app g (aCons f aNil)) ρ = .ok (.rt d') ρ1 := by simp [mkF, reFrz, seq, Pm.ite, rtn, mov, asg, drp, sNx, bnd, Pm.bin, Pm.un, app, aCons, aNil, idx, loc, con, Pm.ret, peek1, peeks, itemOf, on2I, iAdd, iSub, iGt, iGe, iLt, iLe, iDiv, iMod, use1, useL, gI, gN, tst, andT, orT, notT, andE, orE, notE, ifE, ixN, D.frz, D.plain, plainL, argsBack, opLen, opAbs, opInt1, opNeg, disp, cap, callF, takes, puts, selA, sel, aApp, par, gT, gsC, gs0, appF, opDivmod, h, hg]
theorem mkF_rt {n m : Nat} {reb : List Nat} {b : M Fl} {ds as : List D} {d : D} {ρ : Env} (h : b ((reFrz reb 0 ds).map some ++ List.replicate (m - n) none) = .ok (.rt d) ρ) (ha : argsBack reb ρ 0 (reFrz reb 0 ds) = some as) (hl : ds.length = n ∧ n ≤ m := by exact ⟨rfl, by decide⟩) : mkF n m reb b ds = .ret d as := by
  unfold mkF
  rw [if_pos hl, h]
  simp only [ha]
end Pm
/-! PmW: what is drawn, for any numbers of the mixing (printed by mkdraw.py). -/
namespace Pm
open PySem PySem.Spec PyProof.Rows L2
structure DK where
  c1 : Int
  c2 : Int
  p1 : Int
  q1 : Int
  r1 : Int
  p2 : Int
  s : Int
  t : Int
  p3 : Int
def DK.ok (k : DK) : Prop := (0 < k.c1 ∧ k.c1 < 4294967296) ∧ (0 < k.c2 ∧ k.c2 < 4294967296) ∧ (0 < k.p1 ∧ k.p1 < 4294967296) ∧ (0 < k.q1 ∧ k.q1 < 1000000) ∧ (0 < k.r1 ∧ k.r1 < 4294967296) ∧ (0 < k.p2 ∧ k.p2 < 4294967296) ∧ (0 < k.s ∧ k.s < 1000000) ∧ (0 < k.t ∧ k.t < 1000000) ∧ 0 < k.p3
/-- what a draw is to a law: a number below the bound, the pen one place further -/
def Draws (S : FSem) : Prop := ∀ (ns : List Int) (d : D) (a m : Int), ns.length ≤ 63 → Pen ns a d → a ≤ 1000000 → 0 < m → divOk m = true → ∃ (r : Int) (d' : D), S [d, .int m] = .ret (.int r) [d', .int m] ∧ 0 ≤ r ∧ r < m ∧ Pen ns (a + 1) d'
def mxA (k : DK) (cell p : Int) : Int := (cell % k.p1 + k.q1 * p + k.r1) ^ 5 % k.p2
theorem mxA_lt {k : DK} (h : k.ok) (cell p : Int) : 0 ≤ mxA k cell p ∧ mxA k cell p < 4294967296 := by
  obtain ⟨_, _, _, _, _, h6, _⟩ := h
  exact ⟨Int.emod_nonneg _ (by omega), Int.lt_trans (Int.emod_lt_of_pos _ h6.1) h6.2⟩
theorem k_pow5 {k : DK} (h : k.ok) {cell p : Int} (hp0 : 0 ≤ p) (hp : p ≤ 1000000) : iPow (cell % k.p1 + k.q1 * p + k.r1) 5 = some (.int ((cell % k.p1 + k.q1 * p + k.r1) ^ 5)) := by
  obtain ⟨_, _, h3, h4, h5, _⟩ := h
  have h1 := Int.emod_nonneg cell (show k.p1 ≠ 0 by omega)
  have h2 := Int.emod_lt_of_pos cell h3.1
  have h6 : k.q1 * p ≤ 1000000 * 1000000 := Int.mul_le_mul (by omega) hp hp0 (by decide)
  have h7 : 0 ≤ k.q1 * p := Int.mul_nonneg (by omega) hp0
  exact powN (j := 5) (by omega) (by decide)

noncomputable def drawAB (k : DK) : M Fl := (seq (ite (tst (bin (on2I iGt) (idx (aCons (loc 0) (aCons (con (.int 2)) aNil))) (con (.int 0)))) (seq (asg (bin (on2I iMod) (idx (aCons (loc 0) (aCons (con (.int 2)) aNil))) (loc 1)) (gN 2))
    (seq (asg (bin (on2I iDiv) (idx (aCons (loc 0) (aCons (con (.int 2)) aNil))) (loc 1)) (gI 0 (con (.int 2))))
    (rtn (mov 2)))) sNx)
    (seq (asg (idx (aCons (loc 0) (aCons (con (.int 1)) aNil))) (gN 3))
    (seq (asg (bin (on2I iAdd) (loc 3) (con (.int 1))) (gI 0 (con (.int 1))))
    (seq (asg (bin (on2I iAdd) (bin (on2I iMul) (con (.int k.c1)) (loc 3)) (con (.int k.c2))) (gN 4))
    (seq (ite (tst (bin opNe (idx (aCons (loc 0) (aCons (con (.int 0)) aNil))) (disp true .lst aNil))) (asg (idx (aCons (idx (aCons (loc 0) (aCons (con (.int 0)) aNil))) (aCons (bin (on2I iMod) (loc 3) (app opLen (aCons (idx (aCons (loc 0) (aCons (con (.int 0)) aNil))) aNil))) aNil))) (gN 4)) sNx)
    (seq (ite (andT (tst (bin (on2I iLt) (loc 3) (app opLen (aCons (idx (aCons (loc 0) (aCons (con (.int 0)) aNil))) aNil)))) (tst (bin (on2I iGe) (app opAbs (aCons (loc 4) aNil)) (bin (on2I iPow) (con (.int 10)) (con (.int 18)))))) (seq (asg (bin (on2I iAdd) (bin (on2I iMul) (con (.int 2)) (app opAbs (aCons (loc 4) aNil))) (app opInt1 (aCons (bin (on2I iLt) (loc 4) (con (.int 0))) aNil))) (gN 5))
    (seq (asg (bin (on2I iDiv) (loc 5) (loc 1)) (gI 0 (con (.int 2))))
    (rtn (bin (on2I iMod) (loc 5) (loc 1))))) sNx)
    (seq (asg (bin (on2I iMod) (bin (on2I iPow) (bin (on2I iAdd) (bin (on2I iAdd) (bin (on2I iMod) (loc 4) (con (.int k.p1))) (bin (on2I iMul) (con (.int k.q1)) (loc 3))) (con (.int k.r1))) (con (.int 5))) (con (.int k.p2))) (gN 6))
    (seq (asg (bin (on2I iMod) (bin (on2I iPow) (bin (on2I iAdd) (bin (on2I iAdd) (bin (on2I iMul) (loc 6) (bin (on2I iAdd) (bin (on2I iMul) (con (.int 2)) (loc 3)) (con (.int k.s)))) (bin (on2I iMul) (bin (on2I iMul) (con (.int k.t)) (loc 3)) (loc 3))) (con (.int 7))) (con (.int 3))) (con (.int k.p3))) (gN 6))
    (rtn (bin (on2I iMod) (bin (on2I iDiv) (loc 6) (con (.int 16))) (loc 1)))))))))))
noncomputable def drawA (k : DK) : FSem := mkF 2 7 [] (drawAB k)
def mvA (k : DK) (cell p : Int) : Int := (mxA k cell p * (2 * p + k.s) + k.t * p * p + 7) ^ 3 % k.p3
theorem pw3A {k : DK} (h : k.ok) {cell p : Int} (hp0 : 0 ≤ p) (hp : p ≤ 1000000) : iPow (mxA k cell p * (2 * p + k.s) + k.t * p * p + 7) 3 = some (.int ((mxA k cell p * (2 * p + k.s) + k.t * p * p + 7) ^ 3)) := by
  obtain ⟨h1, h2⟩ := mxA_lt h cell p
  obtain ⟨_, _, _, _, _, _, h7, h8, _⟩ := h
  have h3 : mxA k cell p * (2 * p + k.s) ≤ 4294967296 * 3000000 := Int.mul_le_mul (by omega) (by omega) (by omega) (by decide)
  have h4 : 0 ≤ mxA k cell p * (2 * p + k.s) := Int.mul_nonneg h1 (by omega)
  have h5 : k.t * p ≤ 1000000 * 1000000 := Int.mul_le_mul (by omega) hp hp0 (by decide)
  have h6 : 0 ≤ k.t * p := Int.mul_nonneg (by omega) hp0
  have h9 : k.t * p * p ≤ 1000000 * 1000000 * 1000000 := Int.mul_le_mul h5 hp hp0 (by decide)
  have h10 : 0 ≤ k.t * p * p := Int.mul_nonneg h6 hp0
  exact powN (j := 3) (by omega) (by decide)
theorem drawA_left {k : DK} {c : D} {p left m : Int} (h0 : 0 < left) (hm : 0 < m) (hd : divOk m = true) : drawA k [.node true .lst [c, .int p, .int left], .int m] = .ret (.int (left % m)) [.node true .lst [c, .int p, .int (left / m)], .int m] := by
  simp [drawA, drawAB, mkF, reFrz, seq, Pm.ite, rtn, mov, asg, drp, sNx, bnd, Pm.bin, Pm.un, app, aCons, aNil, idx, loc, con, Pm.ret, peek1, peeks, itemOf, on2I, iAdd, iSub, iGt, iGe, iLt, iLe, iDiv, iMod, use1, useL, gI, gN, tst, andT, orT, notT, andE, orE, notE, ifE, ixN, D.frz, D.plain, plainL, argsBack, opLen, opAbs, opInt1, opNeg, disp, cap, callF, takes, puts, selA, sel, aApp, par, gT, gsC, gs0, appF, opDivmod, hm, hd, h0]
theorem drawA_small {k : DK} (hk : k.ok) {ns : List Int} {c : Int} {b : Bool} {p left m : Int} (h0 : ¬ 0 < left) (hm : 0 < m) (hd : divOk m = true) (hp : 0 ≤ p) (hp2 : p ≤ 1000000) (hl : ns.length ≤ 63) (hc : (ns = [] ∧ c = k.c1 * p + k.c2) ∨ (ns ≠ [] ∧ atI (ns.map D.int) (p % (ns.length : Int)) = some (.int c)))
    (hs : ¬ (p < (ns.length : Int) ∧ 1000000000000000000 ≤ (if c < 0 then -c else c))) :
    drawA k [.node true .lst [.node b .lst (ns.map D.int), .int p, .int left], .int m] = .ret (.int (mvA k c p / 16 % m)) [.node true .lst [.node false .lst (ns.map D.int), .int (p + 1), .int left], .int m] := by
  have e1 := k_pow5 hk (cell := c) hp hp2
  have e2 := pw3A hk (cell := c) hp hp2
  obtain ⟨x1, x2⟩ := mxA_lt hk c p
  obtain ⟨h1, h2, h3, h4, h5, h6, h7, h8, h9⟩ := hk
  have e3 : iMul k.c1 p = some (.int (k.c1 * p)) := mulL (by omega)
  have e4 : iMul k.q1 p = some (.int (k.q1 * p)) := mulL (by omega)
  have e5 : iMul 2 p = some (.int (2 * p)) := mulL (by decide)
  have e9 : iMul k.t p = some (.int (k.t * p)) := mulL (by omega)
  have e10 : iMul (k.t * p) p = some (.int (k.t * p * p)) := mulR (by omega)
  have e6 : iMul (mxA k c p) (2 * p + k.s) = some (.int (mxA k c p * (2 * p + k.s))) := mulR (by omega)
  have e8 : divOk 16 = true := by decide
  have y1 := h3.1
  have y2 := h6.1
  have pl := plain_ints ns
  have fz := frz_ints ns
  simp only [mxA] at e2 e6
  rcases hc with ⟨rfl, rfl⟩ | ⟨hn, hc⟩
  · have z1 : ¬ p < 0 := by omega
    have e7 : opNe [.node false .lst [], .node true .lst []] = some (.bl false) := rfl
    cases b <;> simp [drawA, drawAB, mkF, reFrz, seq, Pm.ite, rtn, mov, asg, drp, sNx, bnd, Pm.bin, Pm.un, app, aCons, aNil, idx, loc, con, Pm.ret, peek1, peeks, itemOf, on2I, iAdd, iSub, iGt, iGe, iLt, iLe, iDiv, iMod, use1, useL, gI, gN, tst, andT, orT, notT, andE, orE, notE, ifE, ixN, D.frz, D.plain, plainL, argsBack, opLen, opAbs, opInt1, opNeg, disp, cap, callF, takes, puts, selA, sel, aApp, par, gT, gsC, gs0, appF, opDivmod, hm, hd, h0, e1, e2, e3, e4, e5, e6, e7, e8, e9, e10, y1, y2, h9, z1, frzL, mvA, mxA, pow10_18]
  · have e7 : opNe [.node false .lst (ns.map D.int), .node true .lst []] = some (.bl true) := by rw [neNil, decide_eq_true hn]
    have z1 : 0 < ns.length := List.length_pos_iff.mpr hn
    have z2 : ns.length ≤ 1000000 := by omega
    by_cases q : p < (ns.length : Int)
    · have q2 : ¬ 1000000000000000000 ≤ (if c < 0 then -c else c) := fun z => hs ⟨q, z⟩
      cases b <;> simp [drawA, drawAB, mkF, reFrz, seq, Pm.ite, rtn, mov, asg, drp, sNx, bnd, Pm.bin, Pm.un, app, aCons, aNil, idx, loc, con, Pm.ret, peek1, peeks, itemOf, on2I, iAdd, iSub, iGt, iGe, iLt, iLe, iDiv, iMod, use1, useL, gI, gN, tst, andT, orT, notT, andE, orE, notE, ifE, ixN, D.frz, D.plain, plainL, argsBack, opLen, opAbs, opInt1, opNeg, disp, cap, callF, takes, puts, selA, sel, aApp, par, gT, gsC, gs0, appF, opDivmod, hm, hd, h0, e1, e2, e3, e4, e5, e6, e7, e8, e9, e10, y1, y2, h9, z1, z2, pl, fz, hc, q, q2, mvA, mxA, pow10_18]
    · cases b <;> simp [drawA, drawAB, mkF, reFrz, seq, Pm.ite, rtn, mov, asg, drp, sNx, bnd, Pm.bin, Pm.un, app, aCons, aNil, idx, loc, con, Pm.ret, peek1, peeks, itemOf, on2I, iAdd, iSub, iGt, iGe, iLt, iLe, iDiv, iMod, use1, useL, gI, gN, tst, andT, orT, notT, andE, orE, notE, ifE, ixN, D.frz, D.plain, plainL, argsBack, opLen, opAbs, opInt1, opNeg, disp, cap, callF, takes, puts, selA, sel, aApp, par, gT, gsC, gs0, appF, opDivmod, hm, hd, h0, e1, e2, e3, e4, e5, e6, e7, e8, e9, e10, y1, y2, h9, z1, z2, pl, fz, hc, q, mvA, mxA, pow10_18]

theorem drawA_great {k : DK} (hk : k.ok) {ns : List Int} {c : Int} {b : Bool} {p left m : Int} (h0 : ¬ 0 < left) (hm : 0 < m) (hd : divOk m = true) (hn : ns ≠ []) (hl : ns.length ≤ 63) (hp0 : 0 ≤ p) (hp2 : p ≤ 1000000) (hc : atI (ns.map D.int) (p % (ns.length : Int)) = some (.int c))
    (q : p < (ns.length : Int)) (q2 : 1000000000000000000 ≤ (if c < 0 then -c else c)) :
    ∃ g : Int, 0 ≤ g ∧ drawA k [.node true .lst [.node b .lst (ns.map D.int), .int p, .int left], .int m] = .ret (.int (g % m)) [.node true .lst [.node false .lst (ns.map D.int), .int (p + 1), .int (g / m)], .int m] := by
  obtain ⟨h1, h2, h3, h4, h5, h6, h7, h8, h9⟩ := hk
  have e3 : iMul k.c1 p = some (.int (k.c1 * p)) := mulL (by omega)
  have e7 : opNe [.node false .lst (ns.map D.int), .node true .lst []] = some (.bl true) := by rw [neNil, decide_eq_true hn]
  have z1 : 0 < ns.length := List.length_pos_iff.mpr hn
  have z2 : ns.length ≤ 1000000 := by omega
  have pl := plain_ints ns
  have fz := frz_ints ns
  refine ⟨2 * (if c < 0 then -c else c) + (if c < 0 then 1 else 0), by split at q2 <;> split <;> omega, ?_⟩
  have e4 : iMul 2 (if c < 0 then -c else c) = some (.int (2 * (if c < 0 then -c else c))) := mulL (by decide)
  by_cases hc0 : c < 0
  · rw [if_pos hc0] at q2 e4
    cases b <;> simp [drawA, drawAB, mkF, reFrz, seq, Pm.ite, rtn, mov, asg, drp, sNx, bnd, Pm.bin, Pm.un, app, aCons, aNil, idx, loc, con, Pm.ret, peek1, peeks, itemOf, on2I, iAdd, iSub, iGt, iGe, iLt, iLe, iDiv, iMod, use1, useL, gI, gN, tst, andT, orT, notT, andE, orE, notE, ifE, ixN, D.frz, D.plain, plainL, argsBack, opLen, opAbs, opInt1, opNeg, disp, cap, callF, takes, puts, selA, sel, aApp, par, gT, gsC, gs0, appF, opDivmod, hm, hd, h0, e3, e4, e7, z1, z2, pl, fz, hc, q, q2, hc0, pow10_18]
  · rw [if_neg hc0] at q2 e4
    cases b <;> simp [drawA, drawAB, mkF, reFrz, seq, Pm.ite, rtn, mov, asg, drp, sNx, bnd, Pm.bin, Pm.un, app, aCons, aNil, idx, loc, con, Pm.ret, peek1, peeks, itemOf, on2I, iAdd, iSub, iGt, iGe, iLt, iLe, iDiv, iMod, use1, useL, gI, gN, tst, andT, orT, notT, andE, orE, notE, ifE, ixN, D.frz, D.plain, plainL, argsBack, opLen, opAbs, opInt1, opNeg, disp, cap, callF, takes, puts, selA, sel, aApp, par, gT, gsC, gs0, appF, opDivmod, hm, hd, h0, e3, e4, e7, z1, z2, pl, fz, hc, q, q2, hc0, pow10_18]
theorem drawsA (k : DK) (hk : k.ok) : Draws (drawA k) := by
  intro ns d a m hl h ha hm hd
  obtain ⟨b, p, left, rfl, hp, hpa, hl0⟩ := h
  have rng : ∀ x : Int, 0 ≤ x % m ∧ x % m < m := fun x => ⟨Int.emod_nonneg x (by omega), Int.emod_lt_of_pos x hm⟩
  by_cases h0 : 0 < left
  · exact ⟨_, _, drawA_left h0 hm hd, (rng _).1, (rng _).2, b, _, _, rfl, by omega, by omega, Int.ediv_nonneg hl0 (by omega)⟩
  · by_cases hn : ns = []
    · subst hn
      refine ⟨_, _, drawA_small hk (c := k.c1 * p + k.c2) h0 hm hd hp (by omega) hl (.inl ⟨rfl, rfl⟩) (fun z => ?_), (rng _).1, (rng _).2, false, _, _, rfl, by omega, by omega, hl0⟩
      have z1 := z.1
      rw [List.length_nil] at z1
      omega
    · obtain ⟨c, hc⟩ := at_ints hp hn
      by_cases hs : p < (ns.length : Int) ∧ 1000000000000000000 ≤ (if c < 0 then -c else c)
      · obtain ⟨g, hg, e⟩ := drawA_great hk (b := b) h0 hm hd hn hl hp (by omega) hc hs.1 hs.2
        exact ⟨_, _, e, (rng _).1, (rng _).2, false, _, _, rfl, by omega, by omega, Int.ediv_nonneg hg (by omega)⟩
      · exact ⟨_, _, drawA_small hk h0 hm hd hp (by omega) hl (.inr ⟨hn, hc⟩) hs, (rng _).1, (rng _).2, false, _, _, rfl, by omega, by omega, hl0⟩

noncomputable def drawCB (k : DK) : M Fl := (seq (ite (tst (bin (on2I iGt) (idx (aCons (loc 0) (aCons (con (.int 2)) aNil))) (con (.int 0)))) (seq (asg (bin (on2I iMod) (idx (aCons (loc 0) (aCons (con (.int 2)) aNil))) (loc 1)) (gN 2))
    (seq (asg (bin (on2I iDiv) (idx (aCons (loc 0) (aCons (con (.int 2)) aNil))) (loc 1)) (gI 0 (con (.int 2))))
    (rtn (mov 2)))) sNx)
    (seq (asg (idx (aCons (loc 0) (aCons (con (.int 1)) aNil))) (gN 3))
    (seq (asg (bin (on2I iAdd) (loc 3) (con (.int 1))) (gI 0 (con (.int 1))))
    (seq (asg (bin (on2I iAdd) (bin (on2I iMul) (con (.int k.c1)) (loc 3)) (con (.int k.c2))) (gN 4))
    (seq (ite (tst (bin opNe (idx (aCons (loc 0) (aCons (con (.int 0)) aNil))) (disp true .lst aNil))) (asg (idx (aCons (idx (aCons (loc 0) (aCons (con (.int 0)) aNil))) (aCons (bin (on2I iMod) (loc 3) (app opLen (aCons (idx (aCons (loc 0) (aCons (con (.int 0)) aNil))) aNil))) aNil))) (gN 4)) sNx)
    (seq (ite (andT (tst (bin (on2I iLt) (loc 3) (app opLen (aCons (idx (aCons (loc 0) (aCons (con (.int 0)) aNil))) aNil)))) (tst (bin (on2I iGe) (app opAbs (aCons (loc 4) aNil)) (bin (on2I iPow) (con (.int 10)) (con (.int 18)))))) (seq (asg (bin (on2I iAdd) (bin (on2I iMul) (con (.int 2)) (app opAbs (aCons (loc 4) aNil))) (app opInt1 (aCons (bin (on2I iLt) (loc 4) (con (.int 0))) aNil))) (gN 5))
    (seq (asg (bin (on2I iDiv) (loc 5) (loc 1)) (gI 0 (con (.int 2))))
    (rtn (bin (on2I iMod) (loc 5) (loc 1))))) sNx)
    (seq (asg (bin (on2I iMod) (bin (on2I iPow) (bin (on2I iAdd) (bin (on2I iAdd) (bin (on2I iMod) (loc 4) (con (.int k.p1))) (bin (on2I iMul) (con (.int k.q1)) (loc 3))) (con (.int k.r1))) (con (.int 5))) (con (.int k.p2))) (gN 6))
    (seq (asg (bin (on2I iMod) (bin (on2I iPow) (bin (on2I iAdd) (bin (on2I iMul) (loc 6) (bin (on2I iAdd) (bin (on2I iMul) (con (.int 2)) (loc 3)) (con (.int k.s)))) (con (.int k.t))) (con (.int 3))) (con (.int k.p3))) (gN 6))
    (rtn (bin (on2I iMod) (bin (on2I iDiv) (loc 6) (con (.int 16))) (loc 1)))))))))))
noncomputable def drawC (k : DK) : FSem := mkF 2 7 [] (drawCB k)
def mvC (k : DK) (cell p : Int) : Int := (mxA k cell p * (2 * p + k.s) + k.t) ^ 3 % k.p3
theorem pw3C {k : DK} (h : k.ok) {cell p : Int} (hp0 : 0 ≤ p) (hp : p ≤ 1000000) : iPow (mxA k cell p * (2 * p + k.s) + k.t) 3 = some (.int ((mxA k cell p * (2 * p + k.s) + k.t) ^ 3)) := by
  obtain ⟨h1, h2⟩ := mxA_lt h cell p
  obtain ⟨_, _, _, _, _, _, h7, h8, _⟩ := h
  have h3 : mxA k cell p * (2 * p + k.s) ≤ 4294967296 * 3000000 := Int.mul_le_mul (by omega) (by omega) (by omega) (by decide)
  have h4 : 0 ≤ mxA k cell p * (2 * p + k.s) := Int.mul_nonneg h1 (by omega)
  have h5 : k.t * p ≤ 1000000 * 1000000 := Int.mul_le_mul (by omega) hp hp0 (by decide)
  have h6 : 0 ≤ k.t * p := Int.mul_nonneg (by omega) hp0
  have h9 : k.t * p * p ≤ 1000000 * 1000000 * 1000000 := Int.mul_le_mul h5 hp hp0 (by decide)
  have h10 : 0 ≤ k.t * p * p := Int.mul_nonneg h6 hp0
  exact powN (j := 3) (by omega) (by decide)
theorem drawC_left {k : DK} {c : D} {p left m : Int} (h0 : 0 < left) (hm : 0 < m) (hd : divOk m = true) : drawC k [.node true .lst [c, .int p, .int left], .int m] = .ret (.int (left % m)) [.node true .lst [c, .int p, .int (left / m)], .int m] := by
  simp [drawC, drawCB, mkF, reFrz, seq, Pm.ite, rtn, mov, asg, drp, sNx, bnd, Pm.bin, Pm.un, app, aCons, aNil, idx, loc, con, Pm.ret, peek1, peeks, itemOf, on2I, iAdd, iSub, iGt, iGe, iLt, iLe, iDiv, iMod, use1, useL, gI, gN, tst, andT, orT, notT, andE, orE, notE, ifE, ixN, D.frz, D.plain, plainL, argsBack, opLen, opAbs, opInt1, opNeg, disp, cap, callF, takes, puts, selA, sel, aApp, par, gT, gsC, gs0, appF, opDivmod, hm, hd, h0]
theorem drawC_small {k : DK} (hk : k.ok) {ns : List Int} {c : Int} {b : Bool} {p left m : Int} (h0 : ¬ 0 < left) (hm : 0 < m) (hd : divOk m = true) (hp : 0 ≤ p) (hp2 : p ≤ 1000000) (hl : ns.length ≤ 63) (hc : (ns = [] ∧ c = k.c1 * p + k.c2) ∨ (ns ≠ [] ∧ atI (ns.map D.int) (p % (ns.length : Int)) = some (.int c)))
    (hs : ¬ (p < (ns.length : Int) ∧ 1000000000000000000 ≤ (if c < 0 then -c else c))) :
    drawC k [.node true .lst [.node b .lst (ns.map D.int), .int p, .int left], .int m] = .ret (.int (mvC k c p / 16 % m)) [.node true .lst [.node false .lst (ns.map D.int), .int (p + 1), .int left], .int m] := by
  have e1 := k_pow5 hk (cell := c) hp hp2
  have e2 := pw3C hk (cell := c) hp hp2
  obtain ⟨x1, x2⟩ := mxA_lt hk c p
  obtain ⟨h1, h2, h3, h4, h5, h6, h7, h8, h9⟩ := hk
  have e3 : iMul k.c1 p = some (.int (k.c1 * p)) := mulL (by omega)
  have e4 : iMul k.q1 p = some (.int (k.q1 * p)) := mulL (by omega)
  have e5 : iMul 2 p = some (.int (2 * p)) := mulL (by decide)
  have e9 : iMul k.t p = some (.int (k.t * p)) := mulL (by omega)
  have e10 : iMul (k.t * p) p = some (.int (k.t * p * p)) := mulR (by omega)
  have e6 : iMul (mxA k c p) (2 * p + k.s) = some (.int (mxA k c p * (2 * p + k.s))) := mulR (by omega)
  have e8 : divOk 16 = true := by decide
  have y1 := h3.1
  have y2 := h6.1
  have pl := plain_ints ns
  have fz := frz_ints ns
  simp only [mxA] at e2 e6
  rcases hc with ⟨rfl, rfl⟩ | ⟨hn, hc⟩
  · have z1 : ¬ p < 0 := by omega
    have e7 : opNe [.node false .lst [], .node true .lst []] = some (.bl false) := rfl
    cases b <;> simp [drawC, drawCB, mkF, reFrz, seq, Pm.ite, rtn, mov, asg, drp, sNx, bnd, Pm.bin, Pm.un, app, aCons, aNil, idx, loc, con, Pm.ret, peek1, peeks, itemOf, on2I, iAdd, iSub, iGt, iGe, iLt, iLe, iDiv, iMod, use1, useL, gI, gN, tst, andT, orT, notT, andE, orE, notE, ifE, ixN, D.frz, D.plain, plainL, argsBack, opLen, opAbs, opInt1, opNeg, disp, cap, callF, takes, puts, selA, sel, aApp, par, gT, gsC, gs0, appF, opDivmod, hm, hd, h0, e1, e2, e3, e4, e5, e6, e7, e8, e9, e10, y1, y2, h9, z1, frzL, mvC, mxA, pow10_18]
  · have e7 : opNe [.node false .lst (ns.map D.int), .node true .lst []] = some (.bl true) := by rw [neNil, decide_eq_true hn]
    have z1 : 0 < ns.length := List.length_pos_iff.mpr hn
    have z2 : ns.length ≤ 1000000 := by omega
    by_cases q : p < (ns.length : Int)
    · have q2 : ¬ 1000000000000000000 ≤ (if c < 0 then -c else c) := fun z => hs ⟨q, z⟩
      cases b <;> simp [drawC, drawCB, mkF, reFrz, seq, Pm.ite, rtn, mov, asg, drp, sNx, bnd, Pm.bin, Pm.un, app, aCons, aNil, idx, loc, con, Pm.ret, peek1, peeks, itemOf, on2I, iAdd, iSub, iGt, iGe, iLt, iLe, iDiv, iMod, use1, useL, gI, gN, tst, andT, orT, notT, andE, orE, notE, ifE, ixN, D.frz, D.plain, plainL, argsBack, opLen, opAbs, opInt1, opNeg, disp, cap, callF, takes, puts, selA, sel, aApp, par, gT, gsC, gs0, appF, opDivmod, hm, hd, h0, e1, e2, e3, e4, e5, e6, e7, e8, e9, e10, y1, y2, h9, z1, z2, pl, fz, hc, q, q2, mvC, mxA, pow10_18]
    · cases b <;> simp [drawC, drawCB, mkF, reFrz, seq, Pm.ite, rtn, mov, asg, drp, sNx, bnd, Pm.bin, Pm.un, app, aCons, aNil, idx, loc, con, Pm.ret, peek1, peeks, itemOf, on2I, iAdd, iSub, iGt, iGe, iLt, iLe, iDiv, iMod, use1, useL, gI, gN, tst, andT, orT, notT, andE, orE, notE, ifE, ixN, D.frz, D.plain, plainL, argsBack, opLen, opAbs, opInt1, opNeg, disp, cap, callF, takes, puts, selA, sel, aApp, par, gT, gsC, gs0, appF, opDivmod, hm, hd, h0, e1, e2, e3, e4, e5, e6, e7, e8, e9, e10, y1, y2, h9, z1, z2, pl, fz, hc, q, mvC, mxA, pow10_18]

theorem drawC_great {k : DK} (hk : k.ok) {ns : List Int} {c : Int} {b : Bool} {p left m : Int} (h0 : ¬ 0 < left) (hm : 0 < m) (hd : divOk m = true) (hn : ns ≠ []) (hl : ns.length ≤ 63) (hp0 : 0 ≤ p) (hp2 : p ≤ 1000000) (hc : atI (ns.map D.int) (p % (ns.length : Int)) = some (.int c))
    (q : p < (ns.length : Int)) (q2 : 1000000000000000000 ≤ (if c < 0 then -c else c)) :
    ∃ g : Int, 0 ≤ g ∧ drawC k [.node true .lst [.node b .lst (ns.map D.int), .int p, .int left], .int m] = .ret (.int (g % m)) [.node true .lst [.node false .lst (ns.map D.int), .int (p + 1), .int (g / m)], .int m] := by
  obtain ⟨h1, h2, h3, h4, h5, h6, h7, h8, h9⟩ := hk
  have e3 : iMul k.c1 p = some (.int (k.c1 * p)) := mulL (by omega)
  have e7 : opNe [.node false .lst (ns.map D.int), .node true .lst []] = some (.bl true) := by rw [neNil, decide_eq_true hn]
  have z1 : 0 < ns.length := List.length_pos_iff.mpr hn
  have z2 : ns.length ≤ 1000000 := by omega
  have pl := plain_ints ns
  have fz := frz_ints ns
  refine ⟨2 * (if c < 0 then -c else c) + (if c < 0 then 1 else 0), by split at q2 <;> split <;> omega, ?_⟩
  have e4 : iMul 2 (if c < 0 then -c else c) = some (.int (2 * (if c < 0 then -c else c))) := mulL (by decide)
  by_cases hc0 : c < 0
  · rw [if_pos hc0] at q2 e4
    cases b <;> simp [drawC, drawCB, mkF, reFrz, seq, Pm.ite, rtn, mov, asg, drp, sNx, bnd, Pm.bin, Pm.un, app, aCons, aNil, idx, loc, con, Pm.ret, peek1, peeks, itemOf, on2I, iAdd, iSub, iGt, iGe, iLt, iLe, iDiv, iMod, use1, useL, gI, gN, tst, andT, orT, notT, andE, orE, notE, ifE, ixN, D.frz, D.plain, plainL, argsBack, opLen, opAbs, opInt1, opNeg, disp, cap, callF, takes, puts, selA, sel, aApp, par, gT, gsC, gs0, appF, opDivmod, hm, hd, h0, e3, e4, e7, z1, z2, pl, fz, hc, q, q2, hc0, pow10_18]
  · rw [if_neg hc0] at q2 e4
    cases b <;> simp [drawC, drawCB, mkF, reFrz, seq, Pm.ite, rtn, mov, asg, drp, sNx, bnd, Pm.bin, Pm.un, app, aCons, aNil, idx, loc, con, Pm.ret, peek1, peeks, itemOf, on2I, iAdd, iSub, iGt, iGe, iLt, iLe, iDiv, iMod, use1, useL, gI, gN, tst, andT, orT, notT, andE, orE, notE, ifE, ixN, D.frz, D.plain, plainL, argsBack, opLen, opAbs, opInt1, opNeg, disp, cap, callF, takes, puts, selA, sel, aApp, par, gT, gsC, gs0, appF, opDivmod, hm, hd, h0, e3, e4, e7, z1, z2, pl, fz, hc, q, q2, hc0, pow10_18]
theorem drawsC (k : DK) (hk : k.ok) : Draws (drawC k) := by
  intro ns d a m hl h ha hm hd
  obtain ⟨b, p, left, rfl, hp, hpa, hl0⟩ := h
  have rng : ∀ x : Int, 0 ≤ x % m ∧ x % m < m := fun x => ⟨Int.emod_nonneg x (by omega), Int.emod_lt_of_pos x hm⟩
  by_cases h0 : 0 < left
  · exact ⟨_, _, drawC_left h0 hm hd, (rng _).1, (rng _).2, b, _, _, rfl, by omega, by omega, Int.ediv_nonneg hl0 (by omega)⟩
  · by_cases hn : ns = []
    · subst hn
      refine ⟨_, _, drawC_small hk (c := k.c1 * p + k.c2) h0 hm hd hp (by omega) hl (.inl ⟨rfl, rfl⟩) (fun z => ?_), (rng _).1, (rng _).2, false, _, _, rfl, by omega, by omega, hl0⟩
      have z1 := z.1
      rw [List.length_nil] at z1
      omega
    · obtain ⟨c, hc⟩ := at_ints hp hn
      by_cases hs : p < (ns.length : Int) ∧ 1000000000000000000 ≤ (if c < 0 then -c else c)
      · obtain ⟨g, hg, e⟩ := drawC_great hk (b := b) h0 hm hd hn hl hp (by omega) hc hs.1 hs.2
        exact ⟨_, _, e, (rng _).1, (rng _).2, false, _, _, rfl, by omega, by omega, Int.ediv_nonneg hg (by omega)⟩
      · exact ⟨_, _, drawC_small hk h0 hm hd hp (by omega) hl (.inr ⟨hn, hc⟩) hs, (rng _).1, (rng _).2, false, _, _, rfl, by omega, by omega, hl0⟩

noncomputable def drawDB (k : DK) : M Fl := (seq (ite (tst (bin (on2I iGt) (idx (aCons (loc 0) (aCons (con (.int 2)) aNil))) (con (.int 0)))) (seq (asg (bin (on2I iMod) (idx (aCons (loc 0) (aCons (con (.int 2)) aNil))) (loc 1)) (gN 2))
    (seq (asg (bin (on2I iDiv) (idx (aCons (loc 0) (aCons (con (.int 2)) aNil))) (loc 1)) (gI 0 (con (.int 2))))
    (rtn (mov 2)))) sNx)
    (seq (asg (idx (aCons (loc 0) (aCons (con (.int 1)) aNil))) (gN 3))
    (seq (asg (bin (on2I iAdd) (loc 3) (con (.int 1))) (gI 0 (con (.int 1))))
    (seq (asg (bin (on2I iAdd) (bin (on2I iMul) (con (.int k.c1)) (loc 3)) (con (.int k.c2))) (gN 4))
    (seq (ite (tst (bin opNe (idx (aCons (loc 0) (aCons (con (.int 0)) aNil))) (disp true .lst aNil))) (asg (idx (aCons (idx (aCons (loc 0) (aCons (con (.int 0)) aNil))) (aCons (bin (on2I iMod) (loc 3) (app opLen (aCons (idx (aCons (loc 0) (aCons (con (.int 0)) aNil))) aNil))) aNil))) (gN 4)) sNx)
    (seq (ite (andT (tst (bin (on2I iLt) (loc 3) (app opLen (aCons (idx (aCons (loc 0) (aCons (con (.int 0)) aNil))) aNil)))) (tst (bin (on2I iGe) (app opAbs (aCons (loc 4) aNil)) (bin (on2I iPow) (con (.int 10)) (con (.int 18)))))) (seq (asg (bin (on2I iAdd) (bin (on2I iMul) (con (.int 2)) (bin (on2I iSub) (app opAbs (aCons (loc 4) aNil)) (bin (on2I iPow) (con (.int 10)) (con (.int 18))))) (app opInt1 (aCons (bin (on2I iLt) (loc 4) (con (.int 0))) aNil))) (gN 5))
    (seq (asg (bin (on2I iDiv) (loc 5) (loc 1)) (gI 0 (con (.int 2))))
    (rtn (bin (on2I iMod) (loc 5) (loc 1))))) sNx)
    (seq (asg (bin (on2I iMod) (bin (on2I iPow) (bin (on2I iAdd) (bin (on2I iAdd) (bin (on2I iMod) (loc 4) (con (.int k.p1))) (bin (on2I iMul) (con (.int k.q1)) (loc 3))) (con (.int k.r1))) (con (.int 5))) (con (.int k.p2))) (gN 6))
    (seq (asg (bin (on2I iMod) (bin (on2I iPow) (bin (on2I iAdd) (bin (on2I iAdd) (bin (on2I iMul) (loc 6) (bin (on2I iAdd) (bin (on2I iMul) (con (.int 2)) (loc 3)) (con (.int k.s)))) (bin (on2I iMul) (bin (on2I iMul) (con (.int k.t)) (loc 3)) (loc 3))) (con (.int 7))) (con (.int 3))) (con (.int k.p3))) (gN 6))
    (rtn (bin (on2I iMod) (bin (on2I iDiv) (loc 6) (con (.int 16))) (loc 1)))))))))))
noncomputable def drawD (k : DK) : FSem := mkF 2 7 [] (drawDB k)
def mvD (k : DK) (cell p : Int) : Int := (mxA k cell p * (2 * p + k.s) + k.t * p * p + 7) ^ 3 % k.p3
theorem pw3D {k : DK} (h : k.ok) {cell p : Int} (hp0 : 0 ≤ p) (hp : p ≤ 1000000) : iPow (mxA k cell p * (2 * p + k.s) + k.t * p * p + 7) 3 = some (.int ((mxA k cell p * (2 * p + k.s) + k.t * p * p + 7) ^ 3)) := by
  obtain ⟨h1, h2⟩ := mxA_lt h cell p
  obtain ⟨_, _, _, _, _, _, h7, h8, _⟩ := h
  have h3 : mxA k cell p * (2 * p + k.s) ≤ 4294967296 * 3000000 := Int.mul_le_mul (by omega) (by omega) (by omega) (by decide)
  have h4 : 0 ≤ mxA k cell p * (2 * p + k.s) := Int.mul_nonneg h1 (by omega)
  have h5 : k.t * p ≤ 1000000 * 1000000 := Int.mul_le_mul (by omega) hp hp0 (by decide)
  have h6 : 0 ≤ k.t * p := Int.mul_nonneg (by omega) hp0
  have h9 : k.t * p * p ≤ 1000000 * 1000000 * 1000000 := Int.mul_le_mul h5 hp hp0 (by decide)
  have h10 : 0 ≤ k.t * p * p := Int.mul_nonneg h6 hp0
  exact powN (j := 3) (by omega) (by decide)
theorem drawD_left {k : DK} {c : D} {p left m : Int} (h0 : 0 < left) (hm : 0 < m) (hd : divOk m = true) : drawD k [.node true .lst [c, .int p, .int left], .int m] = .ret (.int (left % m)) [.node true .lst [c, .int p, .int (left / m)], .int m] := by
  simp [drawD, drawDB, mkF, reFrz, seq, Pm.ite, rtn, mov, asg, drp, sNx, bnd, Pm.bin, Pm.un, app, aCons, aNil, idx, loc, con, Pm.ret, peek1, peeks, itemOf, on2I, iAdd, iSub, iGt, iGe, iLt, iLe, iDiv, iMod, use1, useL, gI, gN, tst, andT, orT, notT, andE, orE, notE, ifE, ixN, D.frz, D.plain, plainL, argsBack, opLen, opAbs, opInt1, opNeg, disp, cap, callF, takes, puts, selA, sel, aApp, par, gT, gsC, gs0, appF, opDivmod, hm, hd, h0]
theorem drawD_small {k : DK} (hk : k.ok) {ns : List Int} {c : Int} {b : Bool} {p left m : Int} (h0 : ¬ 0 < left) (hm : 0 < m) (hd : divOk m = true) (hp : 0 ≤ p) (hp2 : p ≤ 1000000) (hl : ns.length ≤ 63) (hc : (ns = [] ∧ c = k.c1 * p + k.c2) ∨ (ns ≠ [] ∧ atI (ns.map D.int) (p % (ns.length : Int)) = some (.int c)))
    (hs : ¬ (p < (ns.length : Int) ∧ 1000000000000000000 ≤ (if c < 0 then -c else c))) :
    drawD k [.node true .lst [.node b .lst (ns.map D.int), .int p, .int left], .int m] = .ret (.int (mvD k c p / 16 % m)) [.node true .lst [.node false .lst (ns.map D.int), .int (p + 1), .int left], .int m] := by
  have e1 := k_pow5 hk (cell := c) hp hp2
  have e2 := pw3D hk (cell := c) hp hp2
  obtain ⟨x1, x2⟩ := mxA_lt hk c p
  obtain ⟨h1, h2, h3, h4, h5, h6, h7, h8, h9⟩ := hk
  have e3 : iMul k.c1 p = some (.int (k.c1 * p)) := mulL (by omega)
  have e4 : iMul k.q1 p = some (.int (k.q1 * p)) := mulL (by omega)
  have e5 : iMul 2 p = some (.int (2 * p)) := mulL (by decide)
  have e9 : iMul k.t p = some (.int (k.t * p)) := mulL (by omega)
  have e10 : iMul (k.t * p) p = some (.int (k.t * p * p)) := mulR (by omega)
  have e6 : iMul (mxA k c p) (2 * p + k.s) = some (.int (mxA k c p * (2 * p + k.s))) := mulR (by omega)
  have e8 : divOk 16 = true := by decide
  have y1 := h3.1
  have y2 := h6.1
  have pl := plain_ints ns
  have fz := frz_ints ns
  simp only [mxA] at e2 e6
  rcases hc with ⟨rfl, rfl⟩ | ⟨hn, hc⟩
  · have z1 : ¬ p < 0 := by omega
    have e7 : opNe [.node false .lst [], .node true .lst []] = some (.bl false) := rfl
    cases b <;> simp [drawD, drawDB, mkF, reFrz, seq, Pm.ite, rtn, mov, asg, drp, sNx, bnd, Pm.bin, Pm.un, app, aCons, aNil, idx, loc, con, Pm.ret, peek1, peeks, itemOf, on2I, iAdd, iSub, iGt, iGe, iLt, iLe, iDiv, iMod, use1, useL, gI, gN, tst, andT, orT, notT, andE, orE, notE, ifE, ixN, D.frz, D.plain, plainL, argsBack, opLen, opAbs, opInt1, opNeg, disp, cap, callF, takes, puts, selA, sel, aApp, par, gT, gsC, gs0, appF, opDivmod, hm, hd, h0, e1, e2, e3, e4, e5, e6, e7, e8, e9, e10, y1, y2, h9, z1, frzL, mvD, mxA, pow10_18]
  · have e7 : opNe [.node false .lst (ns.map D.int), .node true .lst []] = some (.bl true) := by rw [neNil, decide_eq_true hn]
    have z1 : 0 < ns.length := List.length_pos_iff.mpr hn
    have z2 : ns.length ≤ 1000000 := by omega
    by_cases q : p < (ns.length : Int)
    · have q2 : ¬ 1000000000000000000 ≤ (if c < 0 then -c else c) := fun z => hs ⟨q, z⟩
      cases b <;> simp [drawD, drawDB, mkF, reFrz, seq, Pm.ite, rtn, mov, asg, drp, sNx, bnd, Pm.bin, Pm.un, app, aCons, aNil, idx, loc, con, Pm.ret, peek1, peeks, itemOf, on2I, iAdd, iSub, iGt, iGe, iLt, iLe, iDiv, iMod, use1, useL, gI, gN, tst, andT, orT, notT, andE, orE, notE, ifE, ixN, D.frz, D.plain, plainL, argsBack, opLen, opAbs, opInt1, opNeg, disp, cap, callF, takes, puts, selA, sel, aApp, par, gT, gsC, gs0, appF, opDivmod, hm, hd, h0, e1, e2, e3, e4, e5, e6, e7, e8, e9, e10, y1, y2, h9, z1, z2, pl, fz, hc, q, q2, mvD, mxA, pow10_18]
    · cases b <;> simp [drawD, drawDB, mkF, reFrz, seq, Pm.ite, rtn, mov, asg, drp, sNx, bnd, Pm.bin, Pm.un, app, aCons, aNil, idx, loc, con, Pm.ret, peek1, peeks, itemOf, on2I, iAdd, iSub, iGt, iGe, iLt, iLe, iDiv, iMod, use1, useL, gI, gN, tst, andT, orT, notT, andE, orE, notE, ifE, ixN, D.frz, D.plain, plainL, argsBack, opLen, opAbs, opInt1, opNeg, disp, cap, callF, takes, puts, selA, sel, aApp, par, gT, gsC, gs0, appF, opDivmod, hm, hd, h0, e1, e2, e3, e4, e5, e6, e7, e8, e9, e10, y1, y2, h9, z1, z2, pl, fz, hc, q, mvD, mxA, pow10_18]

theorem drawD_great {k : DK} (hk : k.ok) {ns : List Int} {c : Int} {b : Bool} {p left m : Int} (h0 : ¬ 0 < left) (hm : 0 < m) (hd : divOk m = true) (hn : ns ≠ []) (hl : ns.length ≤ 63) (hp0 : 0 ≤ p) (hp2 : p ≤ 1000000) (hc : atI (ns.map D.int) (p % (ns.length : Int)) = some (.int c))
    (q : p < (ns.length : Int)) (q2 : 1000000000000000000 ≤ (if c < 0 then -c else c)) :
    ∃ g : Int, 0 ≤ g ∧ drawD k [.node true .lst [.node b .lst (ns.map D.int), .int p, .int left], .int m] = .ret (.int (g % m)) [.node true .lst [.node false .lst (ns.map D.int), .int (p + 1), .int (g / m)], .int m] := by
  obtain ⟨h1, h2, h3, h4, h5, h6, h7, h8, h9⟩ := hk
  have e3 : iMul k.c1 p = some (.int (k.c1 * p)) := mulL (by omega)
  have e7 : opNe [.node false .lst (ns.map D.int), .node true .lst []] = some (.bl true) := by rw [neNil, decide_eq_true hn]
  have z1 : 0 < ns.length := List.length_pos_iff.mpr hn
  have z2 : ns.length ≤ 1000000 := by omega
  have pl := plain_ints ns
  have fz := frz_ints ns
  refine ⟨2 * ((if c < 0 then -c else c) - 1000000000000000000) + (if c < 0 then 1 else 0), by split at q2 <;> split <;> omega, ?_⟩
  have e4 : iMul 2 ((if c < 0 then -c else c) - 1000000000000000000) = some (.int (2 * ((if c < 0 then -c else c) - 1000000000000000000))) := mulL (by decide)
  by_cases hc0 : c < 0
  · rw [if_pos hc0] at q2 e4
    cases b <;> simp [drawD, drawDB, mkF, reFrz, seq, Pm.ite, rtn, mov, asg, drp, sNx, bnd, Pm.bin, Pm.un, app, aCons, aNil, idx, loc, con, Pm.ret, peek1, peeks, itemOf, on2I, iAdd, iSub, iGt, iGe, iLt, iLe, iDiv, iMod, use1, useL, gI, gN, tst, andT, orT, notT, andE, orE, notE, ifE, ixN, D.frz, D.plain, plainL, argsBack, opLen, opAbs, opInt1, opNeg, disp, cap, callF, takes, puts, selA, sel, aApp, par, gT, gsC, gs0, appF, opDivmod, hm, hd, h0, e3, e4, e7, z1, z2, pl, fz, hc, q, q2, hc0, pow10_18]
  · rw [if_neg hc0] at q2 e4
    cases b <;> simp [drawD, drawDB, mkF, reFrz, seq, Pm.ite, rtn, mov, asg, drp, sNx, bnd, Pm.bin, Pm.un, app, aCons, aNil, idx, loc, con, Pm.ret, peek1, peeks, itemOf, on2I, iAdd, iSub, iGt, iGe, iLt, iLe, iDiv, iMod, use1, useL, gI, gN, tst, andT, orT, notT, andE, orE, notE, ifE, ixN, D.frz, D.plain, plainL, argsBack, opLen, opAbs, opInt1, opNeg, disp, cap, callF, takes, puts, selA, sel, aApp, par, gT, gsC, gs0, appF, opDivmod, hm, hd, h0, e3, e4, e7, z1, z2, pl, fz, hc, q, q2, hc0, pow10_18]
theorem drawsD (k : DK) (hk : k.ok) : Draws (drawD k) := by
  intro ns d a m hl h ha hm hd
  obtain ⟨b, p, left, rfl, hp, hpa, hl0⟩ := h
  have rng : ∀ x : Int, 0 ≤ x % m ∧ x % m < m := fun x => ⟨Int.emod_nonneg x (by omega), Int.emod_lt_of_pos x hm⟩
  by_cases h0 : 0 < left
  · exact ⟨_, _, drawD_left h0 hm hd, (rng _).1, (rng _).2, b, _, _, rfl, by omega, by omega, Int.ediv_nonneg hl0 (by omega)⟩
  · by_cases hn : ns = []
    · subst hn
      refine ⟨_, _, drawD_small hk (c := k.c1 * p + k.c2) h0 hm hd hp (by omega) hl (.inl ⟨rfl, rfl⟩) (fun z => ?_), (rng _).1, (rng _).2, false, _, _, rfl, by omega, by omega, hl0⟩
      have z1 := z.1
      rw [List.length_nil] at z1
      omega
    · obtain ⟨c, hc⟩ := at_ints hp hn
      by_cases hs : p < (ns.length : Int) ∧ 1000000000000000000 ≤ (if c < 0 then -c else c)
      · obtain ⟨g, hg, e⟩ := drawD_great hk (b := b) h0 hm hd hn hl hp (by omega) hc hs.1 hs.2
        exact ⟨_, _, e, (rng _).1, (rng _).2, false, _, _, rfl, by omega, by omega, Int.ediv_nonneg hg (by omega)⟩
      · exact ⟨_, _, drawD_small hk h0 hm hd hp (by omega) hl (.inr ⟨hn, hc⟩) hs, (rng _).1, (rng _).2, false, _, _, rfl, by omega, by omega, hl0⟩

end Pm
/-! PmX: numbers below a bound, over any draw. -/
namespace Pm
open PySem PySem.Spec PyProof.Rows L2
noncomputable def belowGB (S : FSem) : M Fl := (seq (ite (tst (bin (on2I iLe) (loc 1) (bin (on2I iPow) (con (.int 10)) (con (.int 7))))) (rtn (callF S (aCons (loc 0) (aCons (loc 1) aNil)))) sNx)
    (seq (asg (con (.int 0)) (gN 2))
    (seq (asg (con (.int 1)) (gN 3))
    (seq (whl (tst (bin (on2I iLt) (loc 3) (loc 1))) (seq (asg (bin (on2I iAdd) (bin (on2I iMul) (loc 2) (bin (on2I iPow) (con (.int 10)) (con (.int 7)))) (callF S (aCons (loc 0) (aCons (bin (on2I iPow) (con (.int 10)) (con (.int 7))) aNil)))) (gN 2))
    (asg (bin (on2I iMul) (loc 3) (bin (on2I iPow) (con (.int 10)) (con (.int 7)))) (gN 3))))
    (rtn (bin (on2I iMod) (loc 2) (loc 1)))))))
noncomputable def belowG (S : FSem) : FSem := mkF 2 4 [] (belowGB S)
theorem below_loopG {S : FSem} (hS : Draws S) {ns : List Int} {m : Int} (hl : ns.length ≤ 63) : ∀ (k : Nat) (size found a : Int) (d : D), 0 < size → 0 ≤ found → m ≤ size * 10000000 ^ k → Pen ns a d → a + k ≤ 1000000 →
    ∃ (size' found' : Int) (d' : D), whl (tst (bin (on2I iLt) (loc 3) (loc 1))) (seq (asg (bin (on2I iAdd) (bin (on2I iMul) (loc 2) (bin (on2I iPow) (con (.int 10)) (con (.int 7)))) (callF S (aCons (loc 0) (aCons (bin (on2I iPow) (con (.int 10)) (con (.int 7))) aNil)))) (gN 2))
      (asg (bin (on2I iMul) (loc 3) (bin (on2I iPow) (con (.int 10)) (con (.int 7)))) (gN 3))) [some d, some (.int m), some (.int found), some (.int size)] = .ok .nx [some d', some (.int m), some (.int found'), some (.int size')] ∧ 0 ≤ found' ∧ Pen ns (a + k) d'
  | 0, size, found, a, d, hs, hf, hm, hp, ha => by
    refine ⟨size, found, d, ?_, hf, hp.mono (by omega)⟩
    have h : ¬ size < m := by omega
    exact whl_F (by simp [mkF, reFrz, seq, Pm.ite, rtn, mov, asg, drp, sNx, bnd, Pm.bin, Pm.un, app, aCons, aNil, idx, loc, con, Pm.ret, peek1, peeks, itemOf, on2I, iAdd, iSub, iGt, iGe, iLt, iLe, iDiv, iMod, use1, useL, gI, gN, tst, andT, orT, notT, andE, orE, notE, ifE, ixN, D.frz, D.plain, plainL, argsBack, opLen, opAbs, opInt1, opNeg, disp, cap, callF, takes, puts, selA, sel, aApp, par, gT, gsC, gs0, appF, opDivmod, h])
  | k + 1, size, found, a, d, hs, hf, hm, hp, ha => by
    by_cases h : size < m
    · obtain ⟨r, d', e, r0, r1, hp'⟩ := hS _ _ _ _ hl hp (by omega) (show (0 : Int) < 10000000 by decide) (by decide)
      have e1 : iMul found 10000000 = some (.int (found * 10000000)) := mulR (by decide)
      have e2 : iMul size 10000000 = some (.int (size * 10000000)) := mulR (by decide)
      obtain ⟨xs, ed⟩ := hp.owned
      obtain ⟨xs', ed'⟩ := hp'.owned
      subst ed
      subst ed'
      obtain ⟨s', f', d2, e3, g1, g2⟩ := below_loopG hS hl k (size * 10000000) (found * 10000000 + r) (a + 1) (.node true .lst xs') (by omega) (by omega) (by rw [Int.pow_succ] at hm; rw [Int.mul_assoc, Int.mul_comm 10000000 _]; exact hm) hp' (by omega)
      refine ⟨s', f', d2, ?_, g1, g2.mono (by omega)⟩
      rw [whl_T (ρ1 := [some (.node true .lst xs), some (.int m), some (.int found), some (.int size)]) (ρ2 := [some (.node true .lst xs'), some (.int m), some (.int (found * 10000000 + r)), some (.int (size * 10000000))]) (by simp [mkF, reFrz, seq, Pm.ite, rtn, mov, asg, drp, sNx, bnd, Pm.bin, Pm.un, app, aCons, aNil, idx, loc, con, Pm.ret, peek1, peeks, itemOf, on2I, iAdd, iSub, iGt, iGe, iLt, iLe, iDiv, iMod, use1, useL, gI, gN, tst, andT, orT, notT, andE, orE, notE, ifE, ixN, D.frz, D.plain, plainL, argsBack, opLen, opAbs, opInt1, opNeg, disp, cap, callF, takes, puts, selA, sel, aApp, par, gT, gsC, gs0, appF, opDivmod, h]) (by simp [mkF, reFrz, seq, Pm.ite, rtn, mov, asg, drp, sNx, bnd, Pm.bin, Pm.un, app, aCons, aNil, idx, loc, con, Pm.ret, peek1, peeks, itemOf, on2I, iAdd, iSub, iGt, iGe, iLt, iLe, iDiv, iMod, use1, useL, gI, gN, tst, andT, orT, notT, andE, orE, notE, ifE, ixN, D.frz, D.plain, plainL, argsBack, opLen, opAbs, opInt1, opNeg, disp, cap, callF, takes, puts, selA, sel, aApp, par, gT, gsC, gs0, appF, opDivmod, e, e1, e2, pow10_7])]
      exact e3
    · exact ⟨size, found, d, whl_F (by simp [mkF, reFrz, seq, Pm.ite, rtn, mov, asg, drp, sNx, bnd, Pm.bin, Pm.un, app, aCons, aNil, idx, loc, con, Pm.ret, peek1, peeks, itemOf, on2I, iAdd, iSub, iGt, iGe, iLt, iLe, iDiv, iMod, use1, useL, gI, gN, tst, andT, orT, notT, andE, orE, notE, ifE, ixN, D.frz, D.plain, plainL, argsBack, opLen, opAbs, opInt1, opNeg, disp, cap, callF, takes, puts, selA, sel, aApp, par, gT, gsC, gs0, appF, opDivmod, h]), hf, hp.mono (by omega)⟩
theorem below_of {S : FSem} (hS : Draws S) {ns : List Int} {m a : Int} {d : D} (k : Nat) (hl : ns.length ≤ 63) (hp : Pen ns a d) (hm : 0 < m) (hd : divOk m = true) (hk : m ≤ 10000000 ^ k) (ha : a + k + 1 ≤ 1000000) : ∃ (r : Int) (d' : D), belowG S [d, .int m] = .ret (.int r) [d', .int m] ∧ 0 ≤ r ∧ r < m ∧ Pen ns (a + k + 1) d' := by
  obtain ⟨xs, rfl⟩ := hp.owned
  by_cases h : m ≤ 10000000
  · obtain ⟨r, d', e, r0, r1, hp'⟩ := hS _ _ _ _ hl hp (by omega) hm hd
    obtain ⟨xs', rfl⟩ := hp'.owned
    exact ⟨r, _, by simp [belowG, belowGB, mkF, reFrz, seq, Pm.ite, rtn, mov, asg, drp, sNx, bnd, Pm.bin, Pm.un, app, aCons, aNil, idx, loc, con, Pm.ret, peek1, peeks, itemOf, on2I, iAdd, iSub, iGt, iGe, iLt, iLe, iDiv, iMod, use1, useL, gI, gN, tst, andT, orT, notT, andE, orE, notE, ifE, ixN, D.frz, D.plain, plainL, argsBack, opLen, opAbs, opInt1, opNeg, disp, cap, callF, takes, puts, selA, sel, aApp, par, gT, gsC, gs0, appF, opDivmod, h, e, pow10_7], r0, r1, hp'.mono (by omega)⟩
  · obtain ⟨s', f', d', e, f0, hp'⟩ := below_loopG hS (m := m) hl k 1 0 a _ (by omega) (by omega) (by rw [Int.one_mul]; exact hk) hp (by omega)
    obtain ⟨xs', rfl⟩ := hp'.owned
    refine ⟨f' % m, _, ?_, Int.emod_nonneg _ (by omega), Int.emod_lt_of_pos _ hm, hp'.mono (by omega)⟩
    unfold belowG mkF
    rw [if_pos (by simp)]
    unfold belowGB
    have s0 : ∀ b : M Fl, seq (ite (tst (bin (on2I iLe) (loc 1) (bin (on2I iPow) (con (.int 10)) (con (.int 7))))) (rtn (callF S (aCons (loc 0) (aCons (loc 1) aNil)))) sNx) b [some (.node true .lst xs), some (.int m), none, none] = b [some (.node true .lst xs), some (.int m), none, none] := fun b => seq_ok (by simp [mkF, reFrz, seq, Pm.ite, rtn, mov, asg, drp, sNx, bnd, Pm.bin, Pm.un, app, aCons, aNil, idx, loc, con, Pm.ret, peek1, peeks, itemOf, on2I, iAdd, iSub, iGt, iGe, iLt, iLe, iDiv, iMod, use1, useL, gI, gN, tst, andT, orT, notT, andE, orE, notE, ifE, ixN, D.frz, D.plain, plainL, argsBack, opLen, opAbs, opInt1, opNeg, disp, cap, callF, takes, puts, selA, sel, aApp, par, gT, gsC, gs0, appF, opDivmod, h, pow10_7])
    have s1 : ∀ b : M Fl, seq (asg (con (.int 0)) (gN 2)) b [some (.node true .lst xs), some (.int m), none, none] = b [some (.node true .lst xs), some (.int m), some (.int 0), none] := fun b => seq_ok (by simp [mkF, reFrz, seq, Pm.ite, rtn, mov, asg, drp, sNx, bnd, Pm.bin, Pm.un, app, aCons, aNil, idx, loc, con, Pm.ret, peek1, peeks, itemOf, on2I, iAdd, iSub, iGt, iGe, iLt, iLe, iDiv, iMod, use1, useL, gI, gN, tst, andT, orT, notT, andE, orE, notE, ifE, ixN, D.frz, D.plain, plainL, argsBack, opLen, opAbs, opInt1, opNeg, disp, cap, callF, takes, puts, selA, sel, aApp, par, gT, gsC, gs0, appF, opDivmod])
    have s2 : ∀ b : M Fl, seq (asg (con (.int 1)) (gN 3)) b [some (.node true .lst xs), some (.int m), some (.int 0), none] = b [some (.node true .lst xs), some (.int m), some (.int 0), some (.int 1)] := fun b => seq_ok (by simp [mkF, reFrz, seq, Pm.ite, rtn, mov, asg, drp, sNx, bnd, Pm.bin, Pm.un, app, aCons, aNil, idx, loc, con, Pm.ret, peek1, peeks, itemOf, on2I, iAdd, iSub, iGt, iGe, iLt, iLe, iDiv, iMod, use1, useL, gI, gN, tst, andT, orT, notT, andE, orE, notE, ifE, ixN, D.frz, D.plain, plainL, argsBack, opLen, opAbs, opInt1, opNeg, disp, cap, callF, takes, puts, selA, sel, aApp, par, gT, gsC, gs0, appF, opDivmod])
    show (match (seq _ _) [some (.node true .lst xs), some (.int m), none, none] with
      | .stuck => _
      | .ok (.rt d) ρ => _
      | .ok .nx ρ => _
      | .ok _ _ => _
      | .exc x ρ => _) = _
    rw [s0, s1, s2, seq_ok e]
    simp [mkF, reFrz, seq, Pm.ite, rtn, mov, asg, drp, sNx, bnd, Pm.bin, Pm.un, app, aCons, aNil, idx, loc, con, Pm.ret, peek1, peeks, itemOf, on2I, iAdd, iSub, iGt, iGe, iLt, iLe, iDiv, iMod, use1, useL, gI, gN, tst, andT, orT, notT, andE, orE, notE, ifE, ixN, D.frz, D.plain, plainL, argsBack, opLen, opAbs, opInt1, opNeg, disp, cap, callF, takes, puts, selA, sel, aApp, par, gT, gsC, gs0, appF, opDivmod, hm]
end Pm
/-! PmZo: + that freezes, chains of texts, upper, replace, enumerate over a text. -/
namespace Pm
open PySem PySem.Spec PyProof.Rows L2
section
variable {K : PySem.W.Frag} {mg : Str → Option Value} {W : WX} {Z Z' H H' : Hp} {S S' : Fp} {σ : Sl} {X : Cx} {A : Nat → Bool} {a b c e o : Expr} {es : List Expr} {pos p : Pos} {fa fb fc f : M EV} {fs : M (List EV)}
theorem rv_r (a : Addr) : RelV (.ref a) (.ref a) := rfl
theorem rv_i (i : Int) (t : Tok) : RelV (.int i) (.int i t) := ⟨_, rfl⟩
theorem rv_s (x : Str) (t : Tok) : RelV (.str x) (.str x t) := ⟨_, rfl⟩
abbrev binF (g : List D → Option D) (fa fb : M EV) : M EV := appF g (aCons fa (aCons fb aNil))
theorem E_opF {op : Operator} {g : List D → Option D} (ho : Opd X (binaryOp op) g) (ha : PE X a (tE X.K X.mg W fa)) (hb : PE X b (tE X.K X.mg W fb)) : PE X (.BinOp a op b pos) (tE X.K X.mg W (binF g fa fb)) := by
  obtain ⟨r, h1, h2⟩ := ho
  exact PE.of (pe_op h1 ha hb) fun σ H Q q => two_of (tE_appF h2 q)
/-! ### a < b < c over texts -/
def rS0 (g : Str → Str → V) : R2 := fun x y H Q => ∃ i j, x = .str i ∧ y = .str j ∧ Q (g i j) H
def chS (p q : Str → Str → Bool) (fa fb fc : M EV) : M EV := bnd fa fun ea => bnd fb fun eb => fun ρ => match peek1 ρ ea, peek1 ρ eb with
  | some (.str i), some (.str j) => if p i j = true then (bnd fc fun ec => fun ρ' => match peek1 ρ' ec with
      | some (.str l) => .ok (.val (.bl (q j l))) ρ'
      | _ => .stuck) ρ else .ok (.val (.bl false)) ρ
  | _, _ => .stuck
theorem strC_of {ev : EV} {v : V} {i : Str} {ρ : Env} (h : peek1 ρ ev = some (.str i)) (r : EVR K Z H σ ev v S) (er : EnvR K Z' H' ρ σ S') : v = .str i := by
  cases ev with
  | val d =>
    have e : d = .str i := Option.some.inj h
    subst e
    exact r
  | ref j => exact peek1_rep (Z := Z') (H := H') (Sa := Fp0) (e := .ref j) er r h
theorem tE_chS {p q : Str → Str → Bool} {Q : VK} (h : tE K mg W (chS p q fa fb fc) σ H Q) : tChain (rS0 fun i j => .bl (p i j)) (rS0 fun i j => .bl (q i j)) (tE K mg W fa) (tE K mg W fb) (tE K mg W fc) σ H Q := by
  obtain ⟨Z, ρ, S, w, er, o⟩ := h
  refine ⟨Z, ρ, S, w, er, ?_⟩
  simp only [chS, bnd] at o
  cases e1 : fa ρ with
  | stuck => rw [e1] at o; exact o
  | exc x ρ1 => rw [e1] at o; exact o
  | ok ea ρ1 =>
    rw [e1] at o
    intro x Z1 H1 S1 Sa st1 dj1 er1 r1
    have t1 := st1.less (S2 := S1) fun a x => .inl x
    refine ⟨Z1, ρ1, S1, t1.wd, er1, ?_⟩
    have o1 := OutE.after (K := K) (mg := mg) (W := W) (σ := σ) (Q := Q) t1 o
    cases e2 : fb ρ1 with
    | stuck => simp only [e2] at o1; exact o1
    | exc x ρ2 => simp only [e2] at o1; exact o1
    | ok eb ρ2 =>
      simp only [e2] at o1
      intro y Z2 H2 S2 Sb st2 dj2 er2 r2
      have t2 := st2.less (S2 := S2) fun a x => .inl x
      have o2 := OutE.after (K := K) (mg := mg) (W := W) (σ := σ) (Q := Q) t2 o1
      split at o2
      · rename_i i j h1 h2
        have ex := strC_of h1 r1 er2
        have ey := strC_of h2 r2 er2
        refine ⟨i, j, ex, ey, p i j, rfl, ?_⟩
        cases hp : p i j with
        | false =>
          rw [hp] at o2
          exact o2 (.bl false) Z2 H2 S2 Fp0 t2.wd.nil (fun _ _ x => x) er2 rfl
        | true =>
          rw [hp] at o2
          simp only [if_true] at o2 ⊢
          refine ⟨Z2, ρ2, S2, t2.wd, er2, ?_⟩
          cases e3 : fc ρ2 with
          | stuck => simp only [e3] at o2; exact o2
          | exc x ρ3 => simp only [e3] at o2; exact o2
          | ok ec ρ3 =>
            simp only [e3] at o2
            intro z Z3 H3 S3 Sc st3 dj3 er3 r3
            have t3 := st3.less (S2 := S3) fun a x => .inl x
            have o3 := OutE.after (K := K) (mg := mg) (W := W) (σ := σ) (Q := Q) t3 o2
            split at o3
            · rename_i l h3
              exact ⟨j, l, ey, strC_of h3 r3 er3, o3 (.bl (q j l)) Z3 H3 S3 Fp0 t3.wd.nil (fun _ _ x => x) er3 rfl⟩
            · exact o3.elim
      · exact o2.elim
theorem E_chS {op op' : CmpOp} {p q : Str → Str → Bool} (h1 : OpR X (compareOp op) (rS0 fun i j => .bl (p i j))) (h2 : OpR X (compareOp op') (rS0 fun i j => .bl (q i j))) (ha : PE X a (tE X.K X.mg W fa)) (hb : PE X b (tE X.K X.mg W fb)) (hc : PE X c (tE X.K X.mg W fc))
    (hm : lastMarks [op, op'] [b, c] = false := by with_unfolding_all rfl) : PE X (.Compare a [op, op'] [b, c] pos) (tE X.K X.mg W (chS p q fa fb fc)) := PE.of (pe_chain h1 h2 ha hb hc hm) fun _ _ _ q => tE_chS q
theorem tT_tstOfS {f : M EV} {t : TE} {Q : Bool → Hp → Prop} (i : ∀ σ H Q, tE K mg W f σ H Q → t σ H Q) (h : tT K mg W (tst f) σ H Q) : tTest t σ H Q := i _ _ _ (tT_tst h)
theorem T_chS {op op' : CmpOp} {p q : Str → Str → Bool} (h1 : OpR X (compareOp op) (rS0 fun i j => .bl (p i j))) (h2 : OpR X (compareOp op') (rS0 fun i j => .bl (q i j))) (ha : PE X a (tE X.K X.mg W fa)) (hb : PE X b (tE X.K X.mg W fb)) (hc : PE X c (tE X.K X.mg W fc))
    (hm : lastMarks [op, op'] [b, c] = false := by with_unfolding_all rfl) : PT X (.Compare a [op, op'] [b, c] pos) (tT X.K X.mg W (tst (chS p q fa fb fc))) := PT.of (pt_chain h1 h2 ha hb hc hm) fun _ _ _ q => tT_tstOfS (fun _ _ _ => tE_chS) q

def dLt (i j : Str) : Bool := decide (i.cps.toList < j.cps.toList)
def dLe (i j : Str) : Bool := !decide (j.cps.toList < i.cps.toList)
def dGt (i j : Str) : Bool := decide (j.cps.toList < i.cps.toList)
def dGe (i j : Str) : Bool := !decide (i.cps.toList < j.cps.toList)
theorem od_lt : OpR X (compareOp .Lt) (rS0 fun i j => .bl (dLt i j)) := op_lt_str
theorem od_le : OpR X (compareOp .LtE) (rS0 fun i j => .bl (dLe i j)) := op_le_str
theorem od_gt : OpR X (compareOp .Gt) (rS0 fun i j => .bl (dGt i j)) := op_gt_str
theorem od_ge : OpR X (compareOp .GtE) (rS0 fun i j => .bl (dGe i j)) := op_ge_str
/-! ### s.upper() -/
def opUpper : List D → Option D
  | [.str x] => if x.length ≤ 5592405 then some (.str (Txt.upper x)) else none
  | _ => none
theorem snd_upper : Snd X (fun vs H Q => ∃ x, vs = [x] ∧ (fun (x : V) (xs : List V) (H : Hp) (Q : VK) => ∃ a, x = .str a ∧ xs = [] ∧ a.length ≤ 5592405 ∧ Q (.str (Txt.upper a)) H) x [] H Q) opUpper := by
  refine snd_pure fun Z H S ds vs d Q w rb e k => ?_
  unfold opUpper at e
  split at e
  · split at e
    · rename_i x hx
      obtain ⟨v, rfl, rv⟩ := rb1 rb
      obtain rfl : v = .str x := rv
      cases e
      exact ⟨_, rfl, x, rfl, rfl, hx, k _ rfl⟩
    · cases e
  · cases e
theorem E_upper {apos : Pos} (ho : PE X o (tE X.K X.mg W fa)) (hbase : attributeBase o "upper" X.env (eval o X.env) = eval o X.env := by rfl) (hline : (apos.endLine == pos.line) = true := by rfl) :
    PE X (.Call (.Attribute o "upper" apos) [] [] pos) (tE X.K X.mg W (smet0 opUpper fa)) := PE.of (pe_upper ho hbase hline) fun _ _ _ q => tE_smet0 snd_upper q
/-! ### s.replace(..) of written texts, behind a docstring -/
theorem PETof {t t' : TE} (h : PET X e t) (i : ∀ σ H Q, t' σ H Q → t σ H Q) : PET X e t' := fun p s σ H Q h0 I q => h p s σ H Q h0 I (i σ H Q q)
theorem PSTof {st : Stmt} {t t' : TS} (h : PST X st t) (i : ∀ D σ H, t' D σ H → t D σ H) : PST X st t' := fun p s σ H D h0 I q => h p s σ H D h0 I (i D σ H q)
theorem PSsTof {st : List Stmt} {t t' : TS} (h : PSsT X st t) (i : ∀ D σ H, t' D σ H → t D σ H) : PSsT X st t' := fun p s σ H D h0 I q => h p s σ H D h0 I (i D σ H q)
def opRepl (y z : Str) : List D → Option D
  | [.str x] => if x.length + (x.length + 1) * z.length ≤ cap then some (.str (Txt.replace x y z)) else none
  | _ => none
theorem snd_repl {y z : Str} : Snd X (fun vs H Q => ∃ v, vs = [v] ∧ (fun (v : V) (H : Hp) (Q : VK) => ∃ x, v = .str x ∧ x.length + (x.length + 1) * z.length ≤ 16777216 ∧ Q (.str (Txt.replace x y z)) H) v H Q) (opRepl y z) := by
  refine snd_pure fun Z H S ds vs d Q w rb e k => ?_
  unfold opRepl at e
  split at e
  · split at e
    · rename_i x hx
      obtain ⟨v, rfl, rv⟩ := rb1 rb
      obtain rfl : v = .str x := rv
      cases e
      exact ⟨_, rfl, x, rfl, Nat.le_trans hx (by decide), k _ rfl⟩
    · cases e
  · cases e
theorem ET_repl {y z : Str} {j k : Nat} {c0 c1 apos : Pos} (ho : PET X o (tE X.K X.mg W f)) (hyz : (y == z) = false := by decide)
    (hst : starEach [.Constant (.str y) j c0, .Constant (.str z) k c1] X.env = [(false, eval (.Constant (.str y) j c0) X.env), (false, eval (.Constant (.str z) k c1) X.env)] := by rfl)
    (hbase : attributeBase o "replace" X.env (eval o X.env) = eval o X.env := by rfl) (hline : (apos.endLine == pos.line) = true := by rfl) :
    PET X (.Call (.Attribute o "replace" apos) [.Constant (.str y) j c0, .Constant (.str z) k c1] [] pos) (tE X.K X.mg W (un (opRepl y z) f)) :=
  PETof (CwR.pet_replT ho hyz hst hbase hline) fun σ H Q q => one_of (r := fun (v : V) (H : Hp) (Q : VK) => ∃ x, v = .str x ∧ x.length + (x.length + 1) * z.length ≤ 16777216 ∧ Q (.str (Txt.replace x y z)) H) (tE_app snd_repl q)
theorem ET_of (h : PE X e (tE X.K X.mg W f)) : PET X e (tE X.K X.mg W f) := CwR.PET.of h
theorem ST_of {st : Stmt} {m : M Fl} (h : PS X st (tS X.K X.mg W A m)) : PST X st (tS X.K X.mg W A m) := PST.of h
theorem BT_of {st : List Stmt} {m : M Fl} (h : PSs X st (tS X.K X.mg W A m)) : PSsT X st (tS X.K X.mg W A m) := PSsT.of h
theorem BT_c {st : Stmt} {sts : List Stmt} {m1 m2 : M Fl} (h : PST X st (tS X.K X.mg W A m1)) (h2 : PSsT X sts (tS X.K X.mg W A m2)) : PSsT X (st :: sts) (tS X.K X.mg W A (seq m1 m2)) := PSsTof (psst_cons h h2) fun _ _ _ q => tS_seq q
theorem BT_1 {st : Stmt} {m : M Fl} (h : PST X st (tS X.K X.mg W A m)) : PSsT X [st] (tS X.K X.mg W A m) := fun p s σ H D h0 I q => CwR.psst_one h p s σ H D h0 I (show tSeq (tS X.K X.mg W A m) tNext D σ H from q)
/-- the docstring of a def: behind it a token is out -/
theorem B_doc {x : Str} {j : Nat} {p2 : Pos} {sts : List Stmt} {m : M Fl} (h : PSsT X sts (tS X.K X.mg W A m)) : PSs X (.Expr (.Constant (.str x) j p2) pos :: sts) (tS X.K X.mg W A (seq (drp (con (.str x))) m)) :=
  PSs.of (CwR.pss_docT h) fun _ _ _ q => q
/-- behind name = '..' and name = '..'.join(e) a token is out -/
theorem B_str {i : Nat} {x cst : Str} {j : Nat} {cpos pos' : Pos} {sts : List Stmt} {m : M Fl} (h2 : PSsT X sts (tS X.K X.mg W A m)) (hN : X.N.Nodup) (hA : A i = true := by rfl) (hi : X.N[i]? = some x := by rfl) (hx : Loc X.env.scope x := by first | exact .inl rfl | exact .inr rfl)
    (hs : swapsWith (.Constant (.str cst) j cpos) (some (.Name x pos')) pos.line X.env = pure false := by rfl) (hf : X.fn x = true ∨ X.env.scope.names.lookup x = some .local := by first | exact .inl rfl | exact .inr rfl) :
    PSs X (.Assign [.Name x pos'] (.Constant (.str cst) j cpos) pos :: sts) (tS X.K X.mg W A (seq (asg (con (.str cst)) (gN i)) m)) :=
  PSs.of (pss_str hN hi hx h2 hs hf) fun D σ H q => by
    have q1 := tS_asg (tS_seq q)
    exact tG_N hA (tE_con (d := .str cst) (v := .str cst) (fun _ _ => rfl) q1)
theorem join_tok {z : Str} {j : Nat} {c0 apos : Pos} (he : PE X e (tE X.K X.mg W f)) (hs : starEach [e] X.env = [(false, eval e X.env)]) (hbase : attributeBase (.Constant (.str z) j c0) "join" X.env (eval (.Constant (.str z) j c0) X.env) = eval (.Constant (.str z) j c0) X.env) (hline : (apos.endLine == pos.line) = true)
    (pins : List (Addr × Obj)) (s : Shared) (H : Hp) (Q : VK) (I : Inv X pins σ H s) (h : tE X.K X.mg W (smet1 opJoin (con (.str z)) f) σ H Q) :
    wpAny (model X.prog X.w) X.A (eval (.Call (.Attribute (.Constant (.str z) j c0) "join" apos) [e] [] pos) X.env) (fun u s' => 1 ≤ s'.toks ∧ EP X pins σ Q u s') X.xe s := by
  have h1 := tE_smet1 (r := rJoin X.K) snd_join h
  have h2 := tE_con (d := .str z) (v := .str z) (fun _ _ => rfl) h1
  obtain ⟨_, q1⟩ := (show (∃ a, V.str z = .str a) ∧ tE X.K X.mg W f σ H (fun y H2 => rJoin X.K (.str z) [y] H2 Q) from h2)
  refine PySem.Call_method1 hbase hs hline (Calls.Constant_str ?_)
  have I1 : Inv X pins σ H { s with toks := s.toks + 1 } := I.tok _
  refine ⟨"str", _, F.plainAttrs_str, F.slot_str_join, F.type_str_join, typeIs_str _ _ _, (fun _ e => nomatch e), ?_⟩
  refine wpAny_mono (PySem.wpAny_toks (Calls.callWith_builtin (Q := EP X pins σ Q) rfl (Calls.evalArgs_plain (Calls.spliced_cons (thn (he.run pins _ σ H _ I1 q1) fun u s2 ⟨y, H2, I2, r2, q2⟩ => Calls.spliced_nil (mt_join pins s2 σ H2 (.str z) [y] (.str z s.toks) [u] Q I2 ⟨_, rfl⟩ (.cons r2 .nil) q2)))))) (fun u s' q => ⟨?_, q.2⟩) fun _ _ z => z.2
  have := q.1
  show 1 ≤ s'.toks
  have h3 : s.toks + 1 ≤ s'.toks := this
  omega
theorem B_join {i : Nat} {x z : Str} {j : Nat} {c0 apos jpos pos' : Pos} {sts : List Stmt} {m : M Fl} (he : PE X e (tE X.K X.mg W f)) (h2 : PSsT X sts (tS X.K X.mg W A m)) (hN : X.N.Nodup) (hA : A i = true := by rfl) (hi : X.N[i]? = some x := by rfl) (hx : Loc X.env.scope x := by first | exact .inl rfl | exact .inr rfl)
    (hs : swapsWith (.Call (.Attribute (.Constant (.str z) j c0) "join" apos) [e] [] jpos) (some (.Name x pos')) pos.line X.env = pure false := by rfl) (hf : X.fn x = true ∨ X.env.scope.names.lookup x = some .local := by first | exact .inl rfl | exact .inr rfl)
    (hst : starEach [e] X.env = [(false, eval e X.env)] := by rfl) (hbase : attributeBase (.Constant (.str z) j c0) "join" X.env (eval (.Constant (.str z) j c0) X.env) = eval (.Constant (.str z) j c0) X.env := by rfl) (hline : (apos.endLine == jpos.line) = true := by rfl) :
    PSs X (.Assign [.Name x pos'] (.Call (.Attribute (.Constant (.str z) j c0) "join" apos) [e] [] jpos) pos :: sts) (tS X.K X.mg W A (seq (asg (smet1 opJoin (con (.str z)) f) (gN i)) m)) := by
  refine ⟨fun pins s σ H D I h => ?_⟩
  have q1 := tS_asg (tS_seq h)
  refine wpAny_execs_cons (wpAny_Assign_Name (wpAny_mono (join_tok he hst hbase hline pins s H _ I q1) (fun v s1 q => ?_) fun _ _ z => z) hs)
  obtain ⟨hk, y, H1, I1, r1, q2⟩ := q
  refine wpAny_mono (PySem.wpAny_toks (store_ok (v := y) (u := v) (Q := fun _ s2 => Inv X pins (σ.set i (some y)) H1 s2) I1 hN hi hx r1 (fun _ I2 => I2) hf)) (fun _ s2 q => ?_) fun _ _ z => z.2
  exact h2 pins s2 _ H1 D (Nat.le_trans hk q.1) q.2 (tG_N hA q2)
theorem ST_set {i : Nat} {x : Str} {pos' : Pos} (he : PET X e (tE X.K X.mg W f)) (hN : X.N.Nodup) (hA : A i = true := by rfl) (hi : X.N[i]? = some x := by rfl) (hx : Loc X.env.scope x := by first | exact .inl rfl | exact .inr rfl) (hs : swapsWith e (some (.Name x pos')) pos.line X.env = pure false := by rfl)
    (hf : X.fn x = true ∨ X.env.scope.names.lookup x = some .local := by first | exact .inl rfl | exact .inr rfl) : PST X (.Assign [.Name x pos'] e pos) (tS X.K X.mg W A (asg f (gN i))) := by
  intro pins s σ H D h0 I h
  refine wpAny_Assign_Name (thn (he pins s σ H _ h0 I (tS_asg h)) fun v s1 ⟨y, H1, I1, r1, q1⟩ => ?_) hs
  exact store_ok I1 hN hi hx r1 (fun s2 I2 => ⟨_, H1, I2, tG_N hA q1⟩) hf
theorem ST_ret (h : PET X e (tE X.K X.mg W f)) : PST X (.Return (some e) pos) (tS X.K X.mg W A (rtn f)) := PSTof (CwR.pst_ret h) fun _ _ _ q => tS_rtn q
theorem ST_while {body : List Stmt} {tc : M Bool} {m : M Fl} (hp : PassesOwn (model X.prog X.w) X.A X.env X.xe) (hc : PT X c (tT X.K X.mg W tc)) (hb : PSsT X body (tS X.K X.mg W A m)) : PST X (.While c body [] pos) (tS X.K X.mg W A (whl tc m)) := by
  intro pins s σ H D h0 I h
  obtain ⟨Wv, ⟨m0, w0⟩, turn⟩ := tS_while h
  refine wpAny_While (codeAny_whileLoop (fun n s' => 1 ≤ s'.toks ∧ ∃ σ' H', Inv X pins σ' H' s' ∧ Wv n σ' H') ?_ m0 ⟨h0, σ, H, I, w0⟩)
  rintro n s1 ⟨h1, σ1, H1, I1, w1⟩
  refine wpAny_passesOwn hp (wpAny_mono (PySem.wpAny_toks (hc.run pins s1 σ1 H1 _ I1 (turn n σ1 H1 w1))) (fun b s2 q => ?_) fun _ _ z => z.2)
  obtain ⟨hk, H2, I2, q2⟩ := q
  cases b with
  | true =>
    obtain ⟨N, hN, q2⟩ := q2
    rw [if_pos rfl]
    refine wpAny_passesOwn hp (wpAny_mono (PySem.wpAny_toks (hb pins s2 σ1 H2 _ (Nat.le_trans h1 hk) I2 q2)) (fun f s3 q3 => ?_) fun _ _ z => z.2)
    obtain ⟨hk3, q3⟩ := q3
    cases f with
    | next =>
      obtain ⟨σ3, H3, I3, n3⟩ := q3
      obtain ⟨m', hm, w3⟩ := hN σ3 H3 n3
      exact ⟨m', hm, Nat.le_trans h1 (Nat.le_trans hk hk3), σ3, H3, I3, w3⟩
    | cont =>
      obtain ⟨σ3, H3, I3, n3⟩ := q3
      obtain ⟨m', hm, w3⟩ := hN σ3 H3 n3
      exact ⟨m', hm, Nat.le_trans h1 (Nat.le_trans hk hk3), σ3, H3, I3, w3⟩
    | brk => exact q3
    | ret v => exact q3
  | false =>
    rw [if_neg Bool.false_ne_true]
    exact wpAny_execs_nil ⟨σ1, H2, I2, q2⟩
end
/-! ### enumerate(text) -/
def ItES (x : Str) : It := ⟨fun i _ => i < x.cps.size, fun i H v H' => ∃ T c, v = .ref T ∧ H T = none ∧ H' = upd H T (.tup [.int (i : Nat), .str ⟨#[c]⟩]) ∧ x.cps[i]? = some c, fun i _ => x.cps.size ≤ i⟩
theorem turn_enumS {P : Program} {w : World} {K : PySem.W.Frag} {elts : List Expr} {kk : Nat} {tpos : Pos} (e it : Addr) (x : Str) (t : Tok) (ty : String) (hty : ty = "str_ascii_iterator" ∨ ty = "str_iterator") :
    Turn P w K (.Tuple elts kk tpos) (ItES x) [e, it] e (fun i h => i ≤ x.cps.size ∧ (∃ old, IsEnum h e it ((i : Nat) : Int) old) ∧ h.IsStrIter it ty x t i ∧ e ≠ it) where
  mem := by simp
  obj := fun i h st b hb => by
    obtain ⟨_, ⟨old, he⟩, ⟨o, ho, hc, hd⟩, _⟩ := st
    have e' : b = e ∨ b = it := by simpa using hb
    rcases e' with z | z
    · rw [z]; exact ⟨_, he, fun v q => nomatch q⟩
    · rw [z]; exact ⟨o, ho, fun v q => by rw [hd] at q; cases q⟩
  keep := fun i h h' st k => let ⟨hi, ⟨old, he⟩, ⟨o, ho, r⟩, hne⟩ := st; ⟨hi, ⟨old, k e (by simp) _ he⟩, ⟨o, k it (by simp) o ho, r⟩, hne⟩
  item := by
    intro X hP hw hK hc i pins s σ H E I hf st hg
    subst hP hw hK
    obtain ⟨hi, ⟨old, he⟩, hit, hne⟩ := st
    have hg : i < x.cps.size := hg
    have hel : e < s.heap.objs.size := Heap.lt_size he
    have hil : it < s.heap.objs.size := by obtain ⟨_, q, _⟩ := hit; exact Heap.lt_size q
    have D : PySem.Draws X.prog X.w X.A.in1 it [it] x.cps.size (fun i v => ∃ c u, x.cps[i]? = some c ∧ v = .str ⟨#[c]⟩ u) (fun i h => h.IsStrIter it ty x t i) := by
      rcases hty with e | e
      · rw [e]; exact PySem.Draws.strAscii (A := X.A.in1) (by show X.A.handled = none; exact I.ok.hd hc) it x t
      · rw [e]; exact PySem.Draws.strWide (A := X.A.in1) (by show X.A.handled = none; exact I.ok.hd hc) it x t
    refine wpAny_pyNext_enum_itemD D he hit hg hne (by simpa using hne) fun u h' tk hP ho hit' hT hsz hk => ?_
    obtain ⟨c, tc, hcx, rfl⟩ := hP
    refine ⟨_, rfl, wpAny_letOwnedTupleGo_enum (s := { s with heap := h', toks := tk + 1 }) ho fun h'' he' sb => ?_⟩
    have hT2 : h''.get? s.heap.objs.size = some { cls := .type "tuple", data := .seq #[.int i tk, .str ⟨#[c]⟩ tc] } := (sb.2 _ (Nat.ne_of_gt hel)).trans hT
    have new : ObjOk X.prog X.w (upd H s.heap.objs.size (.tup [.int (i : Nat), .str ⟨#[c]⟩])) h'' s.heap.objs.size (.tup [.int (i : Nat), .str ⟨#[c]⟩]) :=
      ⟨by show 2 ≤ sizeLine; decide, [.int i tk, .str ⟨#[c]⟩ tc], .cons ⟨_, rfl⟩ (.cons ⟨_, rfl⟩ .nil), ⟨_, hT2, rfl, _, rfl⟩⟩
    have I1 : Inv X pins σ (upd H s.heap.objs.size (.tup [.int (i : Nat), .str ⟨#[c]⟩])) { s with heap := h'', toks := tk + 1 } :=
      I.turnedNew (ch := [e, it]) (fun b ob hb q => (sb.2 b (fun z => hb (by simp [z]))).trans (hk b ob (fun z => hb (by simp [z])) (fun z => hb (by simp [z])) q)) hf (Nat.le_refl _) new
    refine ⟨.ref s.heap.objs.size, _, I1, rfl, ⟨_, c, rfl, I.hok.fresh (Nat.le_refl _), rfl, hcx⟩, ⟨hg, ⟨.str ⟨#[c]⟩ tc, ?_⟩, ?_, hne⟩, fun b hb => ?_⟩
    · have e1 : ((i + 1 : Nat) : Int) = (i : Int) + 1 := by omega
      rw [e1]; exact he'
    · obtain ⟨o, q, r⟩ := hit'
      exact ⟨o, (sb.2 it (Ne.symm hne)).trans q, r⟩
    · have hb' : b < s.heap.objs.size := by
        have e' : b = e ∨ b = it := by simpa using hb
        rcases e' with z | z
        · rw [z]; exact hel
        · rw [z]; exact hil
      rw [upd_ne (Nat.ne_of_lt hb')]
      exact (hf b hb).1
  done := by
    intro X hP hw hK hc i pins s σ H E I hf st hg
    subst hP hw hK
    obtain ⟨hi, ⟨old, he⟩, hit, hne⟩ := st
    obtain ⟨f0, f1, f2, f3, f4, f5⟩ := hf it (by simp)
    have ei : i = x.cps.size := Nat.le_antisymm hi hg
    have D : PySem.Draws X.prog X.w X.A.in1 it [it] x.cps.size (fun i v => ∃ c u, x.cps[i]? = some c ∧ v = .str ⟨#[c]⟩ u) (fun i h => h.IsStrIter it ty x t i) := by
      rcases hty with e | e
      · rw [e]; exact PySem.Draws.strAscii (A := X.A.in1) (by show X.A.handled = none; exact I.ok.hd hc) it x t
      · rw [e]; exact PySem.Draws.strWide (A := X.A.in1) (by show X.A.handled = none; exact I.ok.hd hc) it x t
    exact wpAny_pyNext_enum_endD D he (by rw [← ei]; exact hit) fun h' eb => ⟨rfl, I.turned (t' := s.toks) (fun b o hb q => eb b o hb q) f0 f1 f3 f4 f5⟩
  self := fun A i s Q E st h => let ⟨_, ⟨_, he⟩, _⟩ := st; wpAny_pyIter_enum he h
def iEnumS (te : TE) : TI := fun σ H R => te σ H fun v H1 => ∃ x, v = .str x ∧ R (ItES x) H1
theorem pi_enumS {X : Cx} {e : Expr} {te : TE} {p pos tpos : Pos} {elts : List Expr} {kk : Nat} (hg : Gl X "enumerate") (hm : X.mg "enumerate" = none) (he0 : PE X e te) (hs : starEach [e] X.env = [(false, eval e X.env)] := by rfl) :
    PI X (.Tuple elts kk tpos) (.Call (.Name "enumerate" p) [e] [] pos) (iEnumS te) := by
  refine ⟨fun pins s σ H R I h => ?_⟩
  have ha : PA X [e] (tCons te tNil) := pa_cons he0 pa_nil hs
  have h2 : (tCons te tNil) σ H (fun vs H1 => ∃ x, vs = [.str x] ∧ R (ItES x) H1) := by
    have key : ∀ v H1, (∃ x, v = .str x ∧ R (ItES x) H1) → tNil σ H1 (fun xs H2 => ∃ x, v :: xs = [V.str x] ∧ R (ItES x) H2) := fun v H1 ⟨x, ex, r⟩ => ⟨x, by rw [ex], r⟩
    have e1 : (fun v H1 => ∃ x, v = V.str x ∧ R (ItES x) H1) = fun v H1 => tNil σ H1 (fun xs H2 => ∃ x, v :: xs = [V.str x] ∧ R (ItES x) H2) := by
      funext v H1
      refine propext ⟨key v H1, fun ⟨x, ex, r⟩ => ⟨x, (List.cons.inj ex).1, r⟩⟩
    show te σ H (fun v H1 => tNil σ H1 (fun xs H2 => ∃ x, v :: xs = [V.str x] ∧ R (ItES x) H2))
    rw [← e1]
    exact h
  refine Call_ (ld_blt I hg hm boot_enumerate (PyProof.Rows.callWith_type1 (thn (ha.run pos pins s σ H _ I h2) fun us s1 ⟨vs, H1, I1, r1, q1⟩ => ?_) hs rfl))
  obtain ⟨x, ex, q⟩ := q1
  subst ex
  cases r1 with
  | cons r rr =>
    cases rr
    obtain ⟨t, rfl⟩ := r
    refine call_enumerate_str fun h' he hit hsz hk => wpAny_pyIter_enum he ?_
    have I2 : Inv X pins σ H1 { s1 with heap := h' } := I1.kept (t' := s1.toks) hk
    have hty : strIterType x = "str_ascii_iterator" ∨ strIterType x = "str_iterator" := by
      unfold strIterType
      split
      · exact .inl rfl
      · exact .inr rfl
    refine ⟨s1.heap.objs.size + 1, [s1.heap.objs.size + 1, s1.heap.objs.size], _, _, H1, rfl, I2, turn_enumS (s1.heap.objs.size + 1) s1.heap.objs.size x t _ hty, ⟨Nat.zero_le _, ⟨.none, he⟩, hit, Nat.succ_ne_self _⟩, fun b hb => ?_, q⟩
    have e' : b = s1.heap.objs.size + 1 ∨ b = s1.heap.objs.size := by simpa using hb
    have hle : s1.heap.objs.size ≤ b := by
      rcases e' with z | z
      · rw [z]; exact Nat.le_add_right _ _
      · rw [z]; exact Nat.le_refl _
    exact I1.fpOk hle (I1.hok.fresh hle)
section
variable {K : PySem.W.Frag} {mg : Str → Option Value} {W : WX} {Z Z' H H' : Hp} {S S' : Fp} {σ : Sl} {X : Cx} {a b c e o : Expr} {pos : Pos} {fa fb fc : M EV}
def enumS (x : Str) : List D := x.cps.toList.zipIdx.map fun p => .tup [.int (p.2 : Int), .str ⟨#[p.1]⟩]
theorem walk_enumS (x : Str) : WalkR K (ItES x) Z (enumS x) := by
  intro Z' H' z1 z2
  refine ⟨fun i hi => by unfold enumS at hi; rw [List.length_map, List.length_zipIdx, Array.length_toList] at hi; exact hi, fun i d hd => ?_⟩
  unfold enumS at hd
  rw [List.getElem?_map, List.getElem?_zipIdx] at hd
  cases e : x.cps.toList[i]? with
  | none => rw [e] at hd; cases hd
  | some c =>
    rw [e] at hd
    have hl : i < x.cps.size := by
      have := (List.getElem?_eq_some_iff.mp e).1
      simpa using this
    refine ⟨hl, fun y H'' S' w h => ?_⟩
    obtain ⟨T, c', rfl, nT, rfl, hc'⟩ := h
    have ec : c' = c := by
      have e' : x.cps[i]? = some c := by simpa using e
      rw [e'] at hc'
      exact (Option.some.inj hc').symm
    subst ec
    cases hd
    have st2 := Step.allocZ (o := .tup [.int ((i : Nat) : Int), .str ⟨#[c']⟩]) w nT
    refine ⟨_, st2, fun a o e => by rw [upd_ne (ne_of_none e nT)]; exact e, T, [.int ((i : Nat) : Int), .str ⟨#[c']⟩], rfl, SqT.of upd_same, Fp0, Fp0, fun _ x => x, fun _ x => x, fun _ x _ => x, by simp [Rep], Fp0, Fp0, fun _ x => x, fun _ x => x, fun _ x _ => x, rfl, trivial⟩
def srcEnumS (f : M EV) : M (List D) := bnd f fun e => fun ρ => match peek1 ρ e with
  | some (.str x) => .ok (enumS x) ρ
  | _ => .stuck
theorem tI_enumS {R : It → Hp → Prop} (h : tI K mg W (srcEnumS fa) σ H R) : iEnumS (tE K mg W fa) σ H R := by
  obtain ⟨Z, ρ, S, w, er, o⟩ := h
  refine ⟨Z, ρ, S, w, er, ?_⟩
  simp only [srcEnumS, bnd] at o
  cases e1 : fa ρ with
  | stuck => rw [e1] at o; exact o
  | exc x ρ1 => rw [e1] at o; exact o
  | ok ev ρ1 =>
    simp only [e1] at o
    intro v Z1 H1 S1 Sa st dj er1 r1
    split at o
    · rename_i x hx
      obtain rfl := str_of hx r1 er1
      exact ⟨x, rfl, o (ItES x) Z1 H1 S1 (st.less fun a x => .inl x) er1 (walk_enumS x)⟩
    · exact o.elim
theorem I_enumS {p tpos : Pos} {elts : List Expr} {kk : Nat} (hm : X.mg "enumerate" = none) (h : PE X e (tE X.K X.mg W fa)) (hg : Gl X "enumerate" := by rfl) (hs : starEach [e] X.env = [(false, eval e X.env)] := by rfl) :
    PI X (.Tuple elts kk tpos) (.Call (.Name "enumerate" p) [e] [] pos) (tI X.K X.mg W (srcEnumS fa)) := PI.of (pi_enumS hg hm h hs) fun _ _ _ q => tI_enumS q
end
end Pm
/-! PmZp: plain laws: comprehensions by what stays true, items of a display, small things and how they are shown. -/
namespace Pm
open PySem PySem.Spec PyProof.Rows L2
theorem compIt_inv {own : List Nat} {g : Tg} {c : M Bool} {e : M EV} : ∀ {ds : List D} (I : Nat → Env → List D → Prop) (acc : List D) (ρ : Env), I 0 ρ acc → acc.length + ds.length ≤ cap →
    (∀ (j : Nat) (d : D) (ρ : Env) (ac : List D), ds[j]? = some d → I j ρ ac → ∃ ρ1 ρ2 ρ3 ρ4 ev d', g d ρ = .ok () ρ1 ∧ c ρ1 = .ok true ρ2 ∧ e ρ2 = .ok ev ρ3 ∧ use1 ev ρ3 = .ok d' ρ4 ∧ I (j + 1) (wipeE ρ4 own) (ac ++ [d'])) →
    ∃ acc' ρ', compIt own g c e ds ρ acc = .ok acc' ρ' ∧ I ds.length ρ' acc' ∧ acc'.length = acc.length + ds.length
  | [], I, acc, ρ, h, _, _ => ⟨acc, ρ, rfl, h, rfl⟩
  | d :: ds, I, acc, ρ, h, hl, f => by
    obtain ⟨ρ1, ρ2, ρ3, ρ4, ev, d', e1, e2, e3, e4, h2⟩ := f 0 d ρ acc rfl h
    rw [List.length_cons] at hl
    have hl' : acc.length < cap := by omega
    obtain ⟨acc', ρ', e5, h5, h6⟩ := compIt_inv (ds := ds) (fun j => I (j + 1)) (acc ++ [d']) (wipeE ρ4 own) h2 (by rw [List.length_append, List.length_singleton]; omega) fun j d ρ ac hd hI => f (j + 1) d ρ ac (by simpa using hd) hI
    refine ⟨acc', ρ', ?_, h5, ?_⟩
    · unfold compIt
      simp only [e1, e2, e3, e4, if_pos hl']
      exact e5
    · rw [h6, List.length_append, List.length_singleton, List.length_cons]
      omega
/-- a comprehension that keeps some of the items -/
theorem compIt_fm {own : List Nat} {g : Tg} {c : M Bool} {e : M EV} {ρ : Env} (v : D → Option D) : ∀ (ds acc : List D), (∀ d ∈ ds, ∃ ρ1 ρ2, g d ρ = .ok () ρ1 ∧
      ((∃ w ρ3 ρ4 ev, v d = some w ∧ c ρ1 = .ok true ρ2 ∧ e ρ2 = .ok ev ρ3 ∧ use1 ev ρ3 = .ok w ρ4 ∧ wipeE ρ4 own = ρ) ∨ (v d = none ∧ c ρ1 = .ok false ρ2 ∧ wipeE ρ2 own = ρ))) → acc.length + ds.length ≤ cap →
    compIt own g c e ds ρ acc = .ok (acc ++ ds.filterMap v) ρ
  | [], acc, _, _ => by unfold compIt; rw [List.filterMap_nil, List.append_nil]
  | d :: ds, acc, h, hl => by
    obtain ⟨ρ1, ρ2, e1, e2⟩ := h d List.mem_cons_self
    rw [List.length_cons] at hl
    have hl' : acc.length < cap := by omega
    unfold compIt
    rcases e2 with ⟨w, ρ3, ρ4, ev, hv, e2, e3, e4, e5⟩ | ⟨hv, e2, e5⟩
    · simp only [e1, e2, e3, e4, if_pos hl', e5]
      rw [compIt_fm v ds (acc ++ [w]) (fun d' hd => h d' (List.mem_cons_of_mem _ hd)) (by rw [List.length_append, List.length_singleton]; omega), List.filterMap_cons, hv, List.append_assoc]
      rfl
    · simp only [e1, e2, e5]
      rw [compIt_fm v ds acc (fun d' hd => h d' (List.mem_cons_of_mem _ hd)) (by omega), List.filterMap_cons, hv]
theorem atI_all {P : D → Prop} {xs : List D} {k : Int} (h0 : 0 ≤ k) (h1 : k < (xs.length : Int)) (h : ∀ x ∈ xs, P x) : ∃ d, atI xs k = some d ∧ P d := by
  obtain ⟨n, rfl⟩ := Int.eq_ofNat_of_zero_le h0
  have hn : n < xs.length := by omega
  refine ⟨xs[n], ?_, h _ (List.getElem_mem hn)⟩
  unfold atI ixN
  simp [hn]
/-- a small thing: at most n deep, numbers of at most two hundred bits -/
def low : Nat → D → Bool
  | _, .non => true
  | _, .bl _ => true
  | _, .int i => decide (i.natAbs.log2 < 200)
  | _, .str x => PyData.strOk x
  | n + 1, .node _ .lst xs => xs.all (low n)
  | n + 1, .node _ .tup xs => xs.all (low n)
  | _, _ => false
theorem low_shp : ∀ (n : Nat) (d : D), low n d = true → shp n d = true
  | _, .non, _ => by unfold shp; rfl
  | _, .bl _, _ => by unfold shp; rfl
  | _, .int _, _ => by unfold shp; rfl
  | n, .str x, h => by cases n <;> simpa [low, shp] using h
  | n, .op _, h => by cases n <;> simp [low] at h
  | 0, .node _ k xs, h => by cases k <;> simp [low] at h
  | n + 1, .node o k xs, h => by
    cases k with
    | lst => simp only [low, List.all_eq_true] at h; simp only [shp, List.all_eq_true]; exact fun x hx => low_shp n x (h x hx)
    | tup => simp only [low, List.all_eq_true] at h; simp only [shp, List.all_eq_true]; exact fun x hx => low_shp n x (h x hx)
    | scr => simp [low] at h
    | dct ks => simp [low] at h
    | obj C fs => simp [low] at h
    | ins C fs => simp [low] at h
theorem low_shw : ∀ (n : Nat) (d : D), low n d = true → shw n d = true
  | _, .non, _ => by unfold shw; rfl
  | _, .bl _, _ => by unfold shw; rfl
  | n, .int i, h => by
    have h' : i.natAbs.log2 < 200 := by cases n <;> simpa [low] using h
    cases n <;> exact decide_eq_true (Nat.lt_trans h' (by decide))
  | n, .str x, h => by unfold shw; rfl
  | n, .op _, h => by cases n <;> simp [low] at h
  | 0, .node _ k xs, h => by cases k <;> simp [low] at h
  | n + 1, .node o k xs, h => by
    cases k with
    | lst => simp only [low, List.all_eq_true] at h; simp only [shw, List.all_eq_true]; exact fun x hx => low_shw n x (h x hx)
    | tup => simp only [low, List.all_eq_true] at h; simp only [shw, List.all_eq_true]; exact fun x hx => low_shw n x (h x hx)
    | scr => simp [low] at h
    | dct ks => simp [low] at h
    | obj C fs => simp [low] at h
    | ins C fs => simp [low] at h
theorem low_mono : ∀ {n m : Nat} {d : D}, low n d = true → n ≤ m → low m d = true
  | _, _, .non, _, _ => by unfold low; rfl
  | _, _, .bl _, _, _ => by unfold low; rfl
  | n, m, .int i, h, _ => by cases n <;> cases m <;> simpa [low] using h
  | n, m, .str x, h, _ => by cases n <;> cases m <;> simpa [low] using h
  | n, _, .op _, h, _ => by cases n <;> simp [low] at h
  | 0, _, .node _ k xs, h, _ => by cases k <;> simp [low] at h
  | n + 1, 0, .node _ k xs, _, l => by omega
  | n + 1, m + 1, .node o k xs, h, l => by
    cases k with
    | lst => simp only [low, List.all_eq_true] at h ⊢; exact fun x hx => low_mono (h x hx) (by omega)
    | tup => simp only [low, List.all_eq_true] at h ⊢; exact fun x hx => low_mono (h x hx) (by omega)
    | scr => simp [low] at h
    | dct ks => simp [low] at h
    | obj C fs => simp [low] at h
    | ins C fs => simp [low] at h
theorem int_short {i : Int} (h : i.natAbs.log2 < 200) : (PyData.shown (.int i)).length ≤ 201 := by
  have e := int_text_length_le (a := i) (k := 200) (by decide) h
  show (Str.ofString (toString i)).length ≤ 201
  rw [PySem.ofString_length]
  exact e
theorem leaves_all (B : Nat) : ∀ xs : List D, (∀ x ∈ xs, (toP x).leavesShort B = true) → PyData.leavesShortAll B (toPL xs) = true
  | [], _ => rfl
  | x :: xs, h => by
    simp only [toPL, PyData.leavesShortAll]
    rw [h x List.mem_cons_self, leaves_all B xs fun y hy => h y (List.mem_cons_of_mem _ hy)]
    rfl
theorem low_leaves : ∀ (n : Nat) (d : D), low n d = true → (toP d).leavesShort 201 = true
  | _, .non, _ => rfl
  | _, .bl _, _ => rfl
  | n, .int i, h => by
    have h' : i.natAbs.log2 < 200 := by cases n <;> simpa [low] using h
    exact decide_eq_true (int_short h')
  | n, .str x, h => by
    have h' : PyData.strOk x = true := by cases n <;> simpa [low] using h
    have h0 : x.cps.all (· < 0x110000) = true := h'
    show (x.cps.toList.all fun c => decide (c < 16 ^ 8)) = true
    rw [List.all_eq_true]
    intro c hc
    rw [Array.all_eq_true'] at h0
    have := h0 c (by simpa using hc)
    simp only [decide_eq_true_eq] at this ⊢
    exact Nat.lt_trans this (by decide)
  | n, .op _, h => by cases n <;> simp [low] at h
  | 0, .node _ k xs, h => by cases k <;> simp [low] at h
  | n + 1, .node o k xs, h => by
    cases k with
    | lst => simp only [low, List.all_eq_true] at h; simp only [toP, PyData.leavesShort]; exact leaves_all _ xs fun x hx => low_leaves n x (h x hx)
    | tup => simp only [low, List.all_eq_true] at h; simp only [toP, PyData.leavesShort]; exact leaves_all _ xs fun x hx => low_leaves n x (h x hx)
    | scr => simp [low] at h
    | dct ks => simp [low] at h
    | obj C fs => simp [low] at h
    | ins C fs => simp [low] at h
/-- how much a thing holds -/
def mass (d : D) : Nat := (toP d).bulk
def massL (xs : List D) : Nat := PyData.bulkAll (toPL xs)
theorem mass_tup (o : Bool) (xs : List D) : mass (.node o .tup xs) = massL xs := rfl
theorem mass_lst (o : Bool) (xs : List D) : mass (.node o .lst xs) = massL xs := rfl
theorem massL_nil : massL [] = 0 := rfl
theorem massL_cons (x : D) (xs : List D) : massL (x :: xs) = mass x + 1 + massL xs := rfl
theorem mass_non : mass .non = 0 := rfl
theorem mass_bl (b : Bool) : mass (.bl b) = 0 := rfl
theorem mass_int (i : Int) : mass (.int i) = 0 := rfl
theorem mass_str (x : Str) : mass (.str x) = x.cps.size := rfl
theorem massL_le {c : Nat} : ∀ {xs : List D}, (∀ x ∈ xs, mass x ≤ c) → massL xs ≤ xs.length * (c + 1)
  | [], _ => by rw [massL_nil]; exact Nat.zero_le _
  | x :: xs, h => by
    rw [massL_cons, List.length_cons, Nat.add_mul]
    have := h x List.mem_cons_self
    have := massL_le (xs := xs) fun y hy => h y (List.mem_cons_of_mem _ hy)
    omega
theorem repr_low {n : Nat} {d : D} (h : low n d = true) (hn : n ≤ 60) (hm : mass d ≤ 4000) : opRepr [d] = some (.str (reprD d)) := by
  have h60 := low_mono h hn
  have h1 := low_shp 60 d h60
  have h2 := low_shw 60 d h60
  have h3 := PyData.shown_le_bulk 201 (by decide) (toP d) (low_leaves 60 d h60)
  have h4 : (reprD d).length ≤ cap := by
    show (toP d).shown.length ≤ 1000000
    have : (toP d).bulk ≤ 4000 := hm
    omega
  unfold opRepr
  split
  · rename_i i e
    obtain rfl := List.singleton_inj.mp e
    rw [if_pos h2]
  · rename_i d' _ e
    obtain rfl := List.singleton_inj.mp e
    rw [h1, h2, decide_eq_true h4]
    rfl
  · rename_i h' 
    exact absurd rfl (h' d)
theorem reprA_low {n : Nat} {d : D} (h : low n d = true) (hn : n ≤ 60) (hm : mass d ≤ 4000) : opReprA [d] = some (.str (reprD d)) := by
  rw [← repr_low h hn hm]
  unfold opReprA
  split
  · rename_i o ks xs e
    obtain rfl := List.singleton_inj.mp e
    cases n <;> simp [low] at h
  · rename_i o xs e
    obtain rfl := List.singleton_inj.mp e
    have hx : xs.any isDct = false := by
      cases n with
      | zero => simp [low] at h
      | succ n =>
        rw [List.any_eq_false]
        intro x hx
        have hl := List.all_eq_true.mp h x hx
        cases x with
        | node o k ys => cases k <;> cases n <;> simp [low, isDct] at hl ⊢
        | _ => simp [isDct]
    rw [hx]
    rfl
  · rename_i e
    rfl
theorem Sm.low {e : Nat} {x : Int} (h : Sm e x) (l : e ≤ 200) (n : Nat) : low n (.int x) = true := by
  have : x.natAbs.log2 < 200 := by
    by_cases hx : x.natAbs = 0
    · rw [hx]; decide
    · exact (Nat.log2_lt hx).mpr (h.mono l)
  cases n <;> exact decide_eq_true this
def isTup : D → Bool
  | .node _ .tup _ => true
  | _ => false
def isLst : D → Bool
  | .node _ .lst _ => true
  | _ => false
def isStr : D → Bool
  | .str _ => true
  | _ => false
def isBl : D → Bool
  | .bl _ => true
  | _ => false
def isWhl : D → Bool
  | .int _ => true
  | .bl _ => true
  | _ => false
theorem isi_tup {d : D} (h : (tyN d).isSome = true) : opIsi [d, .op (.ty "tuple")] = some (.bl (isTup d)) := by
  cases d with
  | node o k xs => cases k <;> first | rfl | cases h
  | op v => cases h
  | _ => rfl
theorem isi_lst {d : D} (h : (tyN d).isSome = true) : opIsi [d, .op (.ty "list")] = some (.bl (isLst d)) := by
  cases d with
  | node o k xs => cases k <;> first | rfl | cases h
  | op v => cases h
  | _ => rfl
theorem isi_str {d : D} (h : (tyN d).isSome = true) : opIsi [d, .op (.ty "str")] = some (.bl (isStr d)) := by
  cases d with
  | node o k xs => cases k <;> first | rfl | cases h
  | op v => cases h
  | _ => rfl
theorem isi_bl {d : D} (h : (tyN d).isSome = true) : opIsi [d, .op (.ty "bool")] = some (.bl (isBl d)) := by
  cases d with
  | node o k xs => cases k <;> first | rfl | cases h
  | op v => cases h
  | _ => rfl
theorem isi_int {d : D} (h : (tyN d).isSome = true) : opIsi [d, .op (.ty "int")] = some (.bl (isWhl d)) := by
  cases d with
  | node o k xs => cases k <;> first | rfl | cases h
  | op v => cases h
  | _ => rfl
theorem low_ty {n : Nat} {d : D} (h : low n d = true) : (tyN d).isSome = true := by
  cases d with
  | node o k xs => cases k <;> first | rfl | (cases n <;> simp [low] at h)
  | op v => cases n <;> simp [low] at h
  | _ => rfl
theorem plain_mem {xs : List D} (h : plainL xs = true) : ∀ x ∈ xs, x.plain = true := by
  rw [plainL_all, List.all_eq_true] at h
  exact h
theorem plainL_of {xs : List D} (h : ∀ x ∈ xs, x.plain = true) : plainL xs = true := by
  rw [plainL_all, List.all_eq_true]
  exact h
mutual
theorem toP_frz : ∀ d : D, toP d.frz = toP d
  | .non => rfl
  | .bl _ => rfl
  | .int _ => rfl
  | .str _ => rfl
  | .op _ => rfl
  | .node o k xs => by
    cases k <;> simp only [D.frz, toP, toPL_frz xs]
theorem toPL_frz : ∀ xs : List D, toPL (frzL xs) = toPL xs
  | [] => rfl
  | x :: xs => by simp only [frzL, toPL, toP_frz x, toPL_frz xs]
end
theorem low_frz : ∀ {n : Nat} {d : D}, low n d = true → low n d.frz = true
  | _, .non, h => h
  | _, .bl _, h => h
  | _, .int _, h => h
  | _, .str _, h => h
  | n, .op _, h => h
  | 0, .node _ k xs, h => by cases k <;> simp [low] at h
  | n + 1, .node o k xs, h => by
    cases k with
    | lst => simp only [low, D.frz, List.all_eq_true] at h ⊢; rw [frzL_map]; exact fun x hx => by obtain ⟨y, hy, rfl⟩ := List.mem_map.mp hx; exact low_frz (h y hy)
    | tup => simp only [low, D.frz, List.all_eq_true] at h ⊢; rw [frzL_map]; exact fun x hx => by obtain ⟨y, hy, rfl⟩ := List.mem_map.mp hx; exact low_frz (h y hy)
    | scr => simp [low] at h
    | dct ks => simp [low] at h
    | obj C fs => simp [low] at h
    | ins C fs => simp [low] at h
theorem mass_frz (d : D) : mass d.frz = mass d := by unfold mass; rw [toP_frz]
/-- an item of a list of no name, by a place that is worked out behind it -/
theorem idx_val {P : D → Prop} {fa fi : M EV} {ρ ρ1 ρ2 : Env} {o : Bool} {xs : List D} {r : Int} (h1 : fa ρ = .ok (.val (.node o .lst xs)) ρ1) (h2 : fi ρ1 = .ok (.val (.int r)) ρ2) (h0 : 0 ≤ r) (hr : r < (xs.length : Int)) (h : ∀ x ∈ xs, P x) :
    ∃ d, idx (aCons fa (aCons fi aNil)) ρ = .ok (.val d) ρ2 ∧ P d := by
  obtain ⟨d, e, hd⟩ := atI_all h0 hr h
  refine ⟨d, ?_, hd⟩
  simp [idx, aCons, aNil, bnd, Pm.ret, h1, h2, peek1, itemOf, e]
/-- an item of a list or a tuple that stands in a slot -/
theorem idx_ref {P : D → Prop} {fi : M EV} {ρ ρ2 : Env} {o : Bool} {k : Kd} {xs : List D} {r : Int} {j : Nat} (hk : k = .lst ∨ k = .tup) (h1 : ρ[j]?.isSome ∧ ρ.getD j none ≠ none) (h2 : fi ρ = .ok (.val (.int r)) ρ2) (h3 : ρ2.getD j none = some (.node o k xs)) (h0 : 0 ≤ r) (hr : r < (xs.length : Int)) (h : ∀ x ∈ xs, P x) :
    ∃ d xs', idx (aCons (loc j) (aCons fi aNil)) ρ = .ok (.val d.frz) (ρ2.set j (some (.node o k xs'))) ∧ P d ∧ d ∈ xs ∧ (plainL xs = true → xs' = xs) := by
  obtain ⟨n, rfl⟩ := Int.eq_ofNat_of_zero_le h0
  have hn : n < xs.length := by omega
  obtain ⟨v, hv⟩ := Option.ne_none_iff_exists'.mp h1.2
  have e1 : loc j ρ = .ok (.ref j) ρ := by unfold loc; rw [hv]
  have e2 : ixN xs.length (n : Int) = some n := by unfold ixN; simp [hn]
  have es : ρ2.set j (some (.node o k xs)) = ρ2 := by
    have := getD_some h3
    obtain ⟨hj, ej⟩ := List.getElem?_eq_some_iff.mp this
    rw [← ej, List.set_getElem_self]
  have h3' := getD_some h3
  by_cases hp : xs[n].plain = true
  · refine ⟨xs[n], xs, ?_, h _ (List.getElem_mem hn), List.getElem_mem hn, fun _ => rfl⟩
    rw [es, D.frz_of_plain _ hp]
    rcases hk with rfl | rfl <;> simp [idx, aCons, aNil, bnd, Pm.ret, e1, h2, peek1, itemOf, h3', e2, hn, hp]
  · refine ⟨xs[n], xs.set n xs[n].frz, ?_, h _ (List.getElem_mem hn), List.getElem_mem hn, fun q => absurd (plain_mem q _ (List.getElem_mem hn)) hp⟩
    rcases hk with rfl | rfl <;> simp [idx, aCons, aNil, bnd, Pm.ret, e1, h2, peek1, itemOf, h3', e2, hn, hp]
theorem asg_val {f : M EV} {ρ ρ1 : Env} {d : D} {i : Nat} (h : f ρ = .ok (.val d) ρ1) (hi : i < ρ1.length) : asg f (gN i) ρ = .ok .nx (ρ1.set i (some d)) := by
  simp [asg, bnd, h, use1, gN, hi]
theorem rtn_val {f : M EV} {ρ ρ1 : Env} {d : D} (h : f ρ = .ok (.val d) ρ1) : rtn f ρ = .ok (.rt d) ρ1 := by
  simp [rtn, bnd, h, use1, Pm.ret]
theorem hAdd_ii (i j : Int) : hAdd [.int i, .int j] = some (.int (i + j)) := rfl
theorem hAdd_tt {xs ys : List D} (h1 : plainL xs = true) (h2 : plainL ys = true) (h3 : xs.length + ys.length ≤ cap) : hAdd [.node false .tup xs, .node false .tup ys] = some (.tup (xs ++ ys)) := by
  show (if _ then _ else _) = _
  rw [if_pos ⟨h1, h2, h3⟩]
theorem hAdd_ll {p q : Bool} {xs ys : List D} (h1 : plainL xs = true) (h2 : plainL ys = true) (h3 : xs.length + ys.length ≤ cap) : hAdd [.node p .lst xs, .node q .lst ys] = some (.lst true (xs ++ ys)) := by
  show (if _ then _ else _) = _
  rw [if_pos ⟨h1, h2, h3⟩]
theorem hAdd_ss {x y : Str} (h : x.length + y.length ≤ cap) : hAdd [.str x, .str y] = some (.str (x ++ y)) := by
  show gAddS [.str x, .str y] = _
  unfold gAddS
  simp only [if_pos h]
theorem opGtA_ii (i j : Int) : opGtA [.int i, .int j] = some (.bl (decide (j < i))) := rfl
theorem opLtA_ii (i j : Int) : opLtA [.int i, .int j] = some (.bl (decide (i < j))) := rfl
theorem opGeA_ii (i j : Int) : opGeA [.int i, .int j] = some (.bl (decide (j ≤ i))) := rfl
theorem opLeA_ii (i j : Int) : opLeA [.int i, .int j] = some (.bl (decide (i ≤ j))) := rfl
theorem ne_nil (o p : Bool) {xs : List D} (h : ∀ x ∈ xs, shp 59 x = true) : opNe [.node o .lst xs, .node p .lst []] = some (.bl (decide (xs ≠ []))) := by
  have h1 : shp 60 (.node o .lst xs) = true := by
    show xs.all (shp 59) = true
    rw [List.all_eq_true]
    exact h
  have h2 : shp 60 (.node p .lst []) = true := rfl
  show (if (shp 60 (.node o .lst xs) && shp 60 (.node p .lst [])) = true then some (D.bl !deq (.node o .lst xs) (.node p .lst [])) else none) = _
  rw [h1, h2]
  cases xs <;> rfl
theorem eq_nil (o p : Bool) {xs : List D} (h : ∀ x ∈ xs, shp 59 x = true) : opEq [.node o .lst xs, .node p .lst []] = some (.bl (decide (xs = []))) := by
  have h1 : shp 60 (.node o .lst xs) = true := by
    show xs.all (shp 59) = true
    rw [List.all_eq_true]
    exact h
  have h2 : shp 60 (.node p .lst []) = true := rfl
  show (if (shp 60 (.node o .lst xs) && shp 60 (.node p .lst [])) = true then some (D.bl (deq (.node o .lst xs) (.node p .lst []))) else none) = _
  rw [h1, h2]
  cases xs <;> rfl
theorem all_bls (o : Bool) (bs : List Bool) : opAll [.node o .lst (bs.map D.bl)] = some (.bl (bs.all id)) := by
  unfold opAll
  simp only [blsD_map]
theorem any_bls (o : Bool) (bs : List Bool) : opAny [.node o .lst (bs.map D.bl)] = some (.bl (bs.any id)) := by
  unfold opAny
  simp only [blsD_map]
theorem massL_append : ∀ xs ys : List D, massL (xs ++ ys) = massL xs + massL ys
  | [], ys => by rw [List.nil_append, massL_nil, Nat.zero_add]
  | x :: xs, ys => by rw [List.cons_append, massL_cons, massL_cons, massL_append xs ys]; omega
theorem strOk_of (s : String) : PyData.strOk (Str.ofString s) = true := by
  rw [Str.ofString_eq_toList]
  unfold PyData.strOk
  rw [Array.all_eq_true']
  intro c hc
  simp only [List.mem_toArray, List.mem_map] at hc
  obtain ⟨ch, _, rfl⟩ := hc
  refine decide_eq_true ?_
  rcases ch.valid with h | h
  · exact Nat.lt_trans h (by decide)
  · exact h.2
theorem strOk_add {a b : Str} (ha : PyData.strOk a = true) (hb : PyData.strOk b = true) : PyData.strOk (a ++ b) = true := by
  unfold PyData.strOk at *
  rw [Array.all_eq_true'] at *
  intro c hc
  have : c ∈ a.cps ++ b.cps := hc
  rcases Array.mem_append.mp this with h | h
  · exact ha c h
  · exact hb c h
/-- cuts from the start, to the end -/
theorem cutD_to (xs : List D) (k : Nat) (hk : k ≤ xs.length) : Pm.cutD xs none (some (k : Int)) = xs.take k := by
  unfold Pm.cutD
  rw [HT.sIx_none, HT.sIx_nat, List.drop_zero, Nat.sub_zero, Nat.min_eq_left hk]
theorem cutD_from (xs : List D) (k : Nat) : Pm.cutD xs (some (k : Int)) none = xs.drop k := by
  unfold Pm.cutD
  rw [HT.sIx_none, HT.sIx_nat]
  by_cases h : k ≤ xs.length
  · rw [Nat.min_eq_left h]
    exact List.take_of_length_le (by rw [List.length_drop]; exact Nat.le_refl _)
  · rw [Nat.min_eq_right (by omega), List.drop_length, List.drop_eq_nil_of_le (by omega), List.take_nil]
theorem gCut_tup {xs : List D} (h : plainL xs = true) (lo hi : Option Int) : gCut lo hi (.node false .tup xs) = some (.tup (Pm.cutD xs lo hi)) := by
  show (if plainL xs = true then some (D.tup (Pm.cutD xs lo hi)) else none) = _
  rw [if_pos h]
theorem gCut_lst {o : Bool} {xs : List D} (h : plainL xs = true) (lo hi : Option Int) : gCut lo hi (.node o .lst xs) = some (.lst true (Pm.cutD xs lo hi)) := by
  show (if plainL xs = true then some (D.lst true (Pm.cutD xs lo hi)) else none) = _
  rw [if_pos h]
theorem ne_ss (x y : Str) : opNe [.str x, .str y] = some (.bl (!(x == y))) := rfl
theorem eq_ss (x y : Str) : opEq [.str x, .str y] = some (.bl (x == y)) := rfl
end Pm
/-! PmZq: plain laws: clauses of comprehensions, numbers compared, steps of loops. -/
namespace Pm
open PySem PySem.Spec PyProof.Rows L2
theorem hMul_ii (i j : Int) : hMul [.int i, .int j] = iMul i j := rfl
theorem max2_ii (i j : Int) : opMax2 [.int i, .int j] = some (.int (max i j)) := by
  show some (D.int (if j > i then j else i)) = _
  congr 2
  split <;> omega
theorem min2_ii (i j : Int) : opMin2 [.int i, .int j] = some (.int (min i j)) := by
  show some (D.int (if j < i then j else i)) = _
  congr 2
  split <;> omega
/-- a whole number or None -/
def oD : Option Int → D
  | none => .non
  | some i => .int i
theorem oD_plain (o : Option Int) : (oD o).plain = true := by cases o <;> rfl
theorem oD_frz (o : Option Int) : (oD o).frz = oD o := by cases o <;> rfl
theorem isN_oD (o : Option Int) : opIsN [oD o, .non] = some (.bl o.isNone) := by cases o <;> rfl
theorem notN_oD (o : Option Int) : opNotN [oD o, .non] = some (.bl o.isSome) := by cases o <;> rfl
theorem isN_int (i : Int) : opIsN [.int i, .non] = some (.bl false) := rfl
theorem isN_non : opIsN [.non, .non] = some (.bl true) := rfl
theorem notN_int (i : Int) : opNotN [.int i, .non] = some (.bl true) := rfl
theorem notN_non : opNotN [.non, .non] = some (.bl false) := rfl
theorem forIt_nil {g : Tg} {b : M Fl} {ρ : Env} : forIt g b [] ρ = .ok .nx ρ := rfl
theorem forIt_step {g : Tg} {b : M Fl} {d : D} {ds : List D} {ρ ρ1 ρ2 : Env} (h1 : g d ρ = .ok () ρ1) (h2 : b ρ1 = .ok .nx ρ2) : forIt g b (d :: ds) ρ = forIt g b ds ρ2 := by
  rw [forIt]
  simp only [h1]
  unfold bnd
  rw [h2]
/-- a clause that leaves the slots as they were -/
theorem clIt_fm {vs : List Nat} {g : Tg} {c : M Bool} {inn : In} {ρ : Env} (F : D → List D) (n : Nat) (hn : n ≤ cap) : ∀ (ds acc : List D), (∀ d ∈ ds, ∃ ρ1 ρ2, g d ρ = .ok () ρ1 ∧
      ((c ρ1 = .ok true ρ2 ∧ ∀ ac : List D, ac.length + (F d).length ≤ n → ∃ ρ3, inn ρ2 ac = .ok (ac ++ F d) ρ3 ∧ wipeE ρ3 vs = ρ) ∨ (F d = [] ∧ c ρ1 = .ok false ρ2 ∧ wipeE ρ2 vs = ρ))) → acc.length + (ds.flatMap F).length ≤ n →
    clIt vs g c inn ds ρ acc = .ok (acc ++ ds.flatMap F) ρ
  | [], acc, _, _ => by unfold clIt; rw [List.flatMap_nil, List.append_nil]
  | d :: ds, acc, h, hl => by
    obtain ⟨ρ1, ρ2, e1, e2⟩ := h d List.mem_cons_self
    rw [List.flatMap_cons, List.length_append] at hl
    unfold clIt
    rcases e2 with ⟨e2, e3⟩ | ⟨hv, e2, e5⟩
    · obtain ⟨ρ3, e3, e4⟩ := e3 acc (by omega)
      simp only [e1, e2, e3, e4]
      rw [clIt_fm F n hn ds (acc ++ F d) (fun d' hd => h d' (List.mem_cons_of_mem _ hd)) (by rw [List.length_append]; omega), List.flatMap_cons, List.append_assoc]
    · simp only [e1, e2, e5]
      rw [clIt_fm F n hn ds acc (fun d' hd => h d' (List.mem_cons_of_mem _ hd)) (by omega), List.flatMap_cons, hv, List.nil_append]
theorem emit_ok {e : M EV} {ρ ρ1 ρ2 : Env} {ev : EV} {d : D} {acc : List D} (h1 : e ρ = .ok ev ρ1) (h2 : use1 ev ρ1 = .ok d ρ2) (hl : acc.length < cap) : emit e ρ acc = .ok (acc ++ [d]) ρ2 := by
  unfold emit
  simp only [h1, h2, if_pos hl]
theorem cla_ok {vs : List Nat} {s : M (List D)} {g : Tg} {c : M Bool} {inn : In} {ρ ρ1 : Env} {ds acc : List D} (hs : s ρ = .ok ds ρ1) : cla vs s g c inn ρ acc = clIt vs g c inn ds (wipeE ρ1 vs) acc := by
  unfold cla
  simp only [hs]
theorem compN_of {own : List Nat} {s : M (List D)} {g : Tg} {c : M Bool} {inn : In} {ρ ρ1 ρ2 : Env} {ds acc : List D} (hs : s ρ = .ok ds ρ1) (hc : clIt own g c inn ds (wipeE ρ1 own) [] = .ok acc ρ2) : compN own s g c inn ρ = .ok (.val (.lst true acc)) (backE ρ1 ρ2 own) := by
  unfold compN bnd
  simp only [hs, hc]
theorem int_lst (o : Bool) (ns : List Int) : intsD (ns.map D.int) = some ns := intsD_map ns
theorem asg_t3 {f : M EV} {ρ ρ1 : Env} {a b c : D} {i j k : Nat} (h : f ρ = .ok (.val (.tup [a, b, c])) ρ1) (hi : i < ρ1.length) (hj : j < ρ1.length) (hk : k < ρ1.length) : asg f (gT (gsC (gN i) (gsC (gN j) (gsC (gN k) gs0))) 3) ρ = .ok .nx (((ρ1.set i (some a)).set j (some b)).set k (some c)) := by
  simp [asg, bnd, h, use1, gT, gsC, gN, gs0, hi, hj, hk]
end Pm
/-! PmWp: what a function over slots comes to, step by step. -/
namespace Pm
open PySem PySem.Spec PyProof.Rows L2
/-- m comes out without an exception, and Q holds of what it gives -/
@[irreducible] def Wp {α : Type} (m : M α) (ρ : Env) (Q : α → Env → Prop) : Prop := match m ρ with
  | .ok a ρ' => Q a ρ'
  | _ => False
theorem Wp.ok {α : Type} {m : M α} {ρ : Env} {Q : α → Env → Prop} (h : Wp m ρ Q) : ∃ a ρ', m ρ = .ok a ρ' ∧ Q a ρ' := by
  unfold Wp at h
  split at h
  · rename_i a ρ' e
    exact ⟨a, ρ', e, h⟩
  · exact h.elim
theorem Wp.of {α : Type} {m : M α} {ρ ρ' : Env} {a : α} {Q : α → Env → Prop} (e : m ρ = .ok a ρ') (h : Q a ρ') : Wp m ρ Q := by
  unfold Wp
  rw [e]
  exact h
theorem Wp.mono {α : Type} {m : M α} {ρ : Env} {Q R : α → Env → Prop} (h : Wp m ρ Q) (i : ∀ a ρ', Q a ρ' → R a ρ') : Wp m ρ R := by
  obtain ⟨a, ρ', e, q⟩ := h.ok
  exact .of e (i a ρ' q)
theorem wp_seq {a b : M Fl} {ρ : Env} {Q : Fl → Env → Prop} (h : ∀ K : Fl → Env → Prop, (∀ ρ', Wp b ρ' Q → K .nx ρ') → (∀ d ρ', Q (.rt d) ρ' → K (.rt d) ρ') → (∀ ρ', Q .bk ρ' → K .bk ρ') → (∀ ρ', Q .ct ρ' → K .ct ρ') → Wp a ρ K) : Wp (seq a b) ρ Q := by
  have h' := h (fun f ρ' => match f with | .nx => Wp b ρ' Q | f => Q f ρ') (fun _ q => q) (fun _ _ q => q) (fun _ q => q) (fun _ q => q)
  obtain ⟨f, ρ', e, q⟩ := h'.ok
  cases f with
  | nx =>
    obtain ⟨f2, ρ2, e2, q2⟩ := Wp.ok q
    exact .of (a := f2) (ρ' := ρ2) (by rw [seq_ok e, e2]) q2
  | bk => exact .of (a := .bk) (ρ' := ρ') (by unfold seq bnd; rw [e]; rfl) q
  | ct => exact .of (a := .ct) (ρ' := ρ') (by unfold seq bnd; rw [e]; rfl) q
  | rt d => exact .of (a := .rt d) (ρ' := ρ') (by unfold seq bnd; rw [e]; rfl) q
theorem wp_end {a : M Fl} {ρ : Env} {Q : Fl → Env → Prop} (h : ∀ K : Fl → Env → Prop, (∀ ρ', Q .nx ρ' → K .nx ρ') → (∀ d ρ', Q (.rt d) ρ' → K (.rt d) ρ') → (∀ ρ', Q .bk ρ' → K .bk ρ') → (∀ ρ', Q .ct ρ' → K .ct ρ') → Wp a ρ K) : Wp a ρ Q :=
  h Q (fun _ q => q) (fun _ _ q => q) (fun _ q => q) fun _ q => q
theorem wp_ite {c : M Bool} {a b : M Fl} {ρ : Env} {Q : Fl → Env → Prop} (h : Wp c ρ fun t ρ' => (t = true → Wp a ρ' Q) ∧ (t = false → Wp b ρ' Q)) : Wp (Pm.ite c a b) ρ Q := by
  obtain ⟨t, ρ', e, q1, q2⟩ := h.ok
  cases t with
  | true =>
    obtain ⟨f, ρ2, e2, q⟩ := (q1 rfl).ok
    exact .of (by rw [ite_T e, e2]) q
  | false =>
    obtain ⟨f, ρ2, e2, q⟩ := (q2 rfl).ok
    exact .of (by rw [ite_F e, e2]) q
/-- what a turn leaves -/
def Tn (J : Env → Prop) (Q : Fl → Env → Prop) : Fl → Env → Prop
  | .nx, ρ => J ρ
  | .ct, ρ => J ρ
  | .bk, ρ => Q .nx ρ
  | .rt d, ρ => Q (.rt d) ρ
theorem wp_forIt {g : Tg} {b : M Fl} {Q : Fl → Env → Prop} : ∀ {ds : List D} (I : Nat → Env → Prop),
    (∀ (j : Nat) (d : D) (ρ : Env), ds[j]? = some d → I j ρ → ∃ ρ1, g d ρ = .ok () ρ1 ∧ Wp b ρ1 (Tn (I (j + 1)) Q)) → (∀ ρ, I ds.length ρ → Q .nx ρ) → ∀ ρ, I 0 ρ → Wp (forIt g b ds) ρ Q
  | [], I, _, he, ρ, h0 => .of (a := .nx) (ρ' := ρ) rfl (he ρ h0)
  | d :: ds, I, hs, he, ρ, h0 => by
    obtain ⟨ρ1, e1, w⟩ := hs 0 d ρ rfl h0
    obtain ⟨f, ρ2, e2, q⟩ := w.ok
    have rest : I 1 ρ2 → Wp (forIt g b ds) ρ2 Q := fun i1 => wp_forIt (fun j => I (j + 1)) (fun j d' ρ' hd hi => hs (j + 1) d' ρ' (by simpa using hd) hi) (fun ρ' hi => he ρ' hi) ρ2 i1
    cases f with
    | nx =>
      obtain ⟨f3, ρ3, e3, q3⟩ := (rest q).ok
      exact .of (a := f3) (ρ' := ρ3) (by rw [forIt]; simp only [e1]; unfold bnd; rw [e2]; exact e3) q3
    | ct =>
      obtain ⟨f3, ρ3, e3, q3⟩ := (rest q).ok
      exact .of (a := f3) (ρ' := ρ3) (by rw [forIt]; simp only [e1]; unfold bnd; rw [e2]; exact e3) q3
    | bk => exact .of (Q := Q) (a := .nx) (ρ' := ρ2) (by rw [forIt]; simp only [e1]; unfold bnd; rw [e2]; rfl) (show Q .nx ρ2 from q)
    | rt d' => exact .of (Q := Q) (a := .rt d') (ρ' := ρ2) (by rw [forIt]; simp only [e1]; unfold bnd; rw [e2]; rfl) (show Q (.rt d') ρ2 from q)
/-- for: the invariant I speaks of the turns done -/
theorem wp_for {s : M (List D)} {g : Tg} {b : M Fl} {Q : Fl → Env → Prop} {ρ ρ1 : Env} {ds : List D} (hs : s ρ = .ok ds ρ1) (I : Nat → Env → Prop) (h0 : I 0 ρ1)
    (ht : ∀ (j : Nat) (d : D) (ρ : Env), ds[j]? = some d → I j ρ → ∃ ρ1, g d ρ = .ok () ρ1 ∧ Wp b ρ1 (Tn (I (j + 1)) Q)) (he : ∀ ρ, I ds.length ρ → Q .nx ρ) : Wp (forS s g b) ρ Q := by
  obtain ⟨f, ρ2, e, q⟩ := (wp_forIt I ht he ρ1 h0).ok
  exact .of (by rw [forS_of hs, e]) q
/-- while: the invariant I bears a measure -/
theorem wp_whl {c : M Bool} {b : M Fl} {Q : Fl → Env → Prop} (I : Nat → Env → Prop)
    (ht : ∀ (n : Nat) (ρ : Env), I n ρ → Wp c ρ fun t ρ1 => (t = true → Wp b ρ1 (Tn (fun ρ2 => ∃ m, m < n ∧ I m ρ2) Q)) ∧ (t = false → Q .nx ρ1)) : ∀ (n : Nat) (ρ : Env), I n ρ → Wp (whl c b) ρ Q := by
  intro n
  induction n using Nat.strongRecOn with
  | ind n ih =>
    intro ρ hi
    obtain ⟨t, ρ1, e1, q1, q2⟩ := (ht n ρ hi).ok
    cases t with
    | false => exact .of (a := .nx) (ρ' := ρ1) (whl_F e1) (q2 rfl)
    | true =>
      obtain ⟨f, ρ2, e2, q⟩ := (q1 rfl).ok
      cases f with
      | nx =>
        obtain ⟨m, hm, im⟩ := q
        obtain ⟨f3, ρ3, e3, q3⟩ := (ih m hm ρ2 im).ok
        exact .of (a := f3) (ρ' := ρ3) (by rw [whl_T e1 e2, e3]) q3
      | ct =>
        obtain ⟨m, hm, im⟩ := q
        obtain ⟨f3, ρ3, e3, q3⟩ := (ih m hm ρ2 im).ok
        exact .of (a := f3) (ρ' := ρ3) (by rw [whl_C e1 e2, e3]) q3
      | bk => exact .of (Q := Q) (a := .nx) (ρ' := ρ2) (by rw [whl_eq, e1]; simp only [e2]) (show Q .nx ρ2 from q)
      | rt d => exact .of (Q := Q) (a := .rt d) (ρ' := ρ2) (by rw [whl_eq, e1]; simp only [e2]) (show Q (.rt d) ρ2 from q)
/-- what a def comes to -/
def Wf (S : FSem) (as : List D) (Q : D → List D → Prop) : Prop := ∃ d bs, S as = .ret d bs ∧ Q d bs
/-- how a body ends a def -/
def Fin (reb : List Nat) (ds : List D) (Q : D → List D → Prop) : Fl → Env → Prop
  | .nx, ρ => ∃ as, argsBack reb ρ 0 (reFrz reb 0 ds) = some as ∧ Q .non as
  | .rt d, ρ => ∃ as, argsBack reb ρ 0 (reFrz reb 0 ds) = some as ∧ Q d as
  | _, _ => False
theorem wf_mkF {n m : Nat} {reb : List Nat} {b : M Fl} {ds : List D} {Q : D → List D → Prop} (h : Wp b ((reFrz reb 0 ds).map some ++ List.replicate (m - n) none) (Fin reb ds Q)) (hl : ds.length = n ∧ n ≤ m := by exact ⟨rfl, by decide⟩) : Wf (mkF n m reb b) ds Q := by
  obtain ⟨f, ρ, e, q⟩ := h.ok
  cases f with
  | nx =>
    obtain ⟨as, ha, qa⟩ := q
    exact ⟨.non, as, by unfold mkF; rw [if_pos hl, e]; simp only [ha], qa⟩
  | rt d =>
    obtain ⟨as, ha, qa⟩ := q
    exact ⟨d, as, by unfold mkF; rw [if_pos hl, e]; simp only [ha], qa⟩
  | bk => exact q.elim
  | ct => exact q.elim
/-- a comprehension: the invariant I speaks of the turns done, the slots and what is made -/
theorem compIt_wp {own : List Nat} {g : Tg} {c : M Bool} {e : M EV} : ∀ {ds : List D} (I : Nat → Env → List D → Prop) (acc : List D) (ρ : Env), I 0 ρ acc → acc.length + ds.length ≤ cap →
    (∀ (j : Nat) (d : D) (ρ : Env) (acc : List D), ds[j]? = some d → I j ρ acc → ∃ ρ1, g d ρ = .ok () ρ1 ∧ Wp c ρ1 fun t ρ2 => (t = true → Wp e ρ2 fun ev ρ3 => ∃ d' ρ4, use1 ev ρ3 = .ok d' ρ4 ∧ I (j + 1) (wipeE ρ4 own) (acc ++ [d'])) ∧ (t = false → I (j + 1) (wipeE ρ2 own) acc)) →
    ∃ acc' ρ', compIt own g c e ds ρ acc = .ok acc' ρ' ∧ I ds.length ρ' acc'
  | [], I, acc, ρ, h0, _, _ => ⟨acc, ρ, rfl, h0⟩
  | d :: ds, I, acc, ρ, h0, hl, ht => by
    rw [List.length_cons] at hl
    obtain ⟨ρ1, e1, w⟩ := ht 0 d ρ acc rfl h0
    obtain ⟨t, ρ2, e2, q1, q2⟩ := w.ok
    have ht' : ∀ (j : Nat) (d : D) (ρ : Env) (acc : List D), ds[j]? = some d → I (j + 1) ρ acc → _ := fun j d' ρ' acc' hd hi => ht (j + 1) d' ρ' acc' (by simpa using hd) hi
    cases t with
    | true =>
      obtain ⟨ev, ρ3, e3, d', ρ4, e4, hi⟩ := (q1 rfl).ok
      obtain ⟨acc', ρ', e5, q⟩ := compIt_wp (fun j => I (j + 1)) (acc ++ [d']) (wipeE ρ4 own) hi (by rw [List.length_append, List.length_singleton]; omega) ht'
      exact ⟨acc', ρ', by rw [compIt]; simp only [e1, e2, e3, e4]; rw [if_pos (by omega), e5], q⟩
    | false =>
      obtain ⟨acc', ρ', e5, q⟩ := compIt_wp (fun j => I (j + 1)) acc (wipeE ρ2 own) (q2 rfl) (by omega) ht'
      exact ⟨acc', ρ', by rw [compIt]; simp only [e1, e2]; rw [e5], q⟩
theorem comp_wp {own : List Nat} {s : M (List D)} {g : Tg} {c : M Bool} {e : M EV} {ρ ρ1 : Env} {ds : List D} (hs : s ρ = .ok ds ρ1) (I : Nat → Env → List D → Prop) (h0 : I 0 (wipeE ρ1 own) []) (hl : ds.length ≤ cap)
    (ht : ∀ (j : Nat) (d : D) (ρ : Env) (acc : List D), ds[j]? = some d → I j ρ acc → ∃ ρ1, g d ρ = .ok () ρ1 ∧ Wp c ρ1 fun t ρ2 => (t = true → Wp e ρ2 fun ev ρ3 => ∃ d' ρ4, use1 ev ρ3 = .ok d' ρ4 ∧ I (j + 1) (wipeE ρ4 own) (acc ++ [d'])) ∧ (t = false → I (j + 1) (wipeE ρ2 own) acc)) :
    ∃ acc ρ', comp own s g c e ρ = .ok (.val (.lst true acc)) (backE ρ1 ρ' own) ∧ I ds.length ρ' acc := by
  obtain ⟨acc, ρ', e, q⟩ := compIt_wp I [] _ h0 (by rw [List.length_nil]; omega) ht
  exact ⟨acc, ρ', comp_of hs e, q⟩
/-- a comprehension that leaves the slots: each item gives one or none -/
theorem comp_fm {own : List Nat} {s : M (List D)} {g : Tg} {c : M Bool} {e : M EV} {ρ ρ1 : Env} {ds : List D} (F : D → Option D) (hs : s ρ = .ok ds ρ1) (hw : wipeE ρ1 own = ρ1) (hb : backE ρ1 ρ1 own = ρ1) (hl : ds.length ≤ cap)
    (ht : ∀ d ∈ ds, ∃ ρ2, g d ρ1 = .ok () ρ2 ∧ Wp c ρ2 fun t ρ3 => (t = true → Wp e ρ3 fun ev ρ4 => ∃ d' ρ5, use1 ev ρ4 = .ok d' ρ5 ∧ F d = some d' ∧ wipeE ρ5 own = ρ1) ∧ (t = false → F d = none ∧ wipeE ρ3 own = ρ1)) :
    comp own s g c e ρ = .ok (.val (.lst true (ds.filterMap F))) ρ1 := by
  obtain ⟨acc, ρ', e1, rfl, rfl⟩ := comp_wp hs (fun j ρ acc => ρ = ρ1 ∧ acc = (ds.take j).filterMap F) ⟨hw, by simp⟩ hl fun j d ρ acc hd ⟨er, ea⟩ => by
    subst er
    obtain ⟨ρ2, e2, w⟩ := ht d (List.mem_of_getElem? hd)
    have tk : ds.take (j + 1) = ds.take j ++ [d] := by
      rw [List.take_add_one, hd]
      rfl
    refine ⟨ρ2, e2, w.mono fun t ρ3 ⟨q1, q2⟩ => ⟨fun h => (q1 h).mono fun ev ρ4 ⟨d', ρ5, e5, hF, hw5⟩ => ⟨d', ρ5, e5, hw5, ?_⟩, fun h => ⟨(q2 h).2, ?_⟩⟩⟩
    · rw [tk, List.filterMap_append, ea]
      simp [hF]
    · rw [tk, List.filterMap_append, ea]
      simp [(q2 h).1]
  rw [e1, hb, List.take_length]
/-- the same without tests -/
theorem comp_map {own : List Nat} {s : M (List D)} {g : Tg} {c : M Bool} {e : M EV} {ρ ρ1 : Env} {ds : List D} (F : D → D) (hs : s ρ = .ok ds ρ1) (hw : wipeE ρ1 own = ρ1) (hb : backE ρ1 ρ1 own = ρ1) (hl : ds.length ≤ cap)
    (ht : ∀ d ∈ ds, ∃ ρ2, g d ρ1 = .ok () ρ2 ∧ Wp c ρ2 fun t ρ3 => t = true ∧ Wp e ρ3 fun ev ρ4 => ∃ ρ5, use1 ev ρ4 = .ok (F d) ρ5 ∧ wipeE ρ5 own = ρ1) :
    comp own s g c e ρ = .ok (.val (.lst true (ds.map F))) ρ1 := by
  have h := comp_fm (own := own) (g := g) (c := c) (e := e) (fun d => some (F d)) hs hw hb hl fun d hd => by
    obtain ⟨ρ2, e2, w⟩ := ht d hd
    refine ⟨ρ2, e2, w.mono fun t ρ3 ⟨h1, q⟩ => ⟨fun _ => q.mono fun ev ρ4 ⟨ρ5, e5, hw5⟩ => ⟨_, ρ5, e5, rfl, hw5⟩, fun h2 => by rw [h1] at h2; cases h2⟩⟩
  rw [h]
  congr 4
  induction ds with
  | nil => rfl
  | cons d ds ih => simp
end Pm
/-! PmYb: tuples repeated. -/
namespace Pm
open PySem PySem.Spec PyProof.Rows L2
theorem tuple_mul1 (l : Addr) (items : Array Value) (n : Nat) (dd : Option Addr) (sl : Array (Option Value)) (x : Int) (u : Tok) (hx : x = 1) :
    Meets (Builtin.«tuple.__mul__» ⟨[.ref l, .int x u], []⟩) (fun _ R s => s.heap.get? l = some { cls := .type "tuple", dict := dd, data := .seq items n, slots := sl } ∧
      R (.ok (.ret (Value.ref l))) s) :=
  .of_wp fun prog w A R s h => by
    obtain ⟨hp, g, d, tk, os⟩ := s
    obtain ⟨hl, h⟩ := h
    have f1 := AutoSeq1.idx_int
    have c0 : (decide (x < -(2 ^ 63)) || decide (x ≥ 2 ^ 63)) = false := by rw [decide_eq_false (by omega), decide_eq_false (by omega)] <;> rfl
    have c1 : (items.isEmpty || x == 1) = true := by rw [hx, Bool.or_eq_true]; exact .inr rfl
    wp_walk using wpAny_loadPart' hl
    repeat (first
      | (refine wpAny_ite_false (decide_eq_false (by rw [c0]; exact Bool.false_ne_true)) ?_; wp_walk using wpAny_loadPart' hl)
      | (refine wpAny_ite_true (decide_eq_true (by rw [c1])) ?_; wp_walk using wpAny_loadPart' hl))
    exact ⟨_, rfl, h⟩
theorem tuple_mul0 (l : Addr) (items : Array Value) (n : Nat) (dd : Option Addr) (sl : Array (Option Value)) (x : Int) (u : Tok) (h0 : x ≤ 0) (h1 : -(2 ^ 63) ≤ x) (hne : items.isEmpty = false) :
    Meets (Builtin.«tuple.__mul__» ⟨[.ref l, .int x u], []⟩) (fun _ R s => s.heap.get? l = some { cls := .type "tuple", dict := dd, data := .seq items n, slots := sl } ∧
      R (.ok (.ret (Value.ref s.heap.objs.size))) { s with heap := s.heap.push { cls := Value.type "tuple", data := Data.seq #[] }, toks := s.toks }) :=
  .of_wp fun prog w A R s h => by
    obtain ⟨hp, g, d, tk, os⟩ := s
    obtain ⟨hl, h⟩ := h
    have f1 := AutoSeq1.idx_int
    have c0 : (decide (x < -(2 ^ 63)) || decide (x ≥ 2 ^ 63)) = false := by rw [decide_eq_false (by omega), decide_eq_false (by omega)] <;> rfl
    have c1 : (items.isEmpty || x == 1) = false := by rw [hne, Bool.false_or]; exact beq_eq_false_iff_ne.mpr (by omega)
    have c2 : (decide (x ≤ 0) || items.isEmpty) = true := by rw [decide_eq_true h0] <;> rfl
    wp_walk using wpAny_loadPart' hl
    repeat (first
      | (refine wpAny_ite_false (decide_eq_false (by rw [c0]; exact Bool.false_ne_true)) ?_; wp_walk using wpAny_loadPart' hl)
      | (refine wpAny_ite_false (decide_eq_false (by rw [c1]; exact Bool.false_ne_true)) ?_; wp_walk using wpAny_loadPart' hl)
      | (refine wpAny_ite_true (decide_eq_true (by rw [c2])) ?_; wp_walk using wpAny_loadPart' hl))
    exact ⟨_, rfl, h⟩
def rRepTA (K : PySem.W.Frag) : R2 := fun x y H Q => ∃ l k xs, x = .ref l ∧ y = .int k ∧ SqT K H l xs ∧ xs ≠ [] ∧ -(2 ^ 63) ≤ k ∧ k ≤ 1000 ∧ xs.length ≤ 1000 ∧ (k = 1 → Q (.ref l) H) ∧ ∀ p, H p = none → Q (.ref p) (upd H p (.tup (List.replicate k.toNat xs).flatten))
section
variable {K : PySem.W.Frag} {mg : Str → Option Value} {W : WX} {Z H : Hp} {S : Fp} {σ : Sl} {X : Cx}
theorem op_repTA : OpR X (binaryOp .Mult) (rRepTA X.K) := by
  intro pins s σ H x y v u Q I rx ry h
  obtain ⟨l, k, xs, rfl, rfl, hT, hne, h1, h2, hz, q1, q⟩ := h
  by_cases hk : 2 ≤ k
  · exact op_repT pins s σ H _ _ v u Q I rx ry ⟨l, k, xs, rfl, rfl, hT, hne, hk, h2, hz, q⟩
  cases rx
  obtain ⟨t, rfl⟩ := ry
  obtain ⟨its, r, ⟨⟨cls, dd, data, sl⟩, ho, hc, n, hd⟩, hs⟩ := I.tuple hT
  simp only at hc hd
  subst hc hd
  have hle : its.length = xs.length := r.length.symm
  have hn : its ≠ [] := fun e => hne (by
    rw [e] at hle
    exact List.eq_nil_of_length_eq_zero hle.symm)
  have hi : its.toArray.isEmpty = false := by
    cases its with
    | nil => exact absurd rfl hn
    | cons a b => rfl
  by_cases hk1 : k = 1
  · refine wpAny_binaryOp_repeat_ref (T := "tuple") (U := "int") (by decide) ⟨_, ho, rfl⟩ (fun s' => typeIs_int s' k t) noFill_tuple_mul F.fills_int_mul F.slot_int_rmul repeat_tuple F.slot_int_index.lookup
      (call_meets F.slot_int_rmul (typeIs_int s k t) F.entry_int_rmul (F.args_int_rmul_2 _ _) (int_rmul_tuple k t l its.toArray n dd sl)
        ⟨ho, rfl, ⟨_, ho, rfl⟩, call_meets F.slot_tuple_mul ⟨_, ho, rfl⟩ F.entry_tuple_mul (F.args_tuple_mul_2 _ _) (tuple_mul1 l its.toArray n dd sl k t hk1) ⟨ho, ?_⟩⟩)
    exact ⟨.ref l, H, I, rfl, q1 hk1⟩
  · refine wpAny_binaryOp_repeat_ref (T := "tuple") (U := "int") (by decide) ⟨_, ho, rfl⟩ (fun s' => typeIs_int s' k t) noFill_tuple_mul F.fills_int_mul F.slot_int_rmul repeat_tuple F.slot_int_index.lookup
      (call_meets F.slot_int_rmul (typeIs_int s k t) F.entry_int_rmul (F.args_int_rmul_2 _ _) (int_rmul_tuple k t l its.toArray n dd sl)
        ⟨ho, rfl, ⟨_, ho, rfl⟩, call_meets F.slot_tuple_mul ⟨_, ho, rfl⟩ F.entry_tuple_mul (F.args_tuple_mul_2 _ _) (tuple_mul0 l its.toArray n dd sl k t (by omega) h1 hi) ⟨ho, ?_⟩⟩)
    have e0 : (List.replicate k.toNat xs).flatten = [] := by rw [show k.toNat = 0 by omega]; rfl
    have q' := q s.heap.objs.size (I.hok.fresh (Nat.le_refl _))
    rw [e0] at q'
    refine ⟨.ref s.heap.objs.size, _, I.laid (t' := s.toks) (o := .tup []) (fun b ob q => Heap.get?_push_of_some _ q) (Nat.le_refl _) ?_, rfl, q'⟩
    exact ⟨Nat.zero_le _, [], .nil, IsTup.new _ _⟩
def opRepT : List D → Option D
  | [.node false .tup xs, .int k] => if plainL xs = true ∧ xs.length ≠ 0 ∧ -(2 ^ 63) ≤ k ∧ k ≤ 1000 ∧ xs.length ≤ 1000 then some (.tup (List.replicate k.toNat xs).flatten) else none
  | _ => none
theorem opd_repT : Opd X (binaryOp .Mult) opRepT := by
  refine ⟨_, op_repTA, fun Z H S ds vs d Q w rb e k => ?_⟩
  unfold opRepT at e
  split at e
  · split at e
    · rename_i xs n hp
      obtain ⟨h1, h2, h3, h4, h5⟩ := hp
      obtain ⟨v, u, rfl, rv, ru⟩ := rb2 rb
      obtain ⟨a, ys, rfl, c, rl⟩ := rv
      obtain rfl : u = .int n := ru
      have hlen := rl.length
      have rp := rl.plain (H' := H) h1
      cases e
      refine ⟨_, _, rfl, a, n, ys, rfl, rfl, SqT.sam c w.same, fun e => h2 (by rw [hlen, e]; rfl), h3, h4, by omega, fun e => ?_, fun p np => ?_⟩
      · have e1 : (List.replicate n.toNat xs).flatten = xs := by rw [e]; simp
        rw [e1] at k
        refine k (.ref a) Z H Fp0 w.nil (fun _ _ e => e) (fun _ _ x => x) ?_
        exact ⟨a, ys, rfl, c, rp⟩
      · obtain ⟨f1, f2, f3⟩ := fresh_tup w np (reps_rep rp n.toNat)
        exact k _ _ _ _ f1 f2 (fun _ _ x => x) f3
    · cases e
  · cases e
/-- everything that is multiplied -/
def hMulT : List D → Option D
  | [.node o .tup xs, .int k] => opRepT [.node o .tup xs, .int k]
  | ds => hMul ds
theorem opd_hMulT : Opd X (binaryOp .Mult) hMulT := Opd.or opd_hMul opd_repT fun ds d h => by
  unfold hMulT at h
  split at h
  · exact .inr h
  · exact .inl h
theorem hMulT_ii (i j : Int) : hMulT [.int i, .int j] = iMul i j := rfl
theorem hMulT_t (xs : List D) (k : Int) (h1 : plainL xs = true) (h2 : xs.length ≠ 0) (h3 : -(2 ^ 63) ≤ k) (h4 : k ≤ 1000) (h5 : xs.length ≤ 1000) : hMulT [.node false .tup xs, .int k] = some (.tup (List.replicate k.toNat xs).flatten) := by
  show (if plainL xs = true ∧ xs.length ≠ 0 ∧ -(2 ^ 63) ≤ k ∧ k ≤ 1000 ∧ xs.length ≤ 1000 then _ else none) = _
  rw [if_pos ⟨h1, h2, h3, h4, h5⟩]
/-! ### is, is not: of bools -/
def opIsB : List D → Option D
  | [.bl a, .bl b] => some (.bl (decide (a = b)))
  | _ => none
def opNotB : List D → Option D
  | [.bl a, .bl b] => some (.bl (!decide (a = b)))
  | _ => none
theorem opd_isB : Opd X (compareOp .Is) opIsB := by
  refine ⟨_, op_isBl, snd_pure fun Z H S ds vs d Q w rb e k => ?_⟩
  unfold opIsB at e
  split at e
  · rename_i a b
    obtain ⟨v, u, rfl, rv, ru⟩ := rb2 rb
    obtain rfl : v = .bl a := rv
    obtain rfl : u = .bl b := ru
    cases e
    exact ⟨_, _, rfl, a, b, rfl, rfl, k _ rfl⟩
  · cases e
theorem opd_notB : Opd X (compareOp .IsNot) opNotB := by
  refine ⟨_, op_notBl, snd_pure fun Z H S ds vs d Q w rb e k => ?_⟩
  unfold opNotB at e
  split at e
  · rename_i a b
    obtain ⟨v, u, rfl, rv, ru⟩ := rb2 rb
    obtain rfl : v = .bl a := rv
    obtain rfl : u = .bl b := ru
    cases e
    exact ⟨_, _, rfl, a, b, rfl, rfl, k _ rfl⟩
  · cases e
theorem isB_bb (a b : Bool) : opIsB [.bl a, .bl b] = some (.bl (decide (a = b))) := rfl
theorem notB_bb (a b : Bool) : opNotB [.bl a, .bl b] = some (.bl (!decide (a = b))) := rfl
end
end Pm
/-! PmSt: texts as lists of signs. -/
namespace Pm
open PySem PySem.Spec PyProof.Rows L2
/-- the text with these signs -/
def T (l : List Nat) : Str := ⟨l.toArray⟩
theorem T_len (l : List Nat) : (T l).length = l.length := rfl
theorem T_size (l : List Nat) : (T l).cps.size = l.length := rfl
theorem T_list (l : List Nat) : (T l).cps.toList = l := rfl
theorem T_app (a b : List Nat) : T a ++ T b = T (a ++ b) := by
  show (⟨a.toArray ++ b.toArray⟩ : Str) = ⟨(a ++ b).toArray⟩
  rw [← List.append_toArray]
theorem T_of (x : Str) : T x.cps.toList = x := rfl
theorem T_inj {a b : List Nat} (h : T a = T b) : a = b := by
  have := congrArg (fun x : Str => x.cps.toList) h
  exact this
theorem T_eq (a b : List Nat) : (T a == T b) = decide (a = b) := by
  by_cases h : a = b
  · subst h; simp
  · rw [decide_eq_false h]
    exact beq_eq_false_iff_ne.mpr fun q => h (T_inj q)
theorem T_lit (s : String) : Str.ofString s = T (s.toList.map Char.toNat) := Str.ofString_eq_toList s
theorem T_sign (c : Nat) : (⟨#[c]⟩ : Str) = T [c] := rfl
theorem signs_T (l : List Nat) : signsD (T l) = l.map fun c => D.str (T [c]) := rfl
theorem sub_T (c : Nat) (l : List Nat) : subS (T [c]) (T l) = decide (c ∈ l) := PySem.StrLaws.found_one (T l) c
theorem sub_lit (c : Nat) (s : String) : subS (T [c]) (Str.ofString s) = decide (c ∈ s.toList.map Char.toNat) := by rw [T_lit, sub_T]
theorem join_T (xs : List (List Nat)) : Txt.join (T []) (xs.map T) = T xs.flatten := by
  rw [TL.join_eq]
  refine TL.ext_tl ?_
  rw [TL.tl_join, List.map_map]
  have e : (xs.map (TL.tl ∘ T)) = xs := by
    induction xs with
    | nil => rfl
    | cons x xs ih => rw [List.map_cons, ih]; rfl
  rw [e]
  show TL.joinL [] xs = xs.flatten
  induction xs with
  | nil => rfl
  | cons x xs ih =>
    cases xs with
    | nil => simp [TL.joinL]
    | cons y ys =>
      have ih' := ih (by
        have := List.tail_eq_of_cons_eq e
        exact this)
      rw [TL.joinL, ih']
      · simp
theorem count_T (l : List Nat) (c : Nat) : Txt.count (T l) (T [c]) = (l.count c : Nat) := by
  show Txt.count (T l) ⟨#[c]⟩ = _
  rw [PyProof.Rows.count_cnt]
  show PyProof.Rows.cnt c l = _
  induction l with
  | nil => rfl
  | cons x xs ih =>
    rw [PyProof.Rows.cnt_cons, ih, List.count_cons]
    by_cases h : x = c
    · subst h; simp; omega
    · simp [h, Ne.symm h]
theorem repl_one (l : List Nat) (c : Nat) : Txt.replace (T l) (T [c]) (T []) = T (l.filter (· != c)) := by
  refine TL.ext_tl ?_
  show (Txt.replace (T l) (T [c]) (T [])).cps.toList = l.filter (· != c)
  rw [PySem.StrLaws.replace_list (show 1 ≤ (T [c]).length from Nat.le_refl 1)]
  show PySem.StrLaws.replL [c] [] l = _
  induction l with
  | nil => rfl
  | cons x xs ih =>
    by_cases h : x = c
    · subst h
      rw [PySem.StrLaws.replL_hit (by simp) (by simp)]
      simp [ih]
    · rw [PySem.StrLaws.replL_miss (by simpa using h), ih]
      simp [h]
/-! ### slices -/
def slL {α : Type} (xs : List α) (lo hi : Option Int) : List α := (xs.drop (HT.sIx xs.length 0 lo)).take (HT.sIx xs.length xs.length hi - HT.sIx xs.length 0 lo)
theorem cutS_T (l : List Nat) (lo hi : Option Int) : cutS (T l) lo hi = T (slL l lo hi) := rfl
theorem cutD_sl (xs : List D) (lo hi : Option Int) : cutD xs lo hi = slL xs lo hi := rfl
theorem slL_to {α : Type} (xs : List α) (k : Nat) : slL xs none (some (k : Int)) = xs.take k := by
  unfold slL
  rw [HT.sIx_none, HT.sIx_nat, List.drop_zero, Nat.sub_zero]
  by_cases h : k ≤ xs.length
  · rw [Nat.min_eq_left h]
  · rw [Nat.min_eq_right (by omega), List.take_of_length_le (Nat.le_refl _), List.take_of_length_le (by omega)]
theorem slL_from {α : Type} (xs : List α) (k : Nat) : slL xs (some (k : Int)) none = xs.drop k := by
  unfold slL
  rw [HT.sIx_none, HT.sIx_nat]
  by_cases h : k ≤ xs.length
  · rw [Nat.min_eq_left h, List.take_of_length_le (by rw [List.length_drop]; exact Nat.le_refl _)]
  · rw [Nat.min_eq_right (by omega), Nat.sub_self, List.take_zero, List.drop_eq_nil_of_le (by omega)]
theorem slL_mid {α : Type} (xs : List α) (a b : Nat) : slL xs (some (a : Int)) (some (b : Int)) = (xs.drop a).take (b - a) := by
  unfold slL
  rw [HT.sIx_nat, HT.sIx_nat]
  by_cases h : a ≤ xs.length
  · rw [Nat.min_eq_left h]
    by_cases h2 : b ≤ xs.length
    · rw [Nat.min_eq_left h2]
    · rw [Nat.min_eq_right (by omega), List.take_of_length_le (by rw [List.length_drop]; exact Nat.le_refl _), List.take_of_length_le (by rw [List.length_drop]; omega)]
  · rw [show min a xs.length = xs.length by omega, List.drop_eq_nil_of_le (Nat.le_refl _), List.drop_eq_nil_of_le (by omega), List.take_nil, List.take_nil]
theorem gCut_T {l : List Nat} (h : l.length ≤ cap) (lo hi : Option Int) : gCut lo hi (.str (T l)) = some (.str (T (slL l lo hi))) := by
  show (if (T l).length ≤ cap then some (D.str (cutS (T l) lo hi)) else none) = _
  rw [if_pos (show (T l).length ≤ cap from h)]
  rfl
theorem gCut_L {o : Bool} {xs : List D} (h : plainL xs = true) (lo hi : Option Int) : gCut lo hi (.node o .lst xs) = some (.lst true (slL xs lo hi)) := gCut_lst h lo hi
theorem gCut_P {xs : List D} (h : plainL xs = true) (lo hi : Option Int) : gCut lo hi (.node false .tup xs) = some (.tup (slL xs lo hi)) := gCut_tup h lo hi
theorem strs_plain (xs : List Str) : plainL (xs.map D.str) = true := by
  induction xs with
  | nil => rfl
  | cons x xs ih => rw [List.map_cons, plainL, ih]; rfl
theorem join_ok (o : Bool) (xs : List (List Nat)) (h : xs.flatten.length ≤ cap) : opJoin [.str (T []), .node o .lst (xs.map fun l => D.str (T l))] = some (.str (T xs.flatten)) := by
  have e : (xs.map fun l => D.str (T l)) = (xs.map T).map D.str := by rw [List.map_map]; rfl
  rw [e]
  show (match strsD ((xs.map T).map D.str) with | some ys => if (ys.map fun y : Str => y.length).sum + ys.length * (T []).length ≤ cap then some (D.str (Txt.join (T []) ys)) else none | none => none) = _
  rw [strsD_map]
  have hs : ((xs.map T).map fun y : Str => y.length).sum + (xs.map T).length * (T []).length ≤ cap := by
    rw [show (T []).length = 0 from rfl, Nat.mul_zero, Nat.add_zero, List.map_map]
    refine Nat.le_trans (Nat.le_of_eq ?_) h
    rw [List.length_flatten]
    rfl
  simp only
  rw [if_pos hs, join_T]
theorem len_T {l : List Nat} (h : l.length ≤ cap) : opLen [.str (T l)] = some (.int l.length) := by
  show (if (T l).length ≤ cap then some (D.int (T l).length) else none) = _
  rw [if_pos (show (T l).length ≤ cap from h)]
  rfl
theorem add_T {a b : List Nat} (h : a.length + b.length ≤ cap) : hAdd [.str (T a), .str (T b)] = some (.str (T (a ++ b))) := by
  rw [hAdd_ss (show (T a).length + (T b).length ≤ cap from h), T_app]
theorem eq_T (a b : List Nat) : opEq [.str (T a), .str (T b)] = some (.bl (decide (a = b))) := by rw [eq_ss, T_eq]
theorem ne_TT (a b : List Nat) : opNe [.str (T a), .str (T b)] = some (.bl (!decide (a = b))) := by rw [ne_ss, T_eq]
theorem in_T (c : Nat) (l : List Nat) : opIn [.str (T [c]), .str (T l)] = some (.bl (decide (c ∈ l))) := by
  show some (D.bl (subS (T [c]) (T l))) = _
  rw [sub_T]
theorem notIn_T (c : Nat) (l : List Nat) : opNotIn [.str (T [c]), .str (T l)] = some (.bl (!decide (c ∈ l))) := by
  show some (D.bl (!subS (T [c]) (T l))) = _
  rw [sub_T]
theorem at_nat {α : Type} (xs : List α) (k : Nat) : atI xs (k : Int) = xs[k]? := by
  unfold atI ixN
  rw [if_pos (by omega)]
  by_cases h : k < xs.length
  · rw [if_pos (by omega), Int.toNat_natCast]
    rfl
  · rw [if_neg (by omega), List.getElem?_eq_none (by omega)]
    rfl
theorem repl_ok {l : List Nat} (c : Nat) (h : l.length ≤ cap) : opRepl (T [c]) (T []) [.str (T l)] = some (.str (T (l.filter (· != c)))) := by
  show (if (T l).length + ((T l).length + 1) * (T []).length ≤ cap then some (D.str (Txt.replace (T l) (T [c]) (T []))) else none) = _
  rw [show (T []).length = 0 from rfl, Nat.mul_zero, Nat.add_zero, if_pos (show (T l).length ≤ cap from h), repl_one]
/-! ### replaced, repeated, turned -/
theorem repl_T (l y z : List Nat) (hy : 1 ≤ y.length) : Txt.replace (T l) (T y) (T z) = T (PySem.StrLaws.replL y z l) := by
  refine TL.ext_tl ?_
  show (Txt.replace (T l) (T y) (T z)).cps.toList = PySem.StrLaws.replL y z l
  rw [PySem.StrLaws.replace_list (show 1 ≤ (T y).length from hy)]
  rfl
theorem opRepl_T {l y z : List Nat} (hy : 1 ≤ y.length) (h : l.length + (l.length + 1) * z.length ≤ cap) : opRepl (T y) (T z) [.str (T l)] = some (.str (T (PySem.StrLaws.replL y z l))) := by
  show (if (T l).length + ((T l).length + 1) * (T z).length ≤ cap then some (D.str (Txt.replace (T l) (T y) (T z))) else none) = _
  rw [if_pos (show (T l).length + ((T l).length + 1) * (T z).length ≤ cap from h), repl_T l y z hy]
theorem rep_fold (l : Array Nat) : ∀ (n : Nat) (a : Array Nat), ((List.replicate n l).foldl (· ++ ·) a).toList = a.toList ++ (List.replicate n l.toList).flatten
  | 0, a => by simp
  | n + 1, a => by
    rw [List.replicate_succ, List.foldl_cons, rep_fold l n, List.replicate_succ, List.flatten_cons, Array.toList_append, List.append_assoc]
theorem rep_T (l : List Nat) (n : Nat) : strRep (T l) (n : Int) = T (List.replicate n l).flatten := by
  refine TL.ext_tl ?_
  unfold strRep
  by_cases h0 : (n : Int) < 1
  · rw [if_pos h0]
    have : n = 0 := by omega
    subst this
    rfl
  · rw [if_neg h0]
    by_cases h1 : ((n : Int) == 1 || (T l).length == 0) = true
    · rw [if_pos h1]
      rw [Bool.or_eq_true, beq_iff_eq, beq_iff_eq] at h1
      rcases h1 with h1 | h1
      · have : n = 1 := by omega
        subst this
        show l = (List.replicate 1 l).flatten
        simp
      · have : l = [] := List.length_eq_zero_iff.mp h1
        subst this
        show [] = (List.replicate n ([] : List Nat)).flatten
        simp
    · rw [if_neg h1]
      show ((List.replicate (n : Int).toNat (T l).cps).foldl (· ++ ·) #[]).toList = (List.replicate n l).flatten
      rw [rep_fold, Int.toNat_natCast]
      rfl
theorem mul_T {l : List Nat} {n : Nat} (h : n ≤ 1000000) (h2 : l.length * n ≤ cap) : hMulT [.str (T l), .int (n : Int)] = some (.str (T (List.replicate n l).flatten)) := by
  show (if (n : Int) ≤ 1000000 ∧ -1000000 ≤ (n : Int) ∧ (T l).length * (n : Int).toNat ≤ cap then some (D.str (strRep (T l) (n : Int))) else none) = _
  rw [if_pos ⟨by omega, by omega, by rw [Int.toNat_natCast]; exact h2⟩, rep_T]
theorem rev_T {l : List Nat} (h : l.length ≤ cap) : opRev [.str (T l)] = some (.str (T l.reverse)) := by
  show (if (T l).length ≤ cap then some (D.str (revS (T l))) else none) = _
  rw [if_pos (show (T l).length ≤ cap from h)]
  rfl
theorem mid_T {l : List Nat} (h : l.length ≤ cap) (a b : Nat) : gCut (some (a : Int)) (some (b : Int)) (.str (T l)) = some (.str (T ((l.drop a).take (b - a)))) := by
  rw [gCut_T h, slL_mid]
end Pm
/-! PmYa: list of a text, list of a range. -/
namespace Pm
open PySem PySem.Spec PyProof.Rows L2
section
variable {K : PySem.W.Frag} {mg : Str → Option Value} {W : WX} {Z H : Hp} {S : Fp} {σ : Sl} {X : Cx} {e : Expr} {es : List Expr} {fa fb : M EV} {pos : Pos}
theorem call_listT (hc : X.calm = true) : CallR X (.type "list") (fun xs H Q => ∃ x : Str, xs = [.str x] ∧ x.length ≤ 1000000 ∧ ∀ l, H l = none → Q (.ref l) (upd H l (.lst (x.cps.toList.map fun c => V.str ⟨#[c]⟩)))) := by
  intro pins s σ H xs us Q I r h
  obtain ⟨x, rfl, hx, q⟩ := h
  obtain ⟨u, rfl, rx⟩ := vals1 r
  obtain ⟨t, rfl⟩ := rx
  have hz : x.cps.size ≤ sizeLine := by
    rw [sizeLine_eq]
    have : x.cps.size ≤ 1000000 := hx
    omega
  refine PySem.call_list_str (I.ok.hd hc) x t (fun h' tk acc' c' hk hS hacc => ?_) hz
  refine ⟨.ref s.heap.objs.size, upd H s.heap.objs.size (.lst (x.cps.toList.map fun c => V.str ⟨#[c]⟩)), I.laid hk (Nat.le_refl _) (show ObjOk X.prog X.w _ _ _ (.lst (x.cps.toList.map fun c => V.str ⟨#[c]⟩)) from ⟨?_, acc'.toList, c', ?_, ?_⟩), rfl, q _ (I.hok.fresh (Nat.le_refl _))⟩
  · rw [List.length_map, Array.length_toList]; exact hz
  · have el : acc'.toList.length = acc'.size := by simp
    refine vals_of_at (by rw [List.length_map, el, hacc.1, Array.length_toList]) fun j y w h1 h2 => ?_
    have h3 := hacc.2 j w (by rw [← Array.getElem?_toList]; exact h2)
    obtain ⟨c, t2, hc2, rfl⟩ := h3
    rw [List.getElem?_map, Array.getElem?_toList, hc2] at h1
    cases h1
    exact ⟨t2, rfl⟩
  · rw [Array.toArray_toList]; exact hS
def opListA : List D → Option D
  | [.str x] => if x.length ≤ cap then some (.lst true (signsD x)) else none
  | ds => opList ds
theorem call_listA (hc : X.calm = true) : CallR X (.type "list") (fun xs H Q => (∃ p ys, xs = [.ref p] ∧ (SqL X.K H p ys ∨ SqT X.K H p ys) ∧ ∀ l, H l = none → Q (.ref l) (upd H l (.lst ys))) ∨ ∃ x : Str, xs = [.str x] ∧ x.length ≤ 1000000 ∧ ∀ l, H l = none → Q (.ref l) (upd H l (.lst (x.cps.toList.map fun c => V.str ⟨#[c]⟩)))) := by
  intro pins s σ H xs us Q I r h
  rcases h with h | h
  · exact call_list_of pins s σ H xs us Q I r h
  · exact call_listT hc pins s σ H xs us Q I r h
theorem rep_signs (l : List Nat) : RepL K Z H (l.map fun c => D.str ⟨#[c]⟩) (l.map fun c => V.str ⟨#[c]⟩) Fp0 := by
  induction l with
  | nil => trivial
  | cons c l ih => exact ⟨Fp0, Fp0, fun _ x => x, fun _ x => x, fun _ x _ => x, rfl, ih⟩
theorem snd_listA : Snd X (fun xs H Q => (∃ p ys, xs = [.ref p] ∧ (SqL X.K H p ys ∨ SqT X.K H p ys) ∧ ∀ l, H l = none → Q (.ref l) (upd H l (.lst ys))) ∨ ∃ x : Str, xs = [.str x] ∧ x.length ≤ 1000000 ∧ ∀ l, H l = none → Q (.ref l) (upd H l (.lst (x.cps.toList.map fun c => V.str ⟨#[c]⟩)))) opListA := by
  intro Z H S ds vs d Q w rb e k
  unfold opListA at e
  split at e
  · rename_i x
    split at e
    · rename_i hx
      obtain ⟨v, rfl, rv⟩ := rb1 rb
      obtain rfl : v = .str x := rv
      cases e
      refine .inr ⟨x, rfl, hx, fun p np => ?_⟩
      obtain ⟨f1, f2, f3, f4⟩ := fresh_lst w np (rep_signs (K := X.K) (Z := Z) (H := H) x.cps.toList)
      exact k _ _ _ _ f1 f2 f3 f4
    · cases e
  · exact .inl (snd_list Z H S ds vs d Q w rb e k)
/-! ### list(range(..)) -/
noncomputable def smR (a b : Int) : Bool := @decide (0 ≤ a ∧ a ≤ 1000000 ∧ 0 ≤ b ∧ b ≤ 1000000) (Classical.propDecidable _)
theorem smR_ok {a b : Int} (h : smR a b = true) : 0 ≤ a ∧ a ≤ 1000000 ∧ 0 ≤ b ∧ b ≤ 1000000 := @of_decide_eq_true _ (Classical.propDecidable _) h
theorem smR_of {a b : Int} (h : 0 ≤ a ∧ a ≤ 1000000 ∧ 0 ≤ b ∧ b ≤ 1000000) : smR a b = true := @decide_eq_true _ (Classical.propDecidable _) h
noncomputable def opRg1 : List D → Option D
  | [.int b] => if smR 0 b then some (.lst true (rangeD 0 b.toNat)) else none
  | _ => none
noncomputable def opRg2 : List D → Option D
  | [.int a, .int b] => if smR a b then some (.lst true (rangeD a (b - a).toNat)) else none
  | _ => none
theorem rep_rg (a : Int) (n : Nat) : ∀ ks : List Nat, RepL K Z H (ks.map fun (i : Nat) => D.int (a + (i : Int))) (ks.map fun (i : Nat) => V.int (a + (i : Int))) Fp0
  | [] => trivial
  | k :: ks => ⟨Fp0, Fp0, fun _ x => x, fun _ x => x, fun _ x _ => x, rfl, rep_rg a n ks⟩
theorem snd_rg1 : Snd X (fun xs H Q => ∃ n, xs = [.int n] ∧ RgOk 0 n ∧ ∀ q, H q = none → Q (.ref q) (upd H q (.lst (rgV 0 n)))) opRg1 := by
  intro Z H S ds vs d Q w rb e k
  unfold opRg1 at e
  split at e
  · rename_i b
    split at e
    · rename_i hs
      obtain ⟨h1, h2, h3, h4⟩ := smR_ok hs
      obtain ⟨v, rfl, rv⟩ := rb1 rb
      obtain rfl : v = .int b := rv
      cases e
      refine ⟨b, rfl, RgOk.of_le (by omega) (by omega) (by omega) (by omega), fun p np => ?_⟩
      have r : RepL X.K Z H (rangeD 0 b.toNat) (rgV 0 b) Fp0 := by
        unfold rangeD rgV
        rw [Int.sub_zero]
        exact rep_rg 0 0 _
      obtain ⟨f1, f2, f3, f4⟩ := fresh_lst w np r
      exact k _ _ _ _ f1 f2 f3 f4
    · cases e
  · cases e
theorem snd_rg2 : Snd X (fun xs H Q => ∃ a b, xs = [.int a, .int b] ∧ RgOk a b ∧ ∀ q, H q = none → Q (.ref q) (upd H q (.lst (rgV a b)))) opRg2 := by
  intro Z H S ds vs d Q w rb e k
  unfold opRg2 at e
  split at e
  · rename_i a b
    split at e
    · rename_i hs
      obtain ⟨h1, h2, h3, h4⟩ := smR_ok hs
      obtain ⟨v, u, rfl, rv, ru⟩ := rb2 rb
      obtain rfl : v = .int a := rv
      obtain rfl : u = .int b := ru
      cases e
      refine ⟨a, b, rfl, RgOk.of_le (by omega) (by omega) (by omega) (by omega), fun p np => ?_⟩
      have r : RepL X.K Z H (rangeD a (b - a).toNat) (rgV a b) Fp0 := rep_rg a 0 _
      obtain ⟨f1, f2, f3, f4⟩ := fresh_lst w np r
      exact k _ _ _ _ f1 f2 f3 f4
    · cases e
  · cases e
theorem E_lr1 {a : Expr} {p p2 pos2 : Pos} (hl : X.mg "list" = none) (hr : X.mg "range" = none) (ha : PE X a (tE X.K X.mg W fa)) (hc : X.calm = true := by rfl) (hgl : Gl X "list" := by rfl) (hgr : Gl X "range" := by rfl)
    (na : starEach [a] X.env = (false, eval a X.env) :: starEach [] X.env := by rfl) (nr : starEach [.Call (.Name "range" p) [a] [] pos] X.env = (false, eval (.Call (.Name "range" p) [a] [] pos) X.env) :: starEach [] X.env := by rfl) :
    PE X (.Call (.Name "list" p2) [.Call (.Name "range" p) [a] [] pos] [] pos2) (tE X.K X.mg W (app opRg1 (aCons fa aNil))) :=
  PE.of (pe_listRg hc hgl hl (prg_1 hgr hr ha na) nr) fun σ H Q q => by
    refine tE_mono (fun x H1 q1 => ?_) (tA_cons (tE_app snd_rg1 q))
    obtain ⟨n, e, h1, h2⟩ := tA_nil q1
    cases e
    exact ⟨n, rfl, h1, h2⟩
theorem E_lr2 {a b : Expr} {p p2 pos2 : Pos} (hl : X.mg "list" = none) (hr : X.mg "range" = none) (ha : PE X a (tE X.K X.mg W fa)) (hb : PE X b (tE X.K X.mg W fb)) (hc : X.calm = true := by rfl) (hgl : Gl X "list" := by rfl) (hgr : Gl X "range" := by rfl)
    (na : starEach [a, b] X.env = (false, eval a X.env) :: starEach [b] X.env := by rfl) (nb : starEach [b] X.env = (false, eval b X.env) :: starEach [] X.env := by rfl) (hp : (backTo pos (starEach [b] X.env)).any (·.1) = false := by rfl) (nr : starEach [.Call (.Name "range" p) [a, b] [] pos] X.env = (false, eval (.Call (.Name "range" p) [a, b] [] pos) X.env) :: starEach [] X.env := by rfl) :
    PE X (.Call (.Name "list" p2) [.Call (.Name "range" p) [a, b] [] pos] [] pos2) (tE X.K X.mg W (app opRg2 (aCons fa (aCons fb aNil)))) :=
  PE.of (pe_listRg hc hgl hl (prg_2 hgr hr ha hb na nb hp) nr) fun σ H Q q => by
    refine tE_mono (fun x H1 q1 => ?_) (tA_cons (tE_app snd_rg2 q))
    refine tE_mono (fun y H2 q2 => ?_) (tA_cons q1)
    obtain ⟨n, m, e, h1, h2⟩ := tA_nil q2
    cases e
    exact ⟨n, m, rfl, rfl, h1, h2⟩
end
end Pm
/-! PgA: what the laws draw: tables, letters of a table. -/
namespace Pg
open PySem PySem.Spec PyProof.Rows L2 Pm
noncomputable def c_lrules_1 (S : FSem) : M EV := comp [8] (srcR1 (aCons (Pm.bin hAdd (con (.int 1)) (callF S (aCons (loc 0) (aCons (con (.int 6)) aNil)))) aNil)) (gN 8) yesT (popi 1 (callF S (aCons (loc 0) (aCons (app opLen (aCons (loc 1) aNil)) aNil))))
noncomputable def b_lrules_1 (S : FSem) : M Fl := (seq (asg (Pm.bin (on2I iSub) (callF S (aCons (loc 0) (aCons (Pm.bin hAdd (Pm.bin hMulT (con (.int 2)) (loc 3)) (con (.int 1))) aNil))) (loc 3)) (gN 7))
    (drp (appd 5 (disp false .tup (aCons (loc 6) (aCons (loc 7) (aCons (Pm.bin (on2I iSub) (callF S (aCons (loc 0) (aCons (Pm.bin hAdd (Pm.bin hMulT (con (.int 2)) (loc 4)) (con (.int 1))) aNil))) (loc 4)) aNil)))))))
noncomputable def b_lrules (S : FSem) : M Fl := (seq (asg (app opListA (aCons (con (.str "abcdefghijklmnopqrstuvwxyz")) aNil)) (gN 1))
    (seq (asg (app opSorted (aCons (c_lrules_1 S) aNil)) (gN 2))
    (seq (asg (idx (aCons (disp true .lst (aCons (con (.int 1)) (aCons (con (.int 3)) (aCons (con (.int 12)) (aCons (con (.int 300)) (aCons (Pm.bin (on2I iPow) (con (.int 10)) (con (.int 12))) aNil)))))) (aCons (callF S (aCons (loc 0) (aCons (con (.int 5)) aNil))) aNil))) (gN 3))
    (seq (asg (idx (aCons (disp true .lst (aCons (con (.int 0)) (aCons (con (.int 1)) (aCons (con (.int 2)) (aCons (con (.int 9)) (aCons (Pm.bin (on2I iPow) (con (.int 10)) (con (.int 12))) aNil)))))) (aCons (callF S (aCons (loc 0) (aCons (con (.int 5)) aNil))) aNil))) (gN 4))
    (seq (asg (disp true .lst aNil) (gN 5))
    (seq (forS (srcA (loc 2)) (gN 6) (b_lrules_1 S))
    (rtn (app opTuple (aCons (loc 5) aNil)))))))))
noncomputable def x_lrules (S : FSem) : FSem := mkF 1 9 [] (b_lrules S)
noncomputable def c_lsigns_1 : M EV := comp [9] (srcA (loc 1)) (gN 9) yesT (idx (aCons (loc 9) (aCons (con (.int 0)) aNil)))
noncomputable def c_lsigns_2 (S : FSem) : M EV := comp [7] (srcR1 (aCons (con (.int 2)) aNil)) (gN 7) yesT (idx (aCons (loc 3) (aCons (callF S (aCons (loc 0) (aCons (app opLen (aCons (loc 3) aNil)) aNil))) aNil)))
noncomputable def b_lsigns_1 (S : FSem) : M Fl := (seq (asg (idx (aCons (loc 3) (aCons (callF S (aCons (loc 0) (aCons (app opLen (aCons (loc 3) aNil)) aNil))) aNil))) (gN 8))
    (seq (Pm.ite (andT (tst (Pm.bin opEq (loc 4) (con (.int 1)))) (tst (Pm.bin opGtA (callF S (aCons (loc 0) (aCons (con (.int 4)) aNil))) (con (.int 0))))) (asg (idx (aCons (loc 5) (aCons (con (.int 0)) aNil))) (gN 8)) sNx)
    (asg (Pm.bin hAdd (loc 6) (idx (aCons (disp true .lst (aCons (loc 8) (aCons (idx (aCons (loc 5) (aCons (Pm.bin (on2I iMod) (loc 7) (con (.int 2))) aNil))) aNil))) (aCons (app opInt (aCons (Pm.bin opEq (loc 4) (con (.int 2))) aNil)) aNil)))) (gN 6))))
noncomputable def b_lsigns (S : FSem) : M Fl := (seq (asg c_lsigns_1 (gN 3))
    (seq (asg (callF S (aCons (loc 0) (aCons (con (.int 3)) aNil))) (gN 4))
    (seq (asg (c_lsigns_2 S) (gN 5))
    (seq (asg (con (.str "")) (gN 6))
    (seq (forS (srcR1 (aCons (loc 2) aNil)) (gN 7) (b_lsigns_1 S))
    (rtn (mov 6)))))))
noncomputable def x_lsigns (S : FSem) : FSem := mkF 3 10 [] (b_lsigns S)
abbrev sg (c : Nat) : D := .str (T [c])
/-- a table as it is known here: letters as code points -/
abbrev Tab := List (Nat × Int × Int)
def rowD (r : Nat × Int × Int) : D := .tup [sg r.1, .int r.2.1, .int r.2.2]
def tabD (t : Tab) : D := .tup (t.map rowD)
abbrev GR : Int := 1000000000000
structure TabOk (t : Tab) : Prop where
  len1 : 1 ≤ t.length
  len6 : t.length ≤ 6
  asc : (t.map (·.1)).Pairwise (· < ·)
  let1 : ∀ r ∈ t, 97 ≤ r.1 ∧ r.1 ≤ 122
  num : ∀ r ∈ t, -GR ≤ r.2.1 ∧ r.2.1 ≤ GR ∧ -GR ≤ r.2.2 ∧ r.2.2 ≤ GR
theorem rowD_plain (r : Nat × Int × Int) : (rowD r).plain = true := rfl
theorem rows_plain (t : Tab) : plainL (t.map rowD) = true := by
  induction t with
  | nil => rfl
  | cons r t ih => rw [List.map_cons, plainL, ih, rowD_plain]; rfl
theorem tabD_plain (t : Tab) : (tabD t).plain = true := by
  show (true && plainL (t.map rowD)) = true
  rw [rows_plain]; rfl
theorem tabD_frz (t : Tab) : (tabD t).frz = tabD t := D.frz_of_plain _ (tabD_plain t)
/-- a draw, the pen owned -/
theorem dr {S : FSem} (hS : Draws S) {ns : List Int} {a m : Int} {xs : List D} (hl : ns.length ≤ 63) (hp : Pen ns a (.node true .lst xs)) (ha : a ≤ 1000000) (hm : 0 < m) (hd : divOk m = true) :
    ∃ (r : Int) (xs' : List D), S [.node true .lst xs, .int m] = .ret (.int r) [.node true .lst xs', .int m] ∧ 0 ≤ r ∧ r < m ∧ Pen ns (a + 1) (.node true .lst xs') := by
  obtain ⟨r, d', e, h0, h1, p⟩ := hS ns _ a m hl hp ha hm hd
  obtain ⟨xs', rfl⟩ := p.owned
  exact ⟨r, xs', e, h0, h1, p⟩
theorem divS {m : Int} (h0 : 0 ≤ m) (h1 : m ≤ 100000000000000) : divOk m = true := Sm.divOk (e := 50) (by unfold Sm; omega) (by decide)
abbrev ABC : List Nat := [97, 98, 99, 100, 101, 102, 103, 104, 105, 106, 107, 108, 109, 110, 111, 112, 113, 114, 115, 116, 117, 118, 119, 120, 121, 122]
theorem abc_T : (("abcdefghijklmnopqrstuvwxyz" : String) : Str) = T ABC := by
  rw [show ((("abcdefghijklmnopqrstuvwxyz" : String) : Str)) = Str.ofString "abcdefghijklmnopqrstuvwxyz" from rfl, T_lit]; rfl
theorem sgs_plain (l : List Nat) : plainL (l.map sg) = true := by
  induction l with
  | nil => rfl
  | cons x xs ih => rw [List.map_cons, plainL, ih]; rfl
theorem get_sg {l : List Nat} {k : Nat} (h : k < l.length) : (l.map sg)[k]? = some (sg l[k]) := by
  rw [List.getElem?_map, List.getElem?_eq_getElem h]; rfl
theorem erase_map {α β : Type} (f : α → β) : ∀ (l : List α) (k : Nat), (l.map f).eraseIdx k = (l.eraseIdx k).map f
  | [], _ => by simp
  | _ :: _, 0 => by simp
  | x :: xs, k + 1 => by simp [erase_map f xs k]
theorem erase_perm {α : Type} : ∀ (l : List α) (k : Nat) (h : k < l.length), (l[k] :: l.eraseIdx k).Perm l
  | [], _, h => by simp at h
  | _ :: _, 0, _ => by simp
  | x :: xs, k + 1, h => by
    have ih := erase_perm xs k (by simpa using h)
    simp only [List.getElem_cons_succ, List.eraseIdx_cons_succ]
    exact (List.Perm.swap x _ _).trans (List.Perm.cons x ih)
theorem perm_erase {p l q : List Nat} {k : Nat} (h : k < l.length) (hp : (p ++ l).Perm q) : ((p ++ [l[k]]) ++ l.eraseIdx k).Perm q := by
  refine List.Perm.trans ?_ hp
  rw [List.append_assoc]
  refine List.Perm.append_left p ?_
  exact erase_perm l k h
/-- letters drawn without repetition -/
theorem marks_ok {S : FSem} (hS : Draws S) {ns : List Int} {a : Int} {z : List D} (hl : ns.length ≤ 63) (hp : Pen ns a (.node true .lst z)) (ha : a + 100 ≤ 1000000) :
    ∃ (z' : List D) (l ps : List Nat), (c_lrules_1 S) [some (.node true .lst z), some (.node true .lst (ABC.map sg)), none, none, none, none, none, none, none]
      = .ok (.val (.lst true (ps.map sg))) [some (.node true .lst z'), some (.node true .lst (l.map sg)), none, none, none, none, none, none, none] ∧ Pen ns (a + 10) (.node true .lst z') ∧ 1 ≤ ps.length ∧ ps.length ≤ 6 ∧ (ps ++ l).Perm ABC := by
  obtain ⟨r1, z1, e1, r10, r11, p1⟩ := dr hS (m := 6) hl hp (by omega) (by decide) (by decide)
  obtain ⟨n, rfl⟩ := Int.eq_ofNat_of_zero_le r10
  have hsrc : srcR1 (aCons (Pm.bin hAdd (con (.int 1)) (callF S (aCons (loc 0) (aCons (con (.int 6)) aNil)))) aNil) [some (.node true .lst z), some (.node true .lst (ABC.map sg)), none, none, none, none, none, none, none]
      = .ok (rangeD 0 (n + 1)) [some (.node true .lst z1), some (.node true .lst (ABC.map sg)), none, none, none, none, none, none, none] := by
    refine src_r1 (es := [.val (.int ((n : Int) + 1))]) (n := n + 1) ?_ ?_ (by omega)
    · simp [mkF, reFrz, seq, Pm.ite, rtn, mov, asg, drp, sNx, bnd, Pm.bin, Pm.un, app, aCons, aNil, idx, loc, con, Pm.ret, peek1, peeks, itemOf, on2I, iAdd, iSub, iGt, iGe, iLt, iLe, iDiv, iMod, use1, useL, gI, gN, tst, andT, orT, notT, andE, orE, notE, ifE, ixN, D.frz, D.plain, plainL, argsBack, opLen, opAbs, opInt1, opNeg, disp, cap, callF, takes, puts, selA, sel, aApp, par, gT, gsC, gs0, appF, opDivmod, frzL, plainL, e1, hAdd_ii, Int.add_comm]
    · simp [mkF, reFrz, seq, Pm.ite, rtn, mov, asg, drp, sNx, bnd, Pm.bin, Pm.un, app, aCons, aNil, idx, loc, con, Pm.ret, peek1, peeks, itemOf, on2I, iAdd, iSub, iGt, iGe, iLt, iLe, iDiv, iMod, use1, useL, gI, gN, tst, andT, orT, notT, andE, orE, notE, ifE, ixN, D.frz, D.plain, plainL, argsBack, opLen, opAbs, opInt1, opNeg, disp, cap, callF, takes, puts, selA, sel, aApp, par, gT, gsC, gs0, appF, opDivmod, frzL, plainL]
  obtain ⟨acc, ρ', e, z', l, ps, rfl, p', rfl, hperm, hlen⟩ := comp_wp (own := [8]) (g := gN 8) (c := yesT) (e := popi 1 (callF S (aCons (loc 0) (aCons (app opLen (aCons (loc 1) aNil)) aNil)))) hsrc
    (fun j ρ acc => ∃ (z' : List D) (l ps : List Nat), ρ = [some (.node true .lst z'), some (.node true .lst (l.map sg)), none, none, none, none, none, none, none] ∧ Pen ns (a + 1 + j) (.node true .lst z') ∧ acc = ps.map sg ∧ (ps ++ l).Perm ABC ∧ ps.length = j)
    ⟨z1, ABC, [], rfl, p1.mono (by omega), rfl, List.Perm.refl _, rfl⟩ (by rw [range_len]; show n + 1 ≤ 1000000; omega)
    (fun j d ρ acc hd ⟨z', l, ps, e, hp', ea, hperm, hlen⟩ => by
      subst e
      obtain ⟨hj, rfl⟩ := range_get hd
      have hsum : ps.length + l.length = 26 := by rw [← List.length_append, hperm.length_eq]; rfl
      obtain ⟨r, z2, e2, r20, r21, p2⟩ := dr hS (m := (l.length : Int)) hl hp' (by omega) (by omega) (divS (by omega) (by omega))
      obtain ⟨k, rfl⟩ := Int.eq_ofNat_of_zero_le r20
      have hk : k < l.length := by omega
      refine ⟨_, rfl, ?_⟩
      refine Wp.of (a := true) rfl ⟨fun _ => ?_, fun q => nomatch q⟩
      refine Wp.of (a := .val (sg l[k])) (ρ' := [some (.node true .lst z2), some (.node true .lst ((l.map sg).eraseIdx k)), none, none, none, none, none, none, some (.int (0 + (j : Int)))]) ?_ ?_
      · have hc : l.length ≤ cap := by show _ ≤ 1000000; omega
        have h1 : ixN l.length (k : Int) = some k := by
          unfold ixN
          rw [if_pos (by omega), if_pos (by omega), Int.toNat_natCast]
        simp [popi, mkF, reFrz, seq, Pm.ite, rtn, mov, asg, drp, sNx, bnd, Pm.bin, Pm.un, app, aCons, aNil, idx, loc, con, Pm.ret, peek1, peeks, itemOf, on2I, iAdd, iSub, iGt, iGe, iLt, iLe, iDiv, iMod, use1, useL, gI, gN, tst, andT, orT, notT, andE, orE, notE, ifE, D.frz, D.plain, plainL, argsBack, opLen, opAbs, opInt1, opNeg, disp, cap, callF, takes, puts, selA, sel, aApp, par, gT, gsC, gs0, appF, opDivmod, frzL, plainL, e2, get_sg hk, h1, hk, hc]
      · refine ⟨_, _, rfl, z2, l.eraseIdx k, ps ++ [l[k]], ?_, p2.mono (by omega), by rw [ea]; simp, perm_erase hk hperm, by simp [hlen]⟩
        simp [wipeE, erase_map])
  rw [range_len] at p' hlen
  refine ⟨z', l, ps, ?_, p'.mono (by omega), by omega, by omega, hperm⟩
  unfold c_lrules_1
  rw [e]
  rfl
theorem strs_sg (ps : List Nat) : strsD (ps.map sg) = some (ps.map fun c => T [c]) := by
  have e : ps.map sg = (ps.map fun c => T [c]).map D.str := by rw [List.map_map]; rfl
  rw [e, strsD_map]
theorem ints_sg {ps : List Nat} (h : ps ≠ []) : intsD (ps.map sg) = none := by
  cases ps with
  | nil => exact absurd rfl h
  | cons p ps => rfl
theorem leS_sg (c d : Nat) : leS (T [c]) (T [d]) = decide (c ≤ d) := by
  unfold leS
  rw [T_list, T_list]
  by_cases h : c ≤ d
  · rw [decide_eq_true h, Bool.not_eq_true', decide_eq_false_iff_not]
    intro q
    rcases List.cons_lt_cons_iff.mp q with q | ⟨_, q⟩
    · omega
    · exact absurd q (List.lt_irrefl _)
  · rw [decide_eq_false h, Bool.not_eq_false', decide_eq_true_eq]
    exact List.cons_lt_cons_iff.mpr (.inl (by omega))
/-- sorted letters -/
theorem sorted_sg (ps : List Nat) (h : ps ≠ []) (hl : ps.length < 64) (hn : ps.Nodup) : ∃ qs : List Nat, opSorted [.node true .lst (ps.map sg)] = some (.lst true (qs.map sg)) ∧ qs.Perm ps ∧ qs.Pairwise (· < ·) := by
  have hp := sortS_perm (ps.map fun c => T [c])
  have hpair := sortS_pair (ps.map fun c => T [c])
  obtain ⟨qs, hq, e⟩ : ∃ qs : List Nat, qs.Perm ps ∧ sortS (ps.map fun c => T [c]) = qs.map fun c => T [c] := by
    have := hp
    generalize sortS (ps.map fun c => T [c]) = l at this
    refine ⟨l.map fun x => x.cps.toList.headD 0, ?_, ?_⟩
    · have h2 := this.map (fun x : Str => x.cps.toList.headD 0)
      rw [List.map_map] at h2
      have e : (ps.map ((fun x : Str => x.cps.toList.headD 0) ∘ fun c => T [c])) = ps := by
        conv => rhs; rw [← List.map_id ps]
        rfl
      rw [e] at h2
      exact h2
    · rw [List.map_map]
      have all : ∀ x ∈ l, ∃ c, x = T [c] := fun x hx => by
        have := this.mem_iff.mp hx
        obtain ⟨c, _, rfl⟩ := List.mem_map.mp this
        exact ⟨c, rfl⟩
      conv => lhs; rw [← List.map_id l]
      refine List.map_congr_left fun x hx => ?_
      obtain ⟨c, rfl⟩ := all x hx
      rfl
  refine ⟨qs, ?_, hq, ?_⟩
  · show (match intsD (ps.map sg) with | some ns => some (D.lst true ((sortI ns).map D.int)) | none => match strsD (ps.map sg) with | some ys => if ys.length < 64 then some (.lst true ((sortS ys).map D.str)) else none | none => none) = _
    rw [ints_sg h, strs_sg]
    simp only
    rw [if_pos (by rw [List.length_map]; exact hl), e, List.map_map]
    rfl
  · rw [e] at hpair
    have h1 : qs.Pairwise fun x y => leS (T [x]) (T [y]) = true := List.pairwise_map.mp hpair
    have h2 : qs.Nodup := hq.nodup_iff.mpr hn
    have h3 := h1.and h2
    exact h3.imp fun {x y} ⟨q1, q2⟩ => by
      rw [leS_sg, decide_eq_true_eq] at q1
      omega
theorem pow12 : iPow 10 12 = some (.int 1000000000000) := rfl
theorem at5 {P : Int → Prop} {x0 x1 x2 x3 x4 r : Int} (h0 : 0 ≤ r) (h1 : r < 5) (p0 : P x0) (p1 : P x1) (p2 : P x2) (p3 : P x3) (p4 : P x4) : ∃ q, atI [D.int x0, .int x1, .int x2, .int x3, .int x4] r = some (.int q) ∧ P q := by
  have : r = 0 ∨ r = 1 ∨ r = 2 ∨ r = 3 ∨ r = 4 := by omega
  rcases this with rfl | rfl | rfl | rfl | rfl
  · exact ⟨x0, rfl, p0⟩
  · exact ⟨x1, rfl, p1⟩
  · exact ⟨x2, rfl, p2⟩
  · exact ⟨x3, rfl, p3⟩
  · exact ⟨x4, rfl, p4⟩
/-- what is drawn as a table is one -/
theorem rules_ok {S : FSem} (hS : Draws S) {ns : List Int} {a : Int} {z : List D} (hl : ns.length ≤ 63) (hp : Pen ns a (.node true .lst z)) (ha : a + 200 ≤ 1000000) :
    ∃ (z' : List D) (t : Tab), (x_lrules S) [.node true .lst z] = .ret (tabD t) [.node true .lst z'] ∧ TabOk t ∧ Pen ns (a + 50) (.node true .lst z') := by
  obtain ⟨z1, l, ps, e1, p1, h1, h6, hperm⟩ := marks_ok hS hl hp (by omega)
  have hnd : (ps ++ l).Nodup := hperm.nodup_iff.mpr (by decide)
  obtain ⟨qs, e2, hq, hasc⟩ := sorted_sg ps (by intro q; rw [q] at h1; simp at h1) (by omega) (List.nodup_append.mp hnd).1
  obtain ⟨r3, z3, e3, r30, r31, p3⟩ := dr hS (m := 5) hl p1 (by omega) (by decide) (by decide)
  obtain ⟨hi, e4, hi0, hi1⟩ := at5 (P := fun q => 0 ≤ q ∧ q ≤ GR) (x0 := 1) (x1 := 3) (x2 := 12) (x3 := 300) (x4 := 1000000000000) r30 r31 (by decide) (by decide) (by decide) (by decide) (by decide)
  obtain ⟨r5, z5, e5, r50, r51, p5⟩ := dr hS (m := 5) hl p3 (by omega) (by decide) (by decide)
  obtain ⟨st, e6, st0, st1⟩ := at5 (P := fun q => 0 ≤ q ∧ q ≤ GR) (x0 := 0) (x1 := 1) (x2 := 2) (x3 := 9) (x4 := 1000000000000) r50 r51 (by decide) (by decide) (by decide) (by decide) (by decide)
  have hql : qs.length = ps.length := hq.length_eq
  have hqin : ∀ c ∈ qs, 97 ≤ c ∧ c ≤ 122 := fun c hc => by
    have : c ∈ ABC := hperm.mem_iff.mp (List.mem_append_left l (hq.mem_iff.mp hc))
    simp only [ABC, List.mem_cons, List.not_mem_nil, or_false] at this
    omega
  have hw : Wf (x_lrules S) [.node true .lst z] fun d as => ∃ (z' : List D) (t : Tab), d = tabD t ∧ as = [.node true .lst z'] ∧ TabOk t ∧ Pen ns (a + 50) (.node true .lst z') := by
    unfold x_lrules
    refine wf_mkF ?_
    unfold b_lrules
    have eabc : app opListA (aCons (con (.str ("abcdefghijklmnopqrstuvwxyz" : String))) aNil) [some (.node true .lst z), none, none, none, none, none, none, none, none] = .ok (.val (.lst true (ABC.map sg))) [some (.node true .lst z), none, none, none, none, none, none, none, none] := by
      have : opListA [.str ("abcdefghijklmnopqrstuvwxyz" : String)] = some (.lst true (ABC.map sg)) := by
        rw [abc_T]; rfl
      simp [mkF, reFrz, seq, Pm.ite, rtn, mov, asg, drp, sNx, bnd, Pm.bin, Pm.un, app, aCons, aNil, idx, loc, con, Pm.ret, peek1, peeks, itemOf, on2I, iAdd, iSub, iGt, iGe, iLt, iLe, iDiv, iMod, use1, useL, gI, gN, tst, andT, orT, notT, andE, orE, notE, ifE, ixN, D.frz, D.plain, plainL, argsBack, opLen, opAbs, opInt1, opNeg, disp, cap, callF, takes, puts, selA, sel, aApp, par, gT, gsC, gs0, appF, opDivmod, frzL, plainL, this]
    show Wp _ [some (.node true .lst z), none, none, none, none, none, none, none, none] _
    refine wp_seq fun K k1 k2 k3 k4 => ?_
    refine Wp.of (asg_val eabc (by show 1 < 9; decide)) (k1 _ ?_)
    clear k1 k2 k3 k4 K
    show Wp _ [some (.node true .lst z), some (.node true .lst (ABC.map sg)), none, none, none, none, none, none, none] _
    generalize ABC.map sg = A at e1 ⊢
    refine wp_seq fun K k1 k2 k3 k4 => ?_
    simp [Wp, mkF, reFrz, seq, Pm.ite, rtn, mov, asg, drp, sNx, bnd, Pm.bin, Pm.un, app, aCons, aNil, idx, loc, con, Pm.ret, peek1, peeks, itemOf, on2I, iAdd, iSub, iGt, iGe, iLt, iLe, iDiv, iMod, use1, useL, gI, gN, tst, andT, orT, notT, andE, orE, notE, ifE, ixN, D.frz, D.plain, plainL, argsBack, opLen, opAbs, opInt1, opNeg, disp, cap, callF, takes, puts, selA, sel, aApp, par, gT, gsC, gs0, appF, opDivmod, frzL, plainL, e1, e2]
    refine k1 _ ?_
    clear k1 k2 k3 k4 K
    refine wp_seq fun K k1 k2 k3 k4 => ?_
    simp [Wp, mkF, reFrz, seq, Pm.ite, rtn, mov, asg, drp, sNx, bnd, Pm.bin, Pm.un, app, aCons, aNil, idx, loc, con, Pm.ret, peek1, peeks, itemOf, on2I, iAdd, iSub, iGt, iGe, iLt, iLe, iDiv, iMod, use1, useL, gI, gN, tst, andT, orT, notT, andE, orE, notE, ifE, ixN, D.frz, D.plain, plainL, argsBack, opLen, opAbs, opInt1, opNeg, disp, cap, callF, takes, puts, selA, sel, aApp, par, gT, gsC, gs0, appF, opDivmod, frzL, plainL, e3, e4, pow12]
    refine k1 _ ?_
    clear k1 k2 k3 k4 K
    refine wp_seq fun K k1 k2 k3 k4 => ?_
    simp [Wp, mkF, reFrz, seq, Pm.ite, rtn, mov, asg, drp, sNx, bnd, Pm.bin, Pm.un, app, aCons, aNil, idx, loc, con, Pm.ret, peek1, peeks, itemOf, on2I, iAdd, iSub, iGt, iGe, iLt, iLe, iDiv, iMod, use1, useL, gI, gN, tst, andT, orT, notT, andE, orE, notE, ifE, ixN, D.frz, D.plain, plainL, argsBack, opLen, opAbs, opInt1, opNeg, disp, cap, callF, takes, puts, selA, sel, aApp, par, gT, gsC, gs0, appF, opDivmod, frzL, plainL, e5, e6, pow12]
    refine k1 _ ?_
    clear k1 k2 k3 k4 K
    refine wp_seq fun K k1 k2 k3 k4 => ?_
    simp [Wp, mkF, reFrz, seq, Pm.ite, rtn, mov, asg, drp, sNx, bnd, Pm.bin, Pm.un, app, aCons, aNil, idx, loc, con, Pm.ret, peek1, peeks, itemOf, on2I, iAdd, iSub, iGt, iGe, iLt, iLe, iDiv, iMod, use1, useL, gI, gN, tst, andT, orT, notT, andE, orE, notE, ifE, ixN, D.frz, D.plain, plainL, argsBack, opLen, opAbs, opInt1, opNeg, disp, cap, callF, takes, puts, selA, sel, aApp, par, gT, gsC, gs0, appF, opDivmod, frzL, plainL]
    refine k1 _ ?_
    clear k1 k2 k3 k4 K
    refine wp_seq fun K k1 k2 k3 k4 => ?_
    have hsrc : srcA (loc 2) [some (.node true .lst z5), some (.node true .lst (l.map sg)), some (.node true .lst (qs.map sg)), some (.int hi), some (.int st), some (.node true .lst []), none, none, none]
        = .ok (qs.map sg) [some (.node true .lst z5), some (.node true .lst (l.map sg)), some (.node false .lst (qs.map sg)), some (.int hi), some (.int st), some (.node true .lst []), none, none, none] := by
      simp [mkF, reFrz, seq, Pm.ite, rtn, mov, asg, drp, sNx, bnd, Pm.bin, Pm.un, app, aCons, aNil, idx, loc, con, Pm.ret, peek1, peeks, itemOf, on2I, iAdd, iSub, iGt, iGe, iLt, iLe, iDiv, iMod, use1, useL, gI, gN, tst, andT, orT, notT, andE, orE, notE, ifE, ixN, D.frz, D.plain, plainL, argsBack, opLen, opAbs, opInt1, opNeg, disp, cap, callF, takes, puts, selA, sel, aApp, par, gT, gsC, gs0, appF, opDivmod, frzL, plainL, srcA, frzL_of_plain _ (sgs_plain qs)]
    refine wp_for hsrc (fun j ρ => ∃ (z' : List D) (t : Tab) (x6 x7 : Option D), ρ = [some (.node true .lst z'), some (.node true .lst (l.map sg)), some (.node false .lst (qs.map sg)), some (.int hi), some (.int st), some (.node true .lst (t.map rowD)), x6, x7, none] ∧ Pen ns (a + 12 + 2 * (j : Int)) (.node true .lst z') ∧ t.map (·.1) = qs.take j ∧ ∀ r ∈ t, -GR ≤ r.2.1 ∧ r.2.1 ≤ GR ∧ -GR ≤ r.2.2 ∧ r.2.2 ≤ GR) ⟨z5, [], none, none, rfl, p5.mono (by omega), rfl, fun r hr => by simp at hr⟩ ?_ ?_
    · rintro j d ρ hd ⟨z', t, x6, x7, rfl, p', ht, hn⟩
      have hjl : j < qs.length := by
        have := (List.getElem?_eq_some_iff.mp hd).1
        simpa using this
      obtain rfl : sg qs[j] = d := by rw [get_sg hjl] at hd; exact Option.some.inj hd
      refine ⟨_, rfl, ?_⟩
      obtain ⟨u, y1, f1, u0, u1, q1⟩ := dr hS (m := 2 * hi + 1) hl p' (by omega) (by omega) (divS (by omega) (by unfold GR at hi1; omega))
      obtain ⟨v, y2, f2, v0, v1, q2⟩ := dr hS (m := 2 * st + 1) hl q1 (by omega) (by omega) (divS (by omega) (by unfold GR at st1; omega))
      have m1 : iMul 2 hi = some (.int (2 * hi)) := mulL (by decide)
      have m2 : iMul 2 st = some (.int (2 * st)) := mulL (by decide)
      have tl : t.length ≤ 6 := by
        have := congrArg List.length ht
        rw [List.length_map, List.length_take] at this
        omega
      have tc : t.length < cap := by show _ < 1000000; omega
      unfold b_lrules_1
      show Wp _ [some (.node true .lst z'), some (.node true .lst (l.map sg)), some (.node false .lst (qs.map sg)), some (.int hi), some (.int st), some (.node true .lst (t.map rowD)), some (sg qs[j]), x7, none] _
      refine wp_seq fun K k1 k2 k3 k4 => ?_
      simp [Wp, mkF, reFrz, seq, Pm.ite, rtn, mov, asg, drp, sNx, bnd, Pm.bin, Pm.un, app, aCons, aNil, idx, loc, con, Pm.ret, peek1, peeks, itemOf, on2I, iAdd, iSub, iGt, iGe, iLt, iLe, iDiv, iMod, use1, useL, gI, gN, tst, andT, orT, notT, andE, orE, notE, ifE, ixN, D.frz, D.plain, plainL, argsBack, opLen, opAbs, opInt1, opNeg, disp, cap, callF, takes, puts, selA, sel, aApp, par, gT, gsC, gs0, appF, opDivmod, frzL, plainL, f1, m1, hAdd_ii, hMulT_ii]
      refine k1 _ ?_
      clear k1 k2 k3 k4 K
      refine wp_end fun K k1 k2 k3 k4 => ?_
      simp [Wp, mkF, reFrz, seq, Pm.ite, rtn, mov, asg, drp, sNx, bnd, Pm.bin, Pm.un, app, aCons, aNil, idx, loc, con, Pm.ret, peek1, peeks, itemOf, on2I, iAdd, iSub, iGt, iGe, iLt, iLe, iDiv, iMod, use1, useL, gI, gN, tst, andT, orT, notT, andE, orE, notE, ifE, ixN, D.frz, D.plain, plainL, argsBack, opLen, opAbs, opInt1, opNeg, disp, cap, callF, takes, puts, selA, sel, aApp, par, gT, gsC, gs0, appF, opDivmod, frzL, plainL, f2, m2, hAdd_ii, hMulT_ii, appd, tc]
      refine k1 _ ⟨y2, t ++ [(qs[j], u - hi, v - st)], some (sg qs[j]), some (.int (u - hi)), by simp [rowD], q2.mono (by omega), ?_, ?_⟩
      · rw [List.map_append, ht, List.take_add_one, List.getElem?_eq_getElem hjl]; rfl
      · intro r hr
        rcases List.mem_append.mp hr with hr | hr
        · exact hn r hr
        · obtain rfl := List.mem_singleton.mp hr
          simp only
          omega
    · rintro ρ ⟨z', t, x6, x7, rfl, p', ht, hn⟩
      rw [List.length_map, List.take_length] at *
      refine k1 _ ?_
      clear k1 k2 k3 k4 K
      have hpl := rows_plain t
      refine wp_end fun K k1 k2 k3 k4 => ?_
      simp [Wp, mkF, reFrz, seq, Pm.ite, rtn, mov, asg, drp, sNx, bnd, Pm.bin, Pm.un, app, aCons, aNil, idx, loc, con, Pm.ret, peek1, peeks, itemOf, on2I, iAdd, iSub, iGt, iGe, iLt, iLe, iDiv, iMod, use1, useL, gI, gN, tst, andT, orT, notT, andE, orE, notE, ifE, ixN, D.frz, D.plain, plainL, argsBack, opLen, opAbs, opInt1, opNeg, disp, cap, callF, takes, puts, selA, sel, aApp, par, gT, gsC, gs0, appF, opDivmod, frzL, plainL, opTuple, hpl]
      refine k2 _ _ ⟨_, rfl, z', t, rfl, rfl, ?_, p'.mono (by omega)⟩
      have hlen := congrArg List.length ht
      rw [List.length_map] at hlen
      refine ⟨by omega, by omega, by rw [ht]; exact hasc, fun r hr => hqin _ (by rw [← ht]; exact List.mem_map_of_mem hr), hn⟩
  obtain ⟨d, as, e, z', t, rfl, rfl, ht, hp'⟩ := hw
  exact ⟨z', t, e, ht, hp'⟩
end Pg
/-! PmZr: count of a list of whole numbers. -/
namespace Pm
open PySem PySem.Spec PyProof.Rows L2
section
variable {K : PySem.W.Frag} {mg : Str → Option Value} {W : WX} {Z Z' H H' : Hp} {S S' : Fp} {σ : Sl} {X : Cx} {e o : Expr} {fa fb : M EV}
def lcnt (j : Nat) (fe : M EV) : M EV := fun ρ0 => match ρ0.getD j none with
  | some (.node _ .lst _) => bnd fe (fun ee => fun ρ => match ρ.getD j none, peek1 ρ ee with
    | some (.node _ .lst xs), some (.int k) => match intsD xs with
      | some ns => .ok (.val (.int ((ns.count k : Nat) : Int))) ρ
      | none => .stuck
    | _, _ => .stuck) ρ0
  | _ => .stuck
theorem tE_lcnt {j : Nat} {Q : VK} (h : tE K mg W (lcnt j fa) σ H Q) : tBM K "list" (rCntI K) (tVar j) (tCons (tE K mg W fa) tNil) σ H Q := by
  obtain ⟨Z, ρ, S, w, er, o⟩ := h
  simp only [lcnt] at o
  split at o
  · rename_i b0 xs0 h0
    obtain ⟨u, U1, U2, hv, u1, u2, uj, ru, eu⟩ := er.take (getD_some h0)
    obtain ⟨p0, ys0, rfl, c0, _⟩ := rep_lst w.same ru
    refine ⟨.ref p0, hv, .inl ⟨rfl, ys0, SqL.of c0⟩, Z, ρ, S, w, er, ?_⟩
    simp only [bnd] at o
    cases e1 : fa ρ with
    | stuck => rw [e1] at o; exact o
    | exc x ρ1 => rw [e1] at o; exact o
    | ok ev ρ1 =>
      simp only [e1] at o
      intro v Z1 H1 S1 Sa st1 dj1 er1 r1
      have t1 := st1.less (S2 := S1) fun a x => .inl x
      have o1 := OutE.after (K := K) (mg := mg) (W := W) (σ := σ) (Q := Q) t1 o
      split at o1
      · rename_i b1 xs k hx hk
        have ev' := int_of hk r1 er1
        subst ev'
        split at o1
        · rename_i ns hn
          obtain ⟨u', V1, V2, hv2, v1, v2, vj, ru2, eu2⟩ := er1.take (getD_some hx)
          obtain ⟨p1, ys1, rfl, c1, rl1⟩ := rep_lst t1.wd.same ru2
          rw [hv] at hv2
          cases hv2
          rw [intsD_inv hn] at rl1
          have e2 := reps_intsV rl1
          subst e2
          exact ⟨p0, ns, k, rfl, rfl, SqL.of c1, o1 (.int ((ns.count k : Nat) : Int)) Z1 H1 S1 Fp0 (Step.refl t1.wd |>.less fun a x => x.elim id False.elim) (fun _ _ x => x) er1 rfl⟩
        · exact o1.elim
      · exact o1.elim
  · exact o.elim
theorem E_lcnt {j : Nat} {x : Str} {p2 apos cpos : Pos} (he : PE X e (tE X.K X.mg W fa)) (hj : X.N[j]? = some x := by rfl) (hv : Vis X.env.scope x := by first | exact Or.inl rfl | exact Or.inr (Or.inl rfl) | exact Or.inr (Or.inr rfl)) (hd : (x == ("__debug__" : Str)) = false := by decide) (hcd : (x == ("__classdict__" : Str)) = false := by decide)
    (hbase : attributeBase (.Name x p2) "count" X.env (eval (.Name x p2) X.env) = eval (.Name x p2) X.env := by rfl)
    (hfew : ((backTo cpos (starEach [e] X.env)).all (fun x => !x.1) && (backToKw cpos (keywordEach [] X.env)).all (fun x => x.1.isSome)
      && decide ([e].length + ([] : List Keyword).length + (if ([] : List Keyword).isEmpty then 0 else 1) < 30)) = true := by rfl)
    (hline : (apos.endLine == cpos.line) = true := by rfl) (hs : starEach [e] X.env = (false, eval e X.env) :: starEach [] X.env := by rfl) (hplain : (backTo cpos (starEach [] X.env)).any (·.1) = false := by rfl) :
    PE X (.Call (.Attribute (.Name x p2) "count" apos) [e] [] cpos) (tE X.K X.mg W (lcnt j fa)) :=
  PE.of (pe_bm PySem.F.plainAttrs_list PySem.F.slot_list_count PySem.F.type_list_count mt_lcount (pe_var hj hv hd hcd) (pa_cons he pa_nil hs) hbase hfew hline hs hplain) fun _ _ _ q => tE_lcnt q
end
end Pm
set_option maxHeartbeats 2000000
/-! PmXe: own exception classes over any built-in class of exceptions: made with one field. -/
namespace Pm
open PySem PySem.HandSPX
open PySem.Builtin PySem.Builtin.ObjectAttr
/-- what is asked of the built-in class: BN gives __new__ -/
structure XF (BN newId initId : String) (bmN bmB : List Value) : Prop where
  new : ExcBaseFacts BN newId initId bmN
  has : bmB.contains (.type BN) = true
  noA : bmB.contains (.type "AttributeError") = false
  noN : bmB.contains (.type "NameError") = false
  obj : bmB.contains (.type "object") = true
  ne : bmB.isEmpty = false
  pass : ∀ self : Value, refuseLoop self "__setattr__" bmB = pure ()
/-- own classes, then the built-in tail -/
def tailR (bmB : List Value) : List Value → Bool
  | .ref _ :: r => tailR bmB r
  | l => l == bmB
section
variable {bmB : List Value}
theorem tailR_cases : ∀ l : List Value, tailR bmB l = true → (∃ c r, l = .ref c :: r ∧ tailR bmB r = true) ∨ l = bmB
  | [], e => .inr (beq_iff_eq.mp e)
  | .ref c :: r, e => .inl ⟨c, r, rfl, e⟩
  | .none :: _, e => .inr (beq_iff_eq.mp e)
  | .ellipsis :: _, e => .inr (beq_iff_eq.mp e)
  | .notImplemented :: _, e => .inr (beq_iff_eq.mp e)
  | .bool _ :: _, e => .inr (beq_iff_eq.mp e)
  | .int _ _ :: _, e => .inr (beq_iff_eq.mp e)
  | .float _ _ :: _, e => .inr (beq_iff_eq.mp e)
  | .str _ _ :: _, e => .inr (beq_iff_eq.mp e)
  | .bytes _ _ :: _, e => .inr (beq_iff_eq.mp e)
  | .type _ :: _, e => .inr (beq_iff_eq.mp e)
  | .builtin _ :: _, e => .inr (beq_iff_eq.mp e)
theorem tailR_all {P : List Value → Prop} (h0 : P bmB) (h1 : ∀ c r, P r → P (.ref c :: r)) : ∀ l : List Value, tailR bmB l = true → P l := by
  intro l
  induction l with
  | nil =>
    intro e
    rcases tailR_cases [] e with ⟨c, r, q, _⟩ | q
    · cases q
    · rw [q]; exact h0
  | cons a r ih =>
    intro e
    rcases tailR_cases (a :: r) e with ⟨c, r', q, h⟩ | q
    · obtain ⟨rfl, rfl⟩ := List.cons.inj q
      exact h1 c r (ih h)
    · rw [q]; exact h0
theorem tailR_has {X : String} {l : List Value} (h : tailR bmB l = true) : l.contains (.type X) = bmB.contains (.type X) :=
  tailR_all (P := fun l => l.contains (.type X) = bmB.contains (.type X)) rfl (fun c r q => by rw [List.contains_cons, q]; rfl) l h
theorem tailR_ne {l : List Value} (h : tailR bmB l = true) (hn : bmB.isEmpty = false) : l.isEmpty = false :=
  tailR_all (P := fun l => l.isEmpty = false) hn (fun c r q => rfl) l h
theorem tailR_pass {l : List Value} (h : tailR bmB l = true) (hp : ∀ self : Value, refuseLoop self "__setattr__" bmB = pure ()) (self : Value) : refuseLoop self "__setattr__" l = pure () :=
  tailR_all (P := fun l => refuseLoop self "__setattr__" l = pure ()) (hp self) (fun c r q => by rw [refuseLoop_ref]; exact q) l h
end
/-! ### such a class called -/
section
variable {prog : Program} {w : World} {A : Around} {E : Value → Shared → Prop} {R : Result → Shared → Prop} {h : Heap} {g : Array GenState} {d : Drawn} {t : Nat} {os : OsState}
variable {nm q : Str} {C N : Addr} {bs bm bmN bmB : List Value} {hdct : Bool} {sn : List Str} {sub : List Value} {ab : Bool} {col : Option Bool} {dd : Option Addr} {k0 k1 k2 k3 k5 : Option Value} {B newId initId : String}
theorem xf_check (F : XF B newId initId bmN bmB) (hT : tailR bmB bm = true) {M : Model} {rest : List Value} {Q : Unit → Shared → Prop}
    (hC : h.get? C = some (excClassObj nm q C N bs bm hdct sn sub ab col dd k0 k1 k2 k3 k5 newId)) (hq : Q () ⟨h, g, d, t, os⟩) : wpAny M A (checkBuiltinCall newId ⟨.ref C :: rest, []⟩) Q E ⟨h, g, d, t, os⟩ := by
  have hcont : (Value.ref C :: bm).contains (.type B) = true := by rw [List.contains_cons, tailR_has hT, F.has, Bool.or_true]
  have hstar := F.new.noStar
  simp only [checkBuiltinCall, F.new.newKind, F.new.newSplit, F.new.newRow]
  repeat (first | refine wpAny_loadPart_at hC ?_ | (refine wpAny_isSubtype_exc hC ?_; rw [hcont]) | refine wpAny_staticBase_exc hC ?_ | refine wpAny_madeBy_exc hC ?_ | simp only [bne_self_eq_false, Bool.false_eq_true, if_false] | wp_step)
  exact hq
theorem xf_new (F : XF B newId initId bmN bmB) (hT : tailR bmB bm = true) {rest : List Value}
    (hC : h.get? C = some (excClassObj nm q C N bs bm hdct sn sub ab col dd k0 k1 k2 k3 k5 newId))
    (hq : R (.ok (.ret (.ref (h.objs.size + 1)))) ⟨(h.push { cls := .type "tuple", data := .seq rest.toArray }).push
      { cls := .ref C, data := .fields #[.ref h.objs.size, .none, .none, .none, .bool false, .none] }, g, d, t, os⟩) (hrest : rest.length ≤ sizeLine) :
    codeAny (model prog w) A (.builtin newId ⟨.ref C :: rest, []⟩) R ⟨h, g, d, t, os⟩ := by
  have hends := F.new.ends
  have hcB : (Value.ref C :: bm).contains (.type B) = true := by rw [List.contains_cons, tailR_has hT, F.has, Bool.or_true]
  have hcA : (Value.ref C :: bm).contains (.type "AttributeError") = false := by rw [List.contains_cons, tailR_has hT, F.noA]; rfl
  have hcN : (Value.ref C :: bm).contains (.type "NameError") = false := by rw [List.contains_cons, tailR_has hT, F.noN]; rfl
  refine codeAny_builtinAt F.new.entry ?_
  unfold Builtin.«BaseException.__new__»
  refine wpAt_bind ?_
  show wpAt _ _ _ (stack >>= _) _ _ _
  refine wpAt_bind (wpAt_stack fun p below => wpAt_of_wpAny ?_)
  wp_walk
  refine wpAt_of_wpAny ?_
  rw [F.new.owner]
  repeat (first | with_reducible refine wpAny_madeHere_exc F.new.canon hC ?_ | with_reducible refine wpAny_loadPart_at hC ?_ | (with_reducible refine wpAny_isSubtype_exc hC ?_; first | rw [hcB] | rw [hcA] | rw [hcN]) | wp_step)
  show R _ _
  rw [Heap.size_push]
  exact hq
theorem xf_type (F : XF B newId initId bmN bmB) (hT : tailR bmB bm = true) {rest : List Value} {fI : Addr} {Q : PySem.Fin → Shared → Prop}
    (hC : h.get? C = some (excClassObj nm q C N bs bm hdct sn sub ab col dd k0 k1 k2 k3 k5 newId))
    (hi : W.Looks (model prog w) h (typeLookup (.ref C) "__init__") (some (.ref fI))) (hb : ∀ self, W.Looks (model prog w) h (bindSpecial (.ref fI) self) (.ref fI, [self])) (hrest : rest.length ≤ sizeLine)
    (hq : codeAny (model prog w) A (.call (.ref fI) ⟨.ref (h.objs.size + 1) :: rest, []⟩)
      (fun r s' => match r with | .ok (.ret v) => v = .none ∧ Q (.done (.ret (.ref (h.objs.size + 1)))) s' | .ok _ => False | .error e => E e s')
      ⟨(h.push (W.kdv_tup rest)).push (excO C h.objs.size), g, d, t, os⟩) :
    wpAny (model prog w) A (Builtin.«type.__call__» ⟨.ref C :: rest, []⟩) Q E ⟨h, g, d, t, os⟩ := by
  repeat (first | with_reducible refine wpAny_loadPart_at hC ?_ | with_reducible refine wpAny_madeBy_exc hC ?_ | wp_step)
  refine codeAny_call_builtin_code (Code.quiet_builtin _ F.new.quiet) (xf_check F hT hC ?_)
  refine xf_new F hT hC ?_ hrest
  show wpAny _ _ _ _ _ _
  have k : ∀ b o, h.get? b = some o → ((h.push (W.kdv_tup rest)).push (excO C h.objs.size)).get? b = some o := fun b o e => Heap.get?_push_of_some _ (Heap.get?_push_of_some _ e)
  have hC₁ := k _ _ hC
  have hget : ((h.push (W.kdv_tup rest)).push (excO C h.objs.size)).get? (h.objs.size + 1) = some (excO C h.objs.size) := by heap_get
  have hcC : (Value.ref C :: bm).contains (.ref C) = true := by simp
  have i1 := hi.keeps k
  have b1 := (hb (.ref (h.objs.size + 1))).keeps k
  unfold isInstance
  repeat (first | with_reducible refine wpAny_loadPart_at hget ?_ | (with_reducible refine wpAny_isSubtype_exc hC₁ ?_; rw [hcC]) | wp_step)
  show wpAny _ _ (typeLookup (.ref C) _) _ _ _
  refine i1.at ?_
  refine wpAny_holding (wpAny_bind (b1.at ?_))
  refine wpAny_bind (wpAny_call (codeAny_mono hq fun r s' z => ?_))
  rcases r with e | (v | _ | _ | _) <;> first | exact z | exact z.elim | skip
  obtain ⟨rfl, z⟩ := z
  first
    | exact wpAny_pure (wpAny_pure z)
    | (wp_walk; exact z)
theorem xf_call (F : XF B newId initId bmN bmB) (hT : tailR bmB bm = true) {rest : List Value} {fI : Addr}
    (hC : h.get? C = some (excClassObj nm q C N bs bm hdct sn sub ab col dd k0 k1 k2 k3 k5 newId))
    (hi : W.Looks (model prog w) h (typeLookup (.ref C) "__init__") (some (.ref fI))) (hb : ∀ self, W.Looks (model prog w) h (bindSpecial (.ref fI) self) (.ref fI, [self])) (hrest : rest.length ≤ sizeLine)
    (hq : codeAny (model prog w) (A.under (.builtin "type.__call__" ⟨.ref C :: rest, []⟩)) (.call (.ref fI) ⟨.ref (h.objs.size + 1) :: rest, []⟩) (W.InitBack (h.objs.size + 1) R)
      ⟨(h.push (W.kdv_tup rest)).push (excO C h.objs.size), g, d, t, os⟩) :
    codeAny (model prog w) A (.call (.ref C) ⟨rest, []⟩) R ⟨h, g, d, t, os⟩ := by
  have f1 := tc_lookup
  have f2 := tc_bind (.ref C)
  have hTy : (⟨h, g, d, t, os⟩ : Shared).TypeIs (.ref C) "type" := ⟨_, hC, rfl⟩
  refine codeAny_of_tree ?_
  show wpAny _ _ (callAny (.ref C) _) _ _ _
  repeat (any_goals (first | assumption | with_reducible refine wpAny_loadPart_at hC ?_ | wp_step))
  refine ⟨rfl, ?_⟩
  refine codeAny_call_builtin_at (Code.quiet_builtin _ (by decide +kernel)) entry_typeCall (wpAny_check_type_call_sub hC (xf_type F hT hC hi hb hrest ?_))
  refine codeAny_mono hq fun r s' z => ?_
  rcases r with e | (v | _ | _ | _) <;> exact z
end
end Pm
set_option maxHeartbeats 2000000
/-! PmXf: the built-in bases; a field stored in a new exception. -/
namespace Pm
open PySem PySem.HandSPX
open PySem.Builtin PySem.Builtin.ObjectAttr
abbrev tlLookup : List Value := [.type "LookupError", .type "Exception", .type "BaseException", .type "object"]
abbrev tlKey : List Value := [.type "KeyError", .type "LookupError", .type "Exception", .type "BaseException", .type "object"]
abbrev tlIndex : List Value := [.type "IndexError", .type "LookupError", .type "Exception", .type "BaseException", .type "object"]
abbrev tlOver : List Value := [.type "OverflowError", .type "ArithmeticError", .type "Exception", .type "BaseException", .type "object"]
abbrev tlValue : List Value := [.type "ValueError", .type "Exception", .type "BaseException", .type "object"]
theorem xf_key : XF "LookupError" "LookupError.__new__" "LookupError.__init__" tlLookup tlKey := ⟨PySem.F.excBase_LookupError, by decide +kernel, by decide +kernel, by decide +kernel, by decide +kernel, rfl, fun self => by kernel_rfl⟩
theorem xf_lookup : XF "LookupError" "LookupError.__new__" "LookupError.__init__" tlLookup tlLookup := ⟨PySem.F.excBase_LookupError, by decide +kernel, by decide +kernel, by decide +kernel, by decide +kernel, rfl, fun self => by kernel_rfl⟩
theorem xf_index : XF "IndexError" "IndexError.__new__" "IndexError.__init__" tlIndex tlIndex := ⟨PySem.F.excBase_IndexError, by decide +kernel, by decide +kernel, by decide +kernel, by decide +kernel, rfl, fun self => by kernel_rfl⟩
theorem xf_over : XF "OverflowError" "OverflowError.__new__" "OverflowError.__init__" tlOver tlOver := ⟨PySem.F.excBase_OverflowError, by decide +kernel, by decide +kernel, by decide +kernel, by decide +kernel, rfl, fun self => by kernel_rfl⟩
theorem xf_value : XF "ValueError" "ValueError.__new__" "ValueError.__init__" tlValue tlValue := ⟨PySem.F.excBase_ValueError, by decide +kernel, by decide +kernel, by decide +kernel, by decide +kernel, rfl, fun self => by kernel_rfl⟩
section
variable {prog : Program} {w : World} {A : Around} {E : Value → Shared → Prop} {R : Result → Shared → Prop} {hp : Heap} {g : Array GenState} {d : Drawn} {t : Nat} {os : OsState}
/-- self.f = v on an exception without a dict -/
theorem xf_store {K : W.Frag} {name : Str} {tk : Tok} {v : Value} {x C : Addr} {fv : Array Value} {cd : ClassData} {bmB : List Value}
    (X : K.In hp) (hx : hp.get? x = some { cls := .ref C, data := .fields fv }) (hcd : W.clsIn K C = some cd) (hm : tailR bmB cd.mro = true) (hn : bmB.isEmpty = false) (hob0 : bmB.contains (.type "object") = true) (hps : ∀ self : Value, refuseLoop self "__setattr__" bmB = pure ()) (hh : cd.hasDict = true) (ha : W.findIn K (.ref C) name = some none)
    (hq : ∀ h' tk' dx, (∀ b o, b ≠ x → hp.get? b = some o → h'.get? b = some o) → hp.objs.size ≤ dx → dx ≠ x → h'.get? x = some { cls := .ref C, dict := some dx, data := .fields fv } →
      h'.Ns1 dx (fun y => if y = name then some v else none) → R (.ok (.ret .none)) ⟨h', g, d, tk', os⟩) :
    codeAny (model prog w) A (.call (.builtin "object.__setattr__") ⟨[.ref x, .str name tk, v], []⟩) R ⟨hp, g, d, t, os⟩ := by
  have I : W.InstAt hp x { cls := .ref C, data := .fields fv } C none := ⟨hx, rfl, rfl, trivial⟩
  have SF := F.store_object
  have ne := tailR_ne hm hn
  have hob : cd.mro.contains (.type "object") = true := (tailR_has hm).trans hob0
  have hxs : x ≠ hp.objs.size := Nat.ne_of_lt (Heap.lt_size hx)
  have sub : W.Looks (model prog w) hp (isInstance (.ref x) (.type "object")) true := I.type.andThen (W.looks_mroIn X (by unfold W.mroIn; rw [hcd, Option.bind_some, if_neg (by rw [ne]; decide), hob]))
  refine codeAny_call_builtin SF.slot.plain SF.entry (@W.check_slot (model prog w) _ _ ⟨hp, g, d, t, os⟩ "object.__setattr__" "object" "__setattr__" (.ref x) [.str name tk, v] [] _ SF.kind SF.split sub (SF.args (.ref x) (.str name tk) v) ?_)
  have hmr : W.Looks (model prog w) hp (mroOf (.ref C)) cd.mro := (W.looks_clsIn X hcd).andThen .now
  have L3 : W.Looks (model prog w) hp (storeTaker? none) none := .now
  have hcls : W.Looks (model prog w) hp (classData C) cd := W.looks_clsIn X hcd
  rw [W.osa_eq, refuse_eq]
  refine wpAny_bind (wpAny_bind (I.type.at (wpAny_bind (hmr.at ?_))))
  rw [tailR_pass hm hps]
  refine wpAny_pure (wpAny_bind (I.type.at (wpAny_bind ((W.looks_findIn X ha).at (wpAny_bind (L3.at ?_))))))
  show wpAny _ _ (storeInOwnDict (.ref x) (.ref C) (.str name tk) name v false) _ _ _
  obtain ⟨nm, bs, mro, ns, qn, hd, sn, sb, ab, col, del⟩ := cd
  dsimp only at hh
  subst hh
  unfold storeInOwnDict ownDictForStores
  repeat (first | with_reducible refine store_in_new ?_ ?_ | with_reducible refine wpAny_loadPart_at hx ?_ | with_reducible refine hcls.at ?_ | wp_step)
  · exact ⟨_, #[], _, (Heap.get?_update_ne _ _ _ _ hxs.symm).trans (Heap.get?_push_at rfl rfl), rfl, fun e he => absurd he (by simp), fun _ => rfl⟩
  · intro h' tk' hn' hs
    have hx₁ : (hp.push { cls := .type "dict", data := .dict #[] }).get? x = some { cls := .ref C, data := .fields fv } := Heap.get?_push_of_some _ hx
    refine hq h' tk' hp.objs.size (fun b o hb ho => ?_) (Nat.le_refl _) hxs.symm ?_ hn'
    · exact (hs.2 b (Nat.ne_of_lt (Heap.lt_size ho))).trans ((Heap.get?_update_ne _ _ _ _ hb).trans (Heap.get?_push_of_some _ ho))
    · exact (hs.2 x hxs).trans (Heap.get?_update_self _ hx₁ rfl)
end
end Pm
set_option maxHeartbeats 2000000
/-! PmXg: C(e) for an own exception class whose __init__ stores its one parameter. -/
namespace Pm
open PySem PySem.Spec PyProof.Rows L2
/-- what is known of the class at C: its __init__ at fI, its field f -/
structure XC (K : PySem.W.Frag) (C fI : Addr) (f : Str) : Prop where
  cls : ∃ nm q N bs bm sn sub ab col dd k0 k1 k2 k3 k5 BN newId initId bmN bmB, XF BN newId initId bmN bmB ∧ K.lookup C = some (excClassObj nm q C N bs bm true sn sub ab col dd k0 k1 k2 k3 k5 newId) ∧ tailR bmB bm = true
  sa : PySem.W.findIn K (.ref C) "__setattr__" = some (some (.builtin "object.__setattr__"))
  exC : PySem.W.subIn K (.ref C) (.type "BaseException") = some true
  tyC : PySem.W.typeIn K (.ref C) = some (.type "type")
  kC : PySem.W.keepIn K (.ref C) = true
  no : PySem.W.findIn K (.ref C) f = some none
  iC : PySem.W.findIn K (.ref C) "__init__" = some (some (.ref fI))
  tI : PySem.W.typeIn K (.ref fI) = some (.type "function")
section
variable {X : Cx} {pins : List (Addr × Obj)} {σ : L2.St} {H : Hp} {s : Shared} {a C fI dx : Addr} {f : Str} {y : V} {u : Value} {Q : Unit → Shared → Prop} {E : Value → Shared → Prop} {A : Around}
/-- self.f = y -/
theorem xc_store (T : XC X.K C fI f) (I : Inv X pins σ H s) (e : H a = some (exo a C none)) (ry : RelV y u)
    (h : ∀ dx s', H dx = none → dx ≠ a → Inv X pins σ (upd (upd H dx (exd dx [(f, y)])) a (exo a C (some dx))) s' → Q () s') : wpAny (model X.prog X.w) A (setAttr (.ref a) f u) Q E s := by
  obtain ⟨nm, q, N, bs, bm, sn, sub, ab, col, dd, k0, k1, k2, k3, k5, BN, newId, initId, bmN, bmB, F, hC, hbm⟩ := T.cls
  have hcl : PySem.W.clsIn X.K C = some { name := nm, bases := bs, mro := .ref C :: bm, ns := N, qualname := q, hasDict := true, slotNames := sn, subclasses := sub, abstract := ab, collection := col, hasDel := false } := by unfold PySem.W.clsIn; rw [hC] <;> rfl
  obtain ⟨t1, ho⟩ := exo_at I.hok e
  obtain ⟨hp, g, d, t, os⟩ := s
  refine PySem.W.set_plain I.kIn (ox := { cls := .ref C, dict := none, data := .fields #[.ref t1, .none, .none, .none, .bool false, .none] }) (od := none) ⟨ho, rfl, rfl, trivial⟩ T.sa ?_
  refine xf_store I.kIn ho hcl (show tailR bmB (.ref C :: bm) = true from hbm) F.ne F.obj F.pass rfl T.no (fun h' tk' dx k dn dne hx hn => ?_)
  have hnd : H dx = none := I.hok.fresh dn
  have nd : ∀ {b : Addr} {o : Obj}, hp.get? b = some o → b ≠ dx := fun {b o} q => Nat.ne_of_lt (Nat.lt_of_lt_of_le (Heap.lt_size q) dn)
  have na : ∀ {b : Addr}, H b = none → b ≠ a := fun {b} n z => by
    rw [z, e] at n
    cases n
  have Un1 : Un X.fs [] H (upd (upd H dx (exd dx [(f, y)])) a (exo a C (some dx))) hp h' := {
    keep := fun b o q n _ _ => k b o (na n) q
    slot := fun b o q n _ _ => ⟨o.slots, k b o (na n) q⟩
    free := fun b o q n _ => by rw [upd_ne (na n), upd_ne (nd q)]; exact n
    there := fun b o q _ => by
      by_cases hb : b = a
      · exact ⟨_, by rw [hb]; exact hx⟩
      · exact ⟨o, k b o hb q⟩
    tups := fun b xs q => by rw [upd_ne (at_ne e q exo_tup), upd_ne (ne_of_none q hnd)]; exact q
    frzs := fun b o v q => by rw [upd_ne (at_ne e q exo_frz), upd_ne (ne_of_none q hnd)]; exact q
    tbls := fun b ps q => ⟨#[], by rw [upd_ne (at_ne e q exo_tbl), upd_ne (ne_of_none q hnd), q]; simp⟩ }
  refine h dx _ hnd dne (I.un (t' := tk') Un1 fun b o q => ?_)
  by_cases hb : b = a
  · subst hb
    rw [upd_same] at q
    cases q
    exact exo_ok hx
  · rw [upd_ne hb] at q
    by_cases hd : b = dx
    · subst hd
      rw [upd_same] at q
      cases q
      exact exd_ok hn (relO_put (fs := []) ry fun g => True.intro)
    · rw [upd_ne hd] at q
      exact (I.hok b o q).stay (fun c v hc z => k c v (by
          rcases hc with hc | hc
          · rw [hc]
            exact hb
          · exact at_ne e hc exo_own) z)
        (fun c hc => by rw [upd_ne (at_ne e hc exo_own), upd_ne (ne_of_none hc hnd)]; exact hc) (fun c xs hc => by rw [upd_ne (at_ne e hc exo_tup), upd_ne (ne_of_none hc hnd)]; exact hc)
end
def tSt1 (K : PySem.W.Frag) (f : Str) (to te : TE) : TS := fun D σ H => te σ H fun y H1 => to σ H1 fun x H2 => ∃ a C fI : Addr, x = .ref a ∧ XC K C fI f ∧ H2 a = some (exo a C none) ∧ ∀ dx, H2 dx = none → dx ≠ a → D.nx σ (upd (upd H2 dx (exd dx [(f, y)])) a (exo a C (some dx)))
section
variable {X : Cx} {o e : Expr} {to te : TE} {f : Str} {p' pos : Pos}
theorem ps_st1 (ho : PE X o to) (he : PE X e te) (hs : swapsWith e (some (.Attribute o f p')) pos.line X.env = pure false := by rfl) : PS X (.Assign [.Attribute o f p'] e pos) (tSt1 X.K f to te) := by
  refine ⟨fun pins s σ H D I h => ?_⟩
  refine plainObj_wpAny_Assign_Attribute (thn (he.run pins s σ H _ I h) fun v s1 ⟨y, H1, I1, r1, q1⟩ => thn (ho.run pins s1 σ H1 _ I1 q1) fun u s2 ⟨x, H2, I2, r2, a, C, fI, ex, T, ea, q⟩ => ?_) hs
  subst ex
  obtain rfl : u = Value.ref a := r2
  exact xc_store T I2 ea r1 fun dx s' n ne J => ⟨σ, _, J, q dx n ne⟩
end
/-- what such an __init__ keeps -/
def spI (K : PySem.W.Frag) (f : Str) : Sp := fun vs H Q _ => ∃ (a C fI : Addr) (y : V), vs = [.ref a, y] ∧ XC K C fI f ∧ H a = some (exo a C none) ∧ ∀ dx, H dx = none → dx ≠ a → Q .non (upd (upd H dx (exd dx [(f, y)])) a (exo a C (some dx)))
end Pm
set_option maxHeartbeats 2000000
/-! PmXh: raise C(e). -/
namespace Pm
open PySem PySem.Spec PyProof.Rows L2
/-- such an __init__ by its text -/
theorem init_ok {P : Program} {w : World} {K : PySem.W.Frag} {mg : Str → Option Value} {base : Heap} {qual p f : Str} {st : Stmt} {fI : Addr} {fd : FuncData} (F : Fun K "__init__" qual st fI fd) (S : FnScope ["self", p] ["self", p] (defScope st)) {p1 p2 p3 p4 : Pos}
    (hb : defBody st = [.Assign [.Attribute (.Name "self" p1) f p2] (.Name p p3) p4])
    (hv0 : ∀ cdv L, Vis (envOfC qual (defScope st) L fI cdv).scope "self") (hv1 : ∀ cdv L, Vis (envOfC qual (defScope st) L fI cdv).scope p)
    (hd : (p == ("__debug__" : Str)) = false := by decide) (hcd : (p == ("__classdict__" : Str)) = false := by decide) : FnOk P w K mg base CX0 1 fI fd ["self", p] (spI K f) := by
  refine F.ok (k := 0) S (fun vs H Q E h => ?_) fun cdv A outer s H vs Q E hr hsp => ?_
  · obtain ⟨a, C, fI, y, rfl, _⟩ := h
    rfl
  · obtain ⟨a, C, fI', y, rfl, T, ea, q⟩ := hsp
    refine ⟨tSt1 K f (tVar 0) (tVar 1), ?_, ?_⟩
    · rw [hb]
      exact pss_one (ps_st1 (pe_var (i := 0) rfl (hv0 _ _) (by decide) (by decide)) (pe_var (i := 1) rfl (hv1 _ _) hd hcd))
    · refine ⟨y, rfl, .ref a, rfl, a, C, fI', rfl, T, ea, fun dx n ne => q dx n ne⟩
def tMk1 (C : Addr) (f : Str) (ta : TA) : L2.St → Hp → XK → Prop := fun σ H Q => ta σ H fun vs H1 => ∃ y, vs = [y] ∧ ∀ d, H1 d = none → Q (.ref C) (some d) (upd H1 d (.xd [(f, y)]))
section
variable {X : Cx} {e : Expr} {ta : TA} {p pos : Pos}
theorem pmk_x1 {x f pn : Str} {C fI : Addr} {k : Nat} {fd : FuncData} (T : XC X.K C fI f) (F1 : FnOk X.prog X.w X.K X.mg X.base CX0 k fI fd ["self", pn] (spI X.K f)) (hr : Room (k + 1) X.A) (hb : Binds X.K fd ["self", pn] []) (hg : Gl X x) (hm : X.mg x = some (.ref C)) (ha : PA X [e] ta)
    (hdb : (x == ("__debug__" : Str)) = false := by decide) (he : starEach [e] X.env = (false, eval e X.env) :: starEach [] X.env := by rfl) (hpl : (backTo pos (starEach [] X.env)).any (·.1) = false := by rfl) :
    PMk X (.Call (.Name x p) [e] [] pos) (tMk1 C f ta) := by
  intro pins s σ H Q I h
  obtain ⟨nm, q, N, bs, bm, sn, sub, ab, col, dd, k0, k1, k2, k3, k5, BN, newId, initId, bmN, bmB, XF, hC, hbm⟩ := T.cls
  refine wpAny_Call_Name_kw (ld_glob I hg hm ?_ hdb)
  refine PySem.W.callWith_K (h₀ := X.base) I.ok.mod.kin T.kC (thn (ha.run pos pins s σ H _ I h) fun us s1 ⟨vs, H1, I1, r1, y, ev, q1⟩ => ⟨I1.kIn, ?_⟩) he hpl
  subst ev
  show wpAny _ _ (call (.ref C) us) _ _ _
  obtain ⟨hp, g, dr, tk, os⟩ := s1
  have hsz : hp.objs.size ≤ hp.objs.size + 1 := Nat.le_succ _
  have hn : H1 (hp.objs.size + 1) = none := I1.hok.fresh hsz
  have hq : spI X.K f [.ref (hp.objs.size + 1), y] (upd H1 (hp.objs.size + 1) (exo (hp.objs.size + 1) C none))
      (fun v H2 => v = .non ∧ ∃ (d : Addr) (fs : List (Str × V)), H2 (hp.objs.size + 1) = some (exo (hp.objs.size + 1) C (some d)) ∧ H2 d = some (exd d fs) ∧ H1 d = none ∧ Q (.ref C) (some d) (upd (del H2 (hp.objs.size + 1)) d (.xd fs))) (fun _ _ _ => False) := by
    refine ⟨_, C, fI, y, rfl, T, upd_same, fun dx nx ne => ⟨rfl, dx, [(f, y)], upd_same, by rw [upd_ne ne, upd_same], ?_, ?_⟩⟩
    · rw [upd_ne ne] at nx
      exact nx
    · have n1 : H1 dx = none := by
        rw [upd_ne ne] at nx
        exact nx
      have e : upd (del (upd (upd (upd H1 (hp.objs.size + 1) (exo (hp.objs.size + 1) C none)) dx (exd dx [(f, y)])) (hp.objs.size + 1) (exo (hp.objs.size + 1) C (some dx))) (hp.objs.size + 1)) dx (.xd [(f, y)]) = upd H1 dx (.xd [(f, y)]) := by
        funext b
        by_cases hb : b = dx
        · rw [hb, upd_same, upd_same]
        · rw [upd_ne hb, upd_ne hb]
          by_cases ha : b = hp.objs.size + 1
          · rw [ha, del_same, hn]
          · rw [del_ne ha, upd_ne ha, upd_ne hb, upd_ne ha]
      rw [e]
      exact q1 dx n1
  have kk : ∀ b o, hp.get? b = some o → ((hp.push (PySem.W.kdv_tup us)).push (PySem.HandSPX.excO C hp.objs.size)).get? b = some o := fun b o e => Heap.get?_push_of_some _ (Heap.get?_push_of_some _ e)
  have hget : ((hp.push (PySem.W.kdv_tup us)).push (PySem.HandSPX.excO C hp.objs.size)).get? (hp.objs.size + 1) = some (PySem.HandSPX.excO C hp.objs.size) := by heap_get
  have I2 : Inv X pins σ (upd H1 (hp.objs.size + 1) (exo (hp.objs.size + 1) C none)) ⟨(hp.push (PySem.W.kdv_tup us)).push (PySem.HandSPX.excO C hp.objs.size), g, dr, tk, os⟩ :=
    I1.laid (t' := tk) (a := hp.objs.size + 1) (o := exo (hp.objs.size + 1) C none) (h' := (hp.push (PySem.W.kdv_tup us)).push (PySem.HandSPX.excO C hp.objs.size)) kk hsz (exo_ok hget)
  have r2 : Vals [V.ref (hp.objs.size + 1), y] (Value.ref (hp.objs.size + 1) :: us) := .cons rfl r1
  have hl : (Value.ref (hp.objs.size + 1) :: us ++ []).length = (["self", pn] : List Str).length := by
    have := r2.length
    rw [List.append_nil]
    exact this.symm
  have hus : us.length ≤ sizeLine := by
    have := r1.length
    rw [← this, sizeLine_eq]
    show 1 ≤ _
    decide
  have hbd := hb _ (Value.ref (hp.objs.size + 1) :: us) I2.kIn hl
  rw [List.append_nil] at hbd
  refine wpAny_call (xf_call XF hbm (I1.kIn _ _ hC) (PySem.W.looks_findIn I1.kIn T.iC) (fun self => PySem.W.bind_fn I1.kIn self T.tI) hus
    (codeAny_mono (F1.run _ X.stack _ _ ⟨Value.ref (hp.objs.size + 1) :: us, []⟩ (Value.ref (hp.objs.size + 1) :: us) _ _ (fun _ _ _ => False) (hr.make C us []) (I2.env0.make C us []) hbd r2 hq) fun r s' hq' => ?_))
  cases r with
  | error er => exact hq'.elim
  | ok fl =>
    cases fl with
    | ret u =>
      obtain ⟨v, H2, os2, bare2, un2, hok2, rv, ev, d, fs, ea, ed, hd1, q2⟩ := hq'
      subst ev
      obtain ⟨h2, g2, d2, t2, os'⟩ := s'
      exact ⟨rv, mk_end (raises_own T.exC T.tyC) I1 hsz kk un2 hok2 os2 bare2 ea ed hd1 q2⟩
    | next => exact False.elim hq'
    | brk => exact False.elim hq'
    | cont => exact False.elim hq'
end
/-! ### the reading -/
def raise1 (n f : Str) (fe : M EV) : M Fl := bnd fe fun e => fun ρ => match peek1 ρ e with
  | some d => if d.plain = true then .exc ⟨n, [(f, d)]⟩ ρ else .stuck
  | none => .stuck
section
variable {K : PySem.W.Frag} {mg : Str → Option Value} {W : WX} {Z H : Hp} {S : Fp} {σ : Sl} {X : Cx}
theorem peek_plain {ρ : Env} {ev : EV} {v : V} {d : D} {Sd : Fp} {H' : Hp} (er : EnvR K Z H ρ σ S) (r : EVR K Z H σ ev v Sd) (hp : peek1 ρ ev = some d) (hd : d.plain = true) : Rep K Z H' d v Fp0 := by
  cases ev with
  | val d' =>
    cases hp
    exact Rep.plain r hd
  | ref i =>
    obtain ⟨v', S1, S2, e1, _, _, _, r1, _⟩ := er.take (getD_some (show ρ.getD i none = some d from hp))
    have e2 : σ[i]? = some (some v) := r
    rw [e1] at e2
    cases e2
    exact Rep.plain r1 hd
theorem same_new {Z : Hp} {d : Addr} {o : HO} (h : Z d = none) : Same Z (upd Z d o) := fun a u e => by
  have : a ≠ d := fun q => by rw [q, h] at e; cases e
  rw [upd_ne this]
  exact e
theorem S_raise1 {A : Nat → Bool} {e : Expr} {fe : M EV} {n f pn : Str} {C fI : Addr} {k : Nat} {fd : FuncData} {p pos pos2 : Pos} (hc : X.calm = true) (tk : Takes X W) (T : XC X.K C fI f) (F1 : FnOk X.prog X.w X.K X.mg X.base CX0 k fI fd ["self", pn] (spI X.K f)) (hr : Room (k + 1) X.A) (hb : Binds X.K fd ["self", pn] []) (hm : X.mg n = some (.ref C)) (hg' : reg X.K n = some C) (ha : PA X [e] (tA X.K X.mg W (aCons fe aNil))) (hg : Gl X n := by rfl)
    (hdb : (n == ("__debug__" : Str)) = false := by decide) (he : starEach [e] X.env = (false, eval e X.env) :: starEach [] X.env := by rfl) (hpl : (backTo pos (starEach [] X.env)).any (·.1) = false := by rfl) :
    PS X (.Raise (some (.Call (.Name n p) [e] [] pos)) none pos2) (tS X.K X.mg W A (raise1 n f fe)) :=
  PS.of (ps_raise (W := W) hc tk (pmk_x1 T F1 hr hb hg hm ha hdb he hpl)) fun D σ H h => by
    obtain ⟨Z, ρ, S, w, er, o⟩ := h
    refine ⟨Z, ρ, S, w, er, ?_⟩
    simp only [raise1, bnd, aCons, aNil, ret] at o ⊢
    cases e1 : fe ρ with
    | stuck => rw [e1] at o; exact o.elim
    | exc x ρ1 => rw [e1] at o; exact o σ (Keep.refl σ)
    | ok ev ρ1 =>
      simp only [e1] at o ⊢
      intro vs Z' H' S' Sd st dj er' evr
      cases hp : peek1 ρ1 ev with
      | none => simp only [hp] at o; exact o.elim
      | some d =>
        simp only [hp] at o
        by_cases hd : d.plain = true
        · rw [if_pos hd] at o
          obtain ⟨y, rfl, ry⟩ : ∃ y, vs = [y] ∧ ∃ Sy, EVR X.K Z' H' σ ev y Sy := by
            match vs, evr with
            | [y], ⟨S1, S2, _, _, _, r, _⟩ => exact ⟨y, rfl, S1, r⟩
          obtain ⟨Sy, ry⟩ := ry
          refine ⟨y, rfl, fun dx ndx => ?_⟩
          have wd' : Wd Z' H' S' := st.wd.less fun a q => .inl q
          have zdx : Z' dx = none := wd'.zfree ndx
          have st1 : Step Z H S Z' H' S' := st.less fun a q => .inl q
          have sm : Same Z' (upd Z' dx (.xd [(f, y)])) := same_new zdx
          refine o σ (Keep.refl σ) (.ref C) (some dx) (upd Z' dx (.xd [(f, y)])) (upd H' dx (.xd [(f, y)])) S' (st1.trans (Step.allocZ wd' ndx)) (er'.move sm (fun a u sa e => ?_) fun a q => q) ⟨C, hm, hg', rfl, .inr ⟨dx, [y], rfl, upd_same, Fp0, Fp0, fun _ q => q, fun _ q => q, fun _ q _ => q, ?_, trivial⟩⟩
          · have : a ≠ dx := fun q => by rw [q, ndx] at e; cases e
            rw [upd_ne this]
            exact e
          · exact (peek_plain (H' := upd Z' dx (.xd [(f, y)])) er' ry hp hd).move sm (fun _ _ q => q.elim) fun _ q => q
        · rw [if_neg hd] at o
          exact o.elim
end
end Pm
set_option maxHeartbeats 2000000
/-! PmXi: try .. except C as n: the exception kept as data. -/
namespace Pm
open PySem PySem.Spec PyProof.Rows L2
section
variable {X : Cx} {pins : List (Addr × Obj)} {σ : L2.St} {H : Hp} {s : Shared}
theorem inv_suite (I : Inv X pins σ H s) (a : Addr) : Inv (X.suite a (X.pn ++ pins)) [] σ H s :=
  ⟨I.ok.suite _ _, I.os, I.bare, I.base, I.loc, I.cell, I.free, I.freeC, fun p hp => I.pin p (by rw [List.append_nil] at hp; exact hp), I.hok, I.len⟩
theorem inv_unsuite {a : Addr} {pn' : List (Addr × Obj)} (I : Inv (X.suite a (X.pn ++ pins)) pn' σ H s) (ok : X.Ok) : Inv X pins σ H s :=
  ⟨ok, I.os, I.bare, I.base, I.loc, I.cell, I.free, I.freeC, fun p hp => I.pin p (List.mem_append_left _ hp), I.hok, I.len⟩
/-- what an exception's object is, told of its own address alone -/
theorem xo_ok {P : Program} {w : World} {H : Hp} {h : Heap} {a C : Addr} {dd : Option Addr} {oe : Obj} {vs : Array Value} (he : h.get? a = some oe) (hz : Zc (.ref C) dd oe) (hd : oe.data = .fields vs) : ObjOk P w H h a (.ext (XoP a C dd)) :=
  ⟨⟨oe, vs, he, hz.1, hz.2, hd⟩, ⟨_, he⟩, fun h1 h2 ⟨o, v, e, z1, z2, z3⟩ k => ⟨o, v, k _ e, z1, z2, z3⟩⟩
/-- a landed exception is tracked -/
theorem inv_kept {sI s' : Shared} {B : Heap} {a C : Addr} {dd : Option Addr} {h4 : Heap} {oe : Obj} {vs : Array Value} (J : Inv X pins σ H sI) (nb : ∀ b o, sI.heap.get? b = some o → b ∉ frs X.stack → B.get? b = some o) (hB : B.get? a = none)
    (st : B.StaysIn h4) (up : sI.heap.UpToSlots h4) (os : s'.os = sI.os) (ag : AllBare s'.gens) (na : H a = none) (he : h4.get? a = some oe) (hz : Zc (.ref C) dd oe) (hd : oe.data = .fields vs) :
    Inv X pins σ (upd H a (.ext (XoP a C dd))) { s' with heap := h4 } := by
  obtain ⟨G, g1, g2⟩ := restrict h4 fun b => decide (b ≠ a)
  have gk : ∀ b, b ≠ a → G.get? b = h4.get? b := fun b hb => g1 b (decide_eq_true hb)
  have ga : G.get? a = none := g2 a (by simp)
  have gs : ∀ b o, G.get? b = some o → h4.get? b = some o := fun b o e => by
    by_cases hb : b = a
    · rw [hb, ga] at e; cases e
    · rw [← gk b hb]; exact e
  have JG : Inv X pins σ H { s' with heap := G } := J.landed nb (fun b o e => by
      have hb : b ≠ a := fun q => by rw [q, hB] at e; cases e
      show G.get? b = some o
      rw [gk b hb]
      exact st b o e) (fun b o e hn => by
      obtain ⟨sl, q⟩ := up b o e hn
      have hb : b ≠ a := fun z => by
        rw [z, he] at q
        have := Option.some.inj q
        subst this
        exact hn _ hd
      exact ⟨sl, by
        show G.get? b = _
        rw [gk b hb]
        exact q⟩) os ag
  have := JG.laidN (a := a) (o := .ext (XoP a C dd)) (h' := h4) (t' := s'.toks) (fun b o e => gs b o e) ga na (xo_ok he hz hd)
  exact this
end
/-- what the clause wishes of an exception of the body -/
def wKp (tst : Value → Option Bool) (i : Nat) (ts : TS) (Wout : WX) (D : Ends) : WX := fun cls d σ H =>
  ∃ b, tst cls = some b ∧ (b = true → ∃ C, cls = .ref C ∧ ∀ a, H a = none → ts { nx := fun σ' H' => D.nx (σ'.set i none) H', rt := D.rt, bk := fun σ' H' => D.bk (σ'.set i none) H', ct := fun σ' H' => D.ct (σ'.set i none) H' } (σ.set i (some (.ref a))) (upd H a (.ext (XoP a C d)))) ∧
    (b = false → Wout cls d σ H)
/-- the clause's test, evaluated when an exception stands at a -/
def ClauseT (X : Cx) (ht : Expr) (tst : Value → Option Bool) : Prop := ∀ (a : Addr) (pn : List (Addr × Obj)) (σ : L2.St) (H : Hp) (s : Shared) (cls : Value) (b : Bool) (Q : Bool → Shared → Prop) (E E' : Value → Shared → Prop),
  Inv (X.suite a pn) [] σ H s → (∃ oe, s.heap.get? a = some oe ∧ oe.cls = cls) → tst cls = some b → (∀ s', (∀ b o, s.heap.get? b = some o → s'.heap.get? b = some o) → s'.gens = s.gens → s'.os = s.os → Q b s') →
  wpAny (model X.prog X.w) (X.A.mark (some (.ref a))) (eval ht X.env) (fun t s' => wpAny (model X.prog X.w) (X.A.mark (some (.ref a))) (excMatches (.ref a) t) Q E s') E' s
theorem flying_keeps {base h h' : Heap} {l : List PySem.Env} {e : Addr} {Z : Obj → Prop} (x : HandSPX.FlyingZ base l e Z h) (k : ∀ b o, h.get? b = some o → h'.get? b = some o) : HandSPX.FlyingZ base l e Z h' := by
  obtain ⟨h1, h2, h3, oe, vs, T, oT, ts, he, hz, hd, e1, e2, e3, e4, e5, e6⟩ := x
  exact ⟨fun b o e => k b o (h1 b o e), h2, h3.of_keeps fun b o e _ => ⟨o, k b o e, rfl⟩, oe, vs, T, oT, ts, k _ _ he, hz, hd, e1, e2, e3, k _ _ e4, e5, e6⟩
section
variable {X : Cx} {n : Str} {i : Nat} {body suite : List Stmt} {b₀ : Stmt} {pos pos' : Pos} {ht : Expr} {tst : Value → Option Bool} {tb : WX → TS} {ts : TS} {Wout : WX}
theorem ps_try_kept (hs : X.stack = X.env :: X.outer) (hf : X.env.frame = some X.env.locals) (hN : X.N.Nodup) (hi : X.N[i]? = some n) (hln : X.env.kindOf n = some .local) (hc : ClauseT X ht tst) (tk : Takes X Wout)
    (hb : ∀ (W : WX) (pn : List (Addr × Obj)) (xe : Value → Shared → Prop), Takes (X.tr pn xe) W → PassesOwn (model X.prog X.w) X.A X.env xe → PSs (X.tr pn xe) body (tb W))
    (hsu : ∀ (a : Addr) (pn : List (Addr × Obj)), PSs (X.suite a pn) (b₀ :: suite) ts) :
    PS X (.Try body [.ExceptHandler (some ht) (some n) (b₀ :: suite) pos'] [] [] pos) (fun D σ H => tb (wKp tst i ts Wout D) D σ H) := by
  refine ⟨fun pins s σ H D I h => ?_⟩
  have ok := I.ok
  have hfr : X.A.frames = some (X.env :: X.outer) := by rw [ok.frames, hs]
  have hloc : Loc X.env.scope n := .inl hln
  refine wpAny_Try_except ?_
  refine wpAny_mono ((hb (wKp tst i ts Wout D) (X.pn ++ pins) (fun e s₁ => wpAny (model X.prog X.w) X.A (noteFrame e X.env) (fun _ s₂ => wpAny (model X.prog X.w) X.A (setFlight e none) (fun _ s₃ =>
    wpAny (model X.prog X.w) X.A (handleBy e X.env [.ExceptHandler (some ht) (some n) (b₀ :: suite) pos']) (SP X pins D) X.xe s₃) X.xe s₂) X.xe s₁) (fun u s' xx => ?_) PassesOwn.looking).run [] s σ H D (I.toTry _) h) (fun f s1 hsp => ?_) (fun e s1 he => he)
  · obtain ⟨a, B, sI, pins', σ', H', cls, d, rfl, J', nb, up, sky, na, os, ag, b, hb1, hyes, hno⟩ := xx
    have J : Inv X pins σ' H' sI := J'.ofTry ok
    have sky' : Sky B (X.env :: X.outer) a (Zc cls d) X.env.locals s'.heap := by rw [← hs]; exact sky
    show wpAny (model X.prog X.w) X.A (noteFrame (.ref a) X.env) _ _ _
    refine Sky.land Zc.steady hfr hf sky' fun h3 fl3 up3 => ?_
    have J3 : Inv X pins σ' H' { s' with heap := h3 } := J.landed nb fl3.1 (up.trans up3) os ag
    obtain ⟨oe3, vs3, he3, hz3, hd3⟩ := fl3.there
    have S3 := inv_suite J3 a
    refine wpAny_handleBy_cons (codeAny_handlers_test ?_) (by intro q; cases q)
    refine hc a _ _ _ _ cls b _ _ _ S3 ⟨oe3, he3, hz3.1⟩ hb1 fun s5 k5 g5 o5 => ?_
    have fl5 : HandSPX.FlyingZ B (X.env :: X.outer) a (Zc cls d) s5.heap := flying_keeps fl3 k5
    have up5 : sI.heap.UpToSlots s5.heap := (up.trans up3).trans (Heap.UpToSlots.of_keeps k5)
    have os5 : s5.os = sI.os := o5.trans os
    have ag5 : AllBare s5.gens := by rw [g5]; exact ag
    cases b with
    | true =>
      obtain ⟨C, ec, hyes2⟩ := hyes rfl
      subst ec
      refine codeAny_handlers_suite_as ?_
      refine HandSPX.lands_againZ fl5 fun h4 fl4 up4 => ?_
      obtain ⟨oe4, vs4, he4, hz4, hd4⟩ := fl4.there
      have J4 : Inv X pins σ' (upd H' a (.ext (XoP a C d))) { s5 with heap := h4 } := inv_kept J nb fl4.2.1 fl4.1 (up5.trans up4) os5 ag5 na he4 hz4 hd4
      have S4 := inv_suite J4 a
      refine store_ok (X := X.suite a (X.pn ++ pins)) (v := .ref a) S4 hN hi hloc rfl (fun s6 S6 => ?_) (.inr hln)
      refine wpAny_mono ((hsu a (X.pn ++ pins)).run [] s6 _ _ _ S6 (hyes2 a na)) (fun f s6 hsp => ?_) (fun _ _ z => False.elim z)
      have end_ : ∀ {σ6 : L2.St} {H6 : Hp} {Q : Shared → Prop}, Inv (X.suite a (X.pn ++ pins)) [] σ6 H6 s6 → (∀ s7, Inv X pins (σ6.set i none) H6 s7 → Q s7) →
          wpAny (model X.prog X.w) X.A (do bindName X.env n .none; unbindBehindTheSuite X.env n pos') (fun _ s7 => Q s7) X.xe s6 := fun {σ6 H6 Q} S6 hq => gone_ok (inv_unsuite S6 ok) hN hi hln hq
      cases f with
      | next =>
        obtain ⟨σ6, H6, S6, q6⟩ := hsp
        exact end_ S6 fun s7 J7 => ⟨_, _, J7, q6⟩
      | brk =>
        obtain ⟨σ6, H6, S6, q6⟩ := hsp
        exact end_ S6 fun s7 J7 => ⟨_, _, J7, q6⟩
      | cont =>
        obtain ⟨σ6, H6, S6, q6⟩ := hsp
        exact end_ S6 fun s7 J7 => ⟨_, _, J7, q6⟩
      | ret u =>
        obtain ⟨v6, σ6, H6, S6, r6, q6⟩ := hsp
        exact end_ S6 fun s7 J7 => ⟨_, _, _, J7, r6, q6⟩
    | false =>
      show wpAny _ X.A (handleBy (.ref a) X.env []) _ _ _
      refine wpAny_handleBy_nil ?_
      obtain ⟨k1, k2, k3, oe, vs, T, oT, ts', he, hz, hd, h1, hr⟩ := id fl5
      unfold PySem.passOn
      refine wpAny_bind (wpAny_field he hd h1 ?_)
      rw [if_neg (show ¬ ((Value.ref T == Value.none) = true) from by simp)]
      have fin : wpAny (model X.prog X.w) X.A (setFlight (.ref a) X.env.frame) (fun _ s4 => wpAny (model X.prog X.w) X.A (throw (.ref a) : Sem Flow) (SP X pins D) X.xe s4) X.xe s5 := by
        rw [hf]
        refine HandSPX.setFlight_upZ fl5 fun h4 hh4 up4 => wpAny_throw (tk _ _ ?_)
        exact ⟨a, B, sI, pins, σ', H', cls, d, rfl, J, nb, up5.trans up4, .inr (.inr (by rw [hs]; exact hh4)), na, os5, ag5, hno rfl⟩
      first
        | exact wpAny_bind (wpAny_pure (wpAny_bind fin))
        | exact wpAny_bind fin
  · cases f with
    | next =>
      obtain ⟨σ', H', J', q⟩ := hsp
      exact wpAny_execs_nil ⟨σ', H', J'.ofTry ok, q⟩
    | brk =>
      obtain ⟨σ', H', J', q⟩ := hsp
      exact ⟨σ', H', J'.ofTry ok, q⟩
    | cont =>
      obtain ⟨σ', H', J', q⟩ := hsp
      exact ⟨σ', H', J'.ofTry ok, q⟩
    | ret u =>
      obtain ⟨v, σ', H', J', r, q⟩ := hsp
      exact ⟨v, σ', H', J'.ofTry ok, r, q⟩
/-- except x -/
theorem clause_name {x : Str} {np : Pos} {c : Value} (hc : Names X x c) : ClauseT X (.Name x np) (fun cls => PySem.W.exmOne X.K cls c) := by
  intro a pn σ H s cls b Q E E' S ⟨oe, he, hz⟩ hb1 q
  have LT : PySem.W.Looks (model X.prog X.w) s.heap (typeOf (.ref a)) cls := fun A Q E s k q => wpAny_typeOf_ref (k _ _ he) (by rw [hz]; exact q)
  have LM := PySem.W.exm_one (M := model X.prog X.w) S.kIn LT hb1
  have go : wpAny (model X.prog X.w) (X.A.mark (some (.ref a))) (excMatches (.ref a) c) Q E s := LM.here (q s (fun _ _ e => e) rfl rfl)
  obtain ⟨hg, hdbg, hm | ⟨hm, hv, hnn⟩⟩ := hc
  · exact ld_glob (X := X.suite a pn) S hg hm go hdbg
  · exact ld_blt (X := X.suite a pn) S hg hm hv go hnn hdbg
end
end Pm
set_option maxHeartbeats 2000000
/-! PmXj: try .. except as a function. -/
namespace Pm
open PySem PySem.Spec PyProof.Rows L2
/-- an exception that was caught, as data -/
def excD (x : XD) : D := .node false (.obj x.cls (x.fs.map (·.1))) (x.fs.map (·.2))
def tryA (i : Nat) (p : Str → Option Bool) (b s : M Fl) : M Fl := fun ρ => match b ρ with
  | .exc x ρ1 => match p x.cls with
    | some true => (if i < ρ1.length then (match s (ρ1.set i (some (excD x))) with
      | .ok fl ρ2 => .ok fl (ρ2.set i none)
      | _ => .stuck) else .stuck)
    | some false => .exc x ρ1
    | none => .stuck
  | r => r
section
variable {K : PySem.W.Frag} {mg : Str → Option Value} {W : WX} {Z H : Hp} {S : Fp} {σ : Sl} {X : Cx}
theorem exc_rep {x : XD} {C : Addr} {dd : Option Addr} {a : Addr} (xr : ExcR K mg Z x (.ref C) dd) (za : Z a = none) : Rep K (upd Z a (.ext (XoP a C dd))) H (excD x) (.ref a) Fp0 := by
  obtain ⟨C', h1, h2, h3, h4⟩ := xr
  cases h3
  have sm : Same Z (upd Z a (.ext (XoP a C dd))) := same_new za
  rcases h4 with ⟨rfl, hfs⟩ | ⟨d, vs, rfl, hz, hr⟩
  · refine ⟨a, [], rfl, ⟨C, none, h2, upd_same, .inl ⟨rfl, by rw [hfs]; rfl, rfl⟩⟩, ?_⟩
    rw [hfs]
    trivial
  · have hl : (x.fs.map (·.1)).length = vs.length := by
      have := hr.length
      rw [List.length_map] at this ⊢
      exact this
    exact ⟨a, vs, rfl, ⟨C, some d, h2, upd_same, .inr ⟨d, rfl, hl, sm _ _ hz⟩⟩, hr.move sm (fun _ _ q => q.elim) fun _ q => q⟩
theorem set_back {σ : Sl} {i : Nat} {y : Option V} {A : Nat → Bool} {σ' σ'' : Sl} (hA : A i = true) (k : Keep A σ σ') (k2 : Keep A (σ'.set i y) σ'') : Keep A σ (σ''.set i none) := by
  refine ⟨fun j hj => ?_, ?_⟩
  · have hji : j ≠ i := fun e => by rw [e, hA] at hj; cases hj
    rw [List.getElem?_set_ne (Ne.symm hji), k2.1 j hj, List.getElem?_set_ne (Ne.symm hji), k.1 j hj]
  · rw [List.length_set, k2.2, List.length_set, k.2]
theorem none_any {ρ : Env} {σ : Sl} {i : Nat} (h : EnvR K Z H ρ σ S) : EnvR K Z H (ρ.set i none) (σ.set i none) S := by
  have h' := h.drop i
  by_cases hi : i < ρ.length
  · exact h'.any none (by rw [List.getElem?_set_self hi])
  · rw [List.set_eq_of_length_le (l := σ) (by rw [← h.length]; omega)]
    exact h'
theorem S_try {A : Nat → Bool} {n : Str} {i : Nat} {body suite : List Stmt} {b₀ : Stmt} {pos pos' : Pos} {ht : Expr} {tst : Value → Option Bool} {p : Str → Option Bool} {b s : M Fl} (hs : X.stack = X.env :: X.outer) (hf : X.env.frame = some X.env.locals) (hN : X.N.Nodup) (hi : X.N[i]? = some n) (hln : X.env.kindOf n = some .local) (hc : ClauseT X ht tst) (tk : Takes X W) (hA : A i = true)
    (hp : ∀ c C b, reg X.K c = some C → p c = some b → tst (.ref C) = some b)
    (hb : ∀ (W : WX) (pn : List (Addr × Obj)) (xe : Value → Shared → Prop), Takes (X.tr pn xe) W → PassesOwn (model X.prog X.w) X.A X.env xe → PSs (X.tr pn xe) body (tS X.K X.mg W A b))
    (hsu : ∀ (a : Addr) (pn : List (Addr × Obj)), PSs (X.suite a pn) (b₀ :: suite) (tS X.K X.mg (fun _ _ _ _ => False) A s)) :
    PS X (.Try body [.ExceptHandler (some ht) (some n) (b₀ :: suite) pos'] [] [] pos) (tS X.K X.mg W A (tryA i p b s)) :=
  PS.of (ps_try_kept (tb := fun W' => tS X.K X.mg W' A b) hs hf hN hi hln hc tk hb hsu) fun D σ H h => by
    obtain ⟨Z, ρ, S, w, er, o⟩ := h
    refine ⟨Z, ρ, S, w, er, ?_⟩
    unfold tryA at o
    cases e1 : b ρ with
    | stuck => rw [e1] at o; exact o.elim
    | ok fl ρ1 => rw [e1] at o; exact o
    | exc x ρ1 =>
      simp only [e1] at o
      intro σ' kp cls dd Z' H' S' st er' xr
      obtain ⟨C, h1, h2, rfl, h4⟩ := id xr
      cases e2 : p x.cls with
      | none => simp only [e2] at o; exact o.elim
      | some bb =>
        refine ⟨bb, hp _ _ _ h2 e2, fun eb => ?_, fun eb => ?_⟩
        · subst eb
          simp only [e2] at o
          by_cases hil : i < ρ1.length
          · rw [if_pos hil] at o
            refine ⟨C, rfl, fun a na => ?_⟩
            have za : Z' a = none := st.wd.zfree na
            have sm : Same Z' (upd Z' a (.ext (XoP a C dd))) := same_new za
            have stn : Step Z' H' S' (upd Z' a (.ext (XoP a C dd))) (upd H' a (.ext (XoP a C dd))) S' := Step.allocZ st.wd na
            have kk : ∀ b u, S' b → H' b = some u → upd H' a (.ext (XoP a C dd)) b = some u := fun b u sb e => by
              have : b ≠ a := fun q => by rw [q, na] at e; cases e
              rw [upd_ne this]
              exact e
            have er2 : EnvR X.K (upd Z' a (.ext (XoP a C dd))) (upd H' a (.ext (XoP a C dd))) (ρ1.set i (some (excD x))) (σ'.set i (some (.ref a))) S' :=
              ((er'.move sm kk fun _ q => q).drop i).put hil (exc_rep xr za) (fun _ q => q.elim) (fun _ q => q) fun _ q _ => q.elim
            refine ⟨_, _, S', stn.wd, er2, ?_⟩
            cases e3 : s (ρ1.set i (some (excD x))) with
            | stuck => simp only [e3] at o; exact o.elim
            | exc y ρ2 => simp only [e3] at o; exact o.elim
            | ok fl ρ2 =>
              simp only [e3] at o
              intro σ'' v Z'' H'' S'' Sd kp2 st2 dj er3 fr
              have q := o (σ''.set i none) v Z'' H'' S'' Sd (set_back hA kp kp2) ((st.trans stn).trans st2) dj (none_any er3) ?_
              · cases fl <;> exact q
              · cases fl <;> exact fr
          · rw [if_neg hil] at o
            exact o.elim
        · subst eb
          simp only [e2] at o
          exact o σ' kp (.ref C) dd Z' H' S' st er' xr
end
end Pm
set_option maxHeartbeats 2000000
/-! PmXk: an exception that was caught: its fields, isinstance. -/
namespace Pm
open PySem PySem.Spec PyProof.Rows L2
/-- what is known of a class, so that its instances may be asked -/
structure XK (K : PySem.W.Frag) (C : Addr) : Prop where
  ga : PySem.W.findIn K (.ref C) "__getattribute__" = some (some (.builtin "BaseException.__getattribute__"))
  gg : PySem.W.findIn K (.ref C) "__getattr__" = some none
  exC : PySem.W.subIn K (.ref C) (.type "BaseException") = some true
  hdC : PySem.W.hasDictIn K C = true
  ca : PySem.W.findIn K (.ref C) "__class__" = some (some (.builtin "object.__class__"))
  sp : PySem.W.specialIn K (.builtin "object.__class__") "__get__" = some (some (.builtin "getset_descriptor.__get__"))
  tk : PySem.W.takesIn K (.builtin "object.__class__") = some true
  mo : PySem.W.mroIn K C (.type "object") = some true
section
variable {X : Cx}
/-- e.f -/
def tXg (K : PySem.W.Frag) (f : Str) (te : TE) : TE := fun σ H Q => te σ H fun x H1 => ∃ (a C dd : Addr) (fs : List (Str × V)) (v : V), x = .ref a ∧ XK K C ∧ PySem.W.findIn K (.ref C) f = some none ∧ H1 a = some (.ext (XoP a C (some dd))) ∧ H1 dd = some (.xd fs) ∧ fs.lookup f = some v ∧ Q v H1
theorem xo_at {P : Program} {w : World} {H : Hp} {h : Heap} {a C : Addr} {dd : Option Addr} (hok : HOk P w H h) (e : H a = some (.ext (XoP a C dd))) : ∃ (oe : Obj) (vs : Array Value), h.get? a = some oe ∧ oe.cls = .ref C ∧ oe.dict = dd ∧ oe.data = .fields vs := by
  have x : ObjOk P w H h a (.ext (XoP a C dd)) := hok a _ e
  exact x.1
theorem pe_xg {e : Expr} {te : TE} {pos : Pos} {f : Str} (he : PE X e te) (hb : attributeBase e f X.env (eval e X.env) = eval e X.env := by rfl) : PE X (.Attribute e f pos) (tXg X.K f te) := by
  refine ⟨fun pins s σ H Q I h => ?_⟩
  refine attr_of hb (thn (he.run pins s σ H _ I h) fun u s1 hh => ?_)
  obtain ⟨x, H1, I1, rx, a, C, dd, fs, v, ex, T, hno, ea, ed, l, q⟩ := hh
  subst ex
  obtain rfl : u = Value.ref a := rx
  obtain ⟨oe, vs, ha, hz1, hz2, hd⟩ := xo_at I1.hok ea
  have hx : ObjOk X.prog X.w H1 s1.heap dd (.xd fs) := I1.hok dd _ ed
  obtain ⟨mA, hns, hr⟩ := hx
  obtain ⟨od, ho, hl⟩ := lookIn_ns hns
  obtain ⟨u, hu, ru⟩ := RelO.some_of (v := v) (o := mA f) (by rw [← l]; exact hr f)
  have J : PySem.W.InstAt s1.heap a oe C (some od) := ⟨ha, hz1, by unfold PySem.W.notCls; rw [hd] <;> rfl, by rw [hz2]; exact ho⟩
  exact HandSPX.exc_get I1.kIn J T.ga T.gg T.exC (PySem.W.findObj_own T.hdC hno rfl (by rw [hl, hu])) (handed_of ru) ⟨v, H1, I1.tok _, ru, q⟩
/-- isinstance of it, one class or a tuple of classes that was just laid -/
def rIsX (K : PySem.W.Frag) : List V → Hp → VK → Prop := fun xs H Q => ∃ (a C : Addr) (dd : Option Addr) (b : Bool), H a = some (.ext (XoP a C dd)) ∧ (∀ d, dd = some d → ∃ fs, H d = some (.xd fs)) ∧ XK K C ∧
  ((∃ (c : V) (u : Value), xs = [.ref a, c] ∧ ClsV c u ∧ PySem.W.kitOne K (.ref C) u = some b) ∨
    ∃ (tp : Addr) (cs : List V) (us : List Value), xs = [.ref a, .ref tp] ∧ H tp = some (.tup cs) ∧ Paired ClsV cs us ∧ PySem.W.kitAny K (.ref C) us = some b) ∧ Q (.bl b) H
theorem hasDict_cls {K : PySem.W.Frag} {C : Addr} (h : PySem.W.hasDictIn K C = true) : (PySem.W.clsIn K C).isSome = true := by
  obtain ⟨cd, hc, _⟩ := PySem.W.any_some h
  rw [hc]
  rfl
theorem call_isX : CallR X (.builtin "isinstance") (rIsX X.K) := by
  intro pins s σ H xs us Q I r h
  obtain ⟨a, C, dd, b, ea, ed, T, e, q⟩ := h
  obtain ⟨oe, vs, ha, hz1, hz2, hd⟩ := xo_at I.hok ea
  obtain ⟨od, J⟩ : ∃ od, PySem.W.InstAt s.heap a oe C od := by
    cases dd with
    | none => exact ⟨none, ha, hz1, by unfold PySem.W.notCls; rw [hd] <;> rfl, by rw [hz2]; trivial⟩
    | some d =>
      obtain ⟨fs, ef⟩ := ed d rfl
      have hx : ObjOk X.prog X.w H s.heap d (.xd fs) := I.hok d _ ef
      obtain ⟨mA, ⟨o, es, ep, ho, _⟩, _⟩ := hx
      exact ⟨some o, ha, hz1, by unfold PySem.W.notCls; rw [hd] <;> rfl, by rw [hz2]; exact ho⟩
  have Z := PySem.W.kitx_exc (x := a) (ox := oe) (od := od) (hasDict_cls T.hdC) T.ga T.gg T.exC T.ca T.sp T.tk T.mo
  rcases e with ⟨c, u, rfl, k, e⟩ | ⟨tp, cs, ws, rfl, hT, k, e⟩
  · obtain ⟨u1, u2, rfl, r1, r2⟩ := vals2 r
    cases (show u1 = Value.ref a from r1)
    have e2 := k.eq r2
    subst e2
    exact PySem.W.kia_one Z I.kIn J e (fun z => nomatch z) fun tk => ⟨.bl b, H, I.tok tk, rfl, q⟩
  · obtain ⟨u1, u2, rfl, r1, r2⟩ := vals2 r
    cases (show u1 = Value.ref a from r1)
    cases (show u2 = Value.ref tp from r2)
    obtain ⟨_, its, rv, o, h1, h2, n, h3⟩ := (show ObjOk X.prog X.w H s.heap tp (.tup cs) from I.hok tp _ hT)
    have e3 := ClsV.all k rv
    subst e3
    obtain ⟨oc, odd, dt, sl⟩ := o
    simp only at h2 h3
    subst h2 h3
    exact PySem.W.kia_tup Z I.kIn J h1 e (fun z => nomatch z) fun tk => ⟨.bl b, H, I.tok tk, rfl, q⟩
/-- .. or of a thing of another kind -/
def rIsZ (K : PySem.W.Frag) : List V → Hp → VK → Prop := fun xs H Q => rIsX K xs H Q ∨ rIsi K xs H Q ∨ rIsiT K xs H Q
theorem call_isZ : CallR X (.builtin "isinstance") (rIsZ X.K) := by
  intro pins s σ H xs us Q I r h
  rcases h with h | h | h
  · exact call_isX pins s σ H xs us Q I r h
  · exact call_isi pins s σ H xs us Q I r h
  · exact call_isiT pins s σ H xs us Q I r h
end
end Pm
set_option maxHeartbeats 2000000
/-! PmXl: fields and isinstance of a caught exception, as functions. -/
namespace Pm
open PySem PySem.Spec PyProof.Rows L2
def xget (ns : List Str) (f : Str) (fe : M EV) : M EV := bnd fe fun e => fun ρ => match peek1 ρ e with
  | some (.node false (.obj n fs) xs) => if n ∈ ns then (match (fs.zip xs).lookup f with
    | some d => if d.plain = true then .ok (.val d) ρ else .stuck
    | none => .stuck) else .stuck
  | _ => .stuck
def isxD (tbl : Str → Option Bool) : D → Option Bool
  | .node false (.obj n _) _ => tbl n
  | .non => some false
  | _ => none
def xis (tbl : Str → Option Bool) (fe : M EV) : M EV := bnd fe fun e => fun ρ => match peek1 ρ e with
  | some d => (match isxD tbl d with
    | some b => .ok (.val (.bl b)) ρ
    | none => .stuck)
  | none => .stuck
section
variable {K : PySem.W.Frag} {mg : Str → Option Value} {W : WX} {Z H : Hp} {S : Fp} {σ : Sl} {X : Cx}
theorem peek_rep {ρ : Env} {ev : EV} {v : V} {d : D} {Sd : Fp} (er : EnvR K Z H ρ σ S) (r : EVR K Z H σ ev v Sd) (hp : peek1 ρ ev = some d) : ∃ S0, Rep K Z H d v S0 := by
  cases ev with
  | val d' =>
    cases hp
    exact ⟨Sd, r⟩
  | ref i =>
    obtain ⟨v', S1, S2, e1, _, _, _, r1, _⟩ := er.take (getD_some (show ρ.getD i none = some d from hp))
    have e2 : σ[i]? = some (some v) := r
    rw [e1] at e2
    cases e2
    exact ⟨S1, r1⟩
theorem look_rep {f : Str} : ∀ {fs : List Str} {xs : List D} {ys : List V} {S : Fp} {d : D}, RepL K Z H xs ys S → (fs.zip xs).lookup f = some d → ∃ y S0, (fs.zip ys).lookup f = some y ∧ Rep K Z H d y S0
  | [], xs, ys, S, d, _, h => by simp at h
  | g :: fs, [], ys, S, d, _, h => by simp at h
  | g :: fs, x :: xs, [], S, d, r, _ => r.elim
  | g :: fs, x :: xs, y :: ys, S, d, ⟨S1, S2, _, _, _, r, q⟩, h => by
    rw [List.zip_cons_cons, List.lookup_cons] at h
    rw [List.zip_cons_cons, List.lookup_cons]
    cases e : f == g with
    | true =>
      simp only [e] at h ⊢
      cases h
      exact ⟨y, S1, rfl, r⟩
    | false =>
      simp only [e] at h ⊢
      exact look_rep q h
theorem E_xg {ns : List Str} {f : Str} {fe : M EV} {e : Expr} {pos : Pos} (he : PE X e (tE X.K X.mg W fe)) (hx : ∀ n ∈ ns, ∀ C, reg X.K n = some C → XK X.K C ∧ PySem.W.findIn X.K (.ref C) f = some none) (hb : attributeBase e f X.env (eval e X.env) = eval e X.env := by rfl) :
    PE X (.Attribute e f pos) (tE X.K X.mg W (xget ns f fe)) :=
  PE.of (pe_xg he hb) fun σ H Q h => by
    obtain ⟨Z, ρ, S, w, er, o⟩ := h
    refine ⟨Z, ρ, S, w, er, ?_⟩
    simp only [xget, bnd] at o
    cases e1 : fe ρ with
    | stuck => rw [e1] at o; exact o.elim
    | exc x ρ1 => rw [e1] at o; exact o
    | ok ev ρ1 =>
      simp only [e1] at o
      intro v Z' H' S' Sd st dj er' evr
      cases hp : peek1 ρ1 ev with
      | none => simp only [hp] at o; exact o.elim
      | some d =>
        simp only [hp] at o
        split at o
        · rename_i d n fs xs hd
          cases hd
          by_cases hn : n ∈ ns
          · rw [if_pos hn] at o
            split at o
            · rename_i dat hdat
              by_cases hpl : dat.plain = true
              · rw [if_pos hpl] at o
                obtain ⟨S0, a, ys, rfl, ⟨C, dd, hr, hz, hc⟩, rl⟩ := peek_rep er' evr hp
                obtain ⟨T, hno⟩ := hx n hn C hr
                rcases hc with ⟨_, hfs, _⟩ | ⟨dx, rfl, hl, hzd⟩
                · rw [hfs] at hdat
                  simp at hdat
                · obtain ⟨y, S1, ly, ry⟩ := look_rep rl hdat
                  have wd' : Wd Z' H' S' := st.wd.less fun a q => .inl q
                  refine ⟨a, C, dx, fs.zip ys, y, rfl, T, hno, st.wd.same.get _ _ hz nt_ext, st.wd.same.get _ _ hzd nt_xd, ly, ?_⟩
                  exact o y Z' H' S' Fp0 (st.less fun a q => q.elim .inl fun z => z.elim) (fun _ _ z => z.elim) er' (Rep.plain ry hpl)
              · rw [if_neg hpl] at o
                exact o.elim
            · exact o.elim
          · rw [if_neg hn] at o
            exact o.elim
        · exact o.elim
theorem tE_xis {tbl : Str → Option Bool} {fe : M EV} {Q : VK} (h : tE K mg W (xis tbl fe) σ H Q) : tE K mg W fe σ H fun v H1 => (v = .non ∧ Q (.bl false) H1) ∨ ∃ (n : Str) (b : Bool) (a C : Addr) (dd : Option Addr), tbl n = some b ∧ v = .ref a ∧ reg K n = some C ∧ H1 a = some (.ext (XoP a C dd)) ∧ (∀ d, dd = some d → ∃ fs, H1 d = some (.xd fs)) ∧ Q (.bl b) H1 := by
  obtain ⟨Z, ρ, S, w, er, o⟩ := h
  refine ⟨Z, ρ, S, w, er, ?_⟩
  simp only [xis, bnd] at o
  cases e1 : fe ρ with
  | stuck => rw [e1] at o; exact o.elim
  | exc x ρ1 => rw [e1] at o; exact o
  | ok ev ρ1 =>
    simp only [e1] at o
    intro v Z' H' S' Sd st dj er' evr
    cases hp : peek1 ρ1 ev with
    | none => simp only [hp] at o; exact o.elim
    | some d =>
      simp only [hp] at o
      have fin : ∀ b, isxD tbl d = some b → Q (.bl b) H' := fun b e => by
        simp only [e] at o
        exact o (.bl b) Z' H' S' Fp0 (st.less fun a q => q.elim .inl fun z => z.elim) (fun _ _ z => z.elim) er' rfl
      have nst : isxD tbl d ≠ none := fun e => by
        simp only [e] at o
        exact o.elim
      obtain ⟨S0, rd⟩ := peek_rep er' evr hp
      cases d with
      | non =>
        cases (show v = .non from rd)
        exact .inl ⟨rfl, fin false rfl⟩
      | node ow k xs =>
        cases ow with
        | true => exact absurd rfl nst
        | false =>
          cases k with
          | obj n fs =>
            cases e : tbl n with
            | none => exact absurd e nst
            | some b =>
              obtain ⟨a, ys, rfl, ⟨C, dd, hr, hz, hc⟩, rl⟩ := rd
              refine .inr ⟨n, b, a, C, dd, e, rfl, hr, st.wd.same.get _ _ hz nt_ext, fun d hd => ?_, fin b e⟩
              rcases hc with ⟨h1, _, _⟩ | ⟨dx, h1, _, hzd⟩
              · rw [h1] at hd; cases hd
              · rw [h1] at hd
                cases hd
                exact ⟨_, st.wd.same.get _ _ hzd nt_xd⟩
          | _ => exact absurd rfl nst
      | _ => exact absurd rfl nst
/-- isinstance(e, C) -/
theorem E_is1 {tbl : Str → Option Bool} {fe : M EV} {e e2 : Expr} {cv : V} {cu : Value} {p pos : Pos} (hm : X.mg "isinstance" = none) (he : PE X e (tE X.K X.mg W fe)) (h2 : PE X e2 (tC cv)) (hc : ClsV cv cu)
    (ht : ∀ n b C, tbl n = some b → reg X.K n = some C → XK X.K C ∧ PySem.W.kitOne X.K (.ref C) cu = some b) (hn : PySem.W.kitOne X.K (.type "NoneType") cu = some false) (hg : Gl X "isinstance" := by rfl)
    (hs : starEach [e, e2] X.env = (false, eval e X.env) :: starEach [e2] X.env := by rfl) (hs2 : starEach [e2] X.env = (false, eval e2 X.env) :: starEach [] X.env := by rfl) (hpl : (backTo pos (starEach [e2] X.env)).any (·.1) = false := by rfl) :
    PE X (.Call (.Name "isinstance" p) [e, e2] [] pos) (tE X.K X.mg W (xis tbl fe)) :=
  PE.of (pe_callB (call_isZ (X := X)) hg hm rfl (pa_cons he (pa_cons h2 pa_nil hs2) hs) (by decide) (by decide) hs hpl) fun σ H Q h => by
    obtain ⟨Z, ρ, S, w, er, o⟩ := tE_xis h
    refine ⟨Z, ρ, S, w, er, ?_⟩
    cases e1 : fe ρ with
    | stuck => rw [e1] at o; exact o.elim
    | exc x ρ1 => rw [e1] at o; exact o
    | ok ev ρ1 =>
      simp only [e1] at o
      intro v Z' H' S' Sd st dj er' evr
      rcases o v Z' H' S' Sd st dj er' evr with ⟨rfl, q⟩ | ⟨n, b, a, C, dd, h1, rfl, hr, ha, hd, q⟩
      · exact .inr (.inl ⟨.non, cv, .type "NoneType", cu, false, rfl, hc, .base .non, hn, q⟩)
      · obtain ⟨T, hk⟩ := ht n b C h1 hr
        exact .inl ⟨a, C, dd, b, ha, hd, T, .inl ⟨cv, cu, rfl, hc, hk⟩, q⟩
end
end Pm
/-! PmZt: count of a list of flat things. -/
namespace Pm
open PySem PySem.Spec PyProof.Rows L2
/-! ### l.count(x) -/
def rCntF (K : PySem.W.Frag) : V → List V → Hp → VK → Prop := fun x xs H Q => ∃ (p : Addr) (ys : List V) (y : V), x = .ref p ∧ xs = [y] ∧ SqL K H p ys ∧ flatV y = true ∧ ys.all flatV = true ∧ Q (.int ((ys.countP fun z => eqV z y : Nat) : Int)) H
theorem count_eqU {x : V} : ∀ {xs : List V} {us : List Value}, Vals xs us → xs.all flatV = true → us.countP (eqU x) = xs.countP fun y => eqV y x
  | _, _, .nil, _ => rfl
  | y :: xs, u :: us, .cons r t, f => by
    rw [List.all_cons, Bool.and_eq_true] at f
    rw [List.countP_cons, List.countP_cons, eqU_of r f.1, count_eqU t f.2]
section
variable {K : PySem.W.Frag} {mg : Str → Option Value} {W : WX} {Z Z' H H' : Hp} {S S' : Fp} {σ : Sl} {X : Cx} {e o : Expr} {fa fb : M EV}
theorem mt_lcntF : MtR X "list.count" (rCntF X.K) := by
  intro pins s σ H x xs v us Q I rx rxs h
  obtain ⟨p, ys, y, rfl, rfl, hs, fy, fs, q⟩ := h
  cases rx
  obtain ⟨u, rfl, ru⟩ := rxs.one
  obtain ⟨its, rv, ⟨⟨cls, dd, data, sl⟩, n, ho, hc, hdn, hd⟩, hlen⟩ := I.list hs
  simp only at hc hd
  subst hc hd
  refine call_meets PySem.F.slot_list_count ⟨_, ho, rfl⟩ PySem.F.entry_list_count (PySem.F.args_list_count_2 _ _) (SeqAt.list_countAt p its.toArray n dd sl u (eqU y)) ⟨ho, fun w hw => mem_eqAt ru fy rv fs w (by simpa using hw), ?_⟩
  have ec := count_eqU rv fs (x := y)
  refine ⟨.int ((ys.countP fun z => eqV z y : Nat) : Int), H, I.tok _, ⟨s.toks, ?_⟩, q⟩
  show Value.int ((its.toArray.toList.countP (eqU y) : Nat) : Int) s.toks = _
  rw [List.toList_toArray, ec]
def lcntF (j : Nat) (fe : M EV) : M EV := fun ρ0 => match ρ0.getD j none with
  | some (.node _ .lst _) => bnd fe (fun ee => fun ρ => match ρ.getD j none, peek1 ρ ee with
    | some (.node _ .lst xs), some k => match flt k, fltL xs with
      | some y, some ys => .ok (.val (.int ((ys.countP fun z => eqV z y : Nat) : Int))) ρ
      | _, _ => .stuck
    | _, _ => .stuck) ρ0
  | _ => .stuck
theorem tE_lcntF {j : Nat} {Q : VK} (h : tE K mg W (lcntF j fa) σ H Q) : tBM K "list" (rCntF K) (tVar j) (tCons (tE K mg W fa) tNil) σ H Q := by
  obtain ⟨Z, ρ, S, w, er, o⟩ := h
  simp only [lcntF] at o
  split at o
  · rename_i b0 xs0 h0
    obtain ⟨u, U1, U2, hv, u1, u2, uj, ru, eu⟩ := er.take (getD_some h0)
    obtain ⟨p0, ys0, rfl, c0, _⟩ := rep_lst w.same ru
    refine ⟨.ref p0, hv, .inl ⟨rfl, ys0, SqL.of c0⟩, Z, ρ, S, w, er, ?_⟩
    simp only [bnd] at o
    cases e1 : fa ρ with
    | stuck => rw [e1] at o; exact o
    | exc x ρ1 => rw [e1] at o; exact o
    | ok ev ρ1 =>
      simp only [e1] at o
      intro v Z1 H1 S1 Sa st1 dj1 er1 r1
      have t1 := st1.less (S2 := S1) fun a x => .inl x
      have o1 := OutE.after (K := K) (mg := mg) (W := W) (σ := σ) (Q := Q) t1 o
      split at o1
      · rename_i b1 xs k hx hk
        split at o1
        · rename_i y ys hy hn
          obtain ⟨S0, rk⟩ := peek_rep er1 r1 hk
          obtain ⟨ev1, fy⟩ := flt_ok hy rk
          obtain ⟨u', V1, V2, hv2, v1, v2, vj, ru2, eu2⟩ := er1.take (getD_some hx)
          obtain ⟨p1, ys1, rfl, c1, rl1⟩ := rep_lst t1.wd.same ru2
          rw [hv] at hv2
          cases hv2
          obtain ⟨e2, fs⟩ := fltL_ok hn rl1
          subst e2
          subst ev1
          exact ⟨p0, _, _, rfl, rfl, SqL.of c1, fy, fs, o1 _ Z1 H1 S1 Fp0 (Step.refl t1.wd |>.less fun a x => x.elim id False.elim) (fun _ _ x => x) er1 rfl⟩
        · exact o1.elim
      · exact o1.elim
  · exact o.elim
theorem E_lcntF {j : Nat} {x : Str} {p2 apos cpos : Pos} (he : PE X e (tE X.K X.mg W fa)) (hj : X.N[j]? = some x := by rfl) (hv : Vis X.env.scope x := by first | exact Or.inl rfl | exact Or.inr (Or.inl rfl) | exact Or.inr (Or.inr rfl)) (hd : (x == ("__debug__" : Str)) = false := by decide) (hcd : (x == ("__classdict__" : Str)) = false := by decide)
    (hbase : attributeBase (.Name x p2) "count" X.env (eval (.Name x p2) X.env) = eval (.Name x p2) X.env := by rfl)
    (hfew : ((backTo cpos (starEach [e] X.env)).all (fun x => !x.1) && (backToKw cpos (keywordEach [] X.env)).all (fun x => x.1.isSome)
      && decide ([e].length + ([] : List Keyword).length + (if ([] : List Keyword).isEmpty then 0 else 1) < 30)) = true := by rfl)
    (hline : (apos.endLine == cpos.line) = true := by rfl) (hs : starEach [e] X.env = (false, eval e X.env) :: starEach [] X.env := by rfl) (hplain : (backTo cpos (starEach [] X.env)).any (·.1) = false := by rfl) :
    PE X (.Call (.Attribute (.Name x p2) "count" apos) [e] [] cpos) (tE X.K X.mg W (lcntF j fa)) :=
  PE.of (pe_bm PySem.F.plainAttrs_list PySem.F.slot_list_count PySem.F.type_list_count mt_lcntF (pe_var hj hv hd hcd) (pa_cons he pa_nil hs) hbase hfew hline hs hplain) fun _ _ _ q => tE_lcntF q
end
end Pm
/-! PmLd: reverse, insert of a slot's own list; index of a list's or a tuple's flat thing. -/
namespace Pm
open PySem PySem.Spec PyProof.Rows L2
section
variable {K : PySem.W.Frag} {mg : Str → Option Value} {W : WX} {Z Z' H H' : Hp} {S S' : Fp} {σ : Sl} {X : Cx} {e o : Expr} {fa fb : M EV}
theorem RepL.rev : ∀ {ds : List D} {vs : List V} {S : Fp}, RepL K Z H ds vs S → RepL K Z H ds.reverse vs.reverse S
  | [], [], _, _ => by
    rw [List.reverse_nil, List.reverse_nil]
    trivial
  | [], _ :: _, _, h => h.elim
  | _ :: _, [], _, h => h.elim
  | d :: ds, v :: vs, S, ⟨S1, S2, s1, s2, dj, r, q⟩ => by
    rw [List.reverse_cons, List.reverse_cons]
    exact RepL.append (RepL.rev q) ⟨S1, Fp0, fun _ x => x, fun _ x => x.elim, fun _ _ x => x, r, trivial⟩ s2 s1 fun a x y => dj a y x
theorem RepL.ins {d : D} {v : V} (rd : Rep K Z H d v Fp0) : ∀ {ds : List D} {vs : List V} {S : Fp} {i : Nat}, RepL K Z H ds vs S → RepL K Z H (ds.take i ++ [d] ++ ds.drop i) (vs.take i ++ [v] ++ vs.drop i) S
  | [], [], S, i, h => by
    simp only [List.take_nil, List.drop_nil, List.nil_append, List.append_nil]
    exact ⟨Fp0, S, fun _ x => x.elim, fun _ x => x, fun _ x => x.elim, rd, h⟩
  | [], _ :: _, _, _, h => h.elim
  | _ :: _, [], _, _, h => h.elim
  | d' :: ds, v' :: vs, S, 0, h => ⟨Fp0, S, fun _ x => x.elim, fun _ x => x, fun _ x => x.elim, rd, h⟩
  | d' :: ds, v' :: vs, S, i + 1, ⟨S1, S2, s1, s2, dj, r, q⟩ => ⟨S1, S2, s1, s2, dj, r, RepL.ins rd q⟩
theorem flt_rep {d : D} {v : V} (h : flt d = some v) : Rep K Z H d v Fp0 := by
  cases d with
  | non => cases h; exact rfl
  | bl b => cases h; exact rfl
  | int i => cases h; exact rfl
  | str x => cases h; exact rfl
  | _ => cases h
/-- the slot's own list is written anew -/
theorem list_set {j : Nat} {xs xs' : List D} {ρ : Env} (w : Wd Z H S) (er : EnvR K Z H ρ σ S) (e : ρ.getD j none = some (.node true .lst xs)) (f : List V → List V) (hf : ∀ (H : Hp) (ys : List V) (U : Fp), RepL K Z H xs ys U → RepL K Z H xs' (f ys) U) :
    ∃ p ys, σ[j]? = some (some (.ref p)) ∧ H p = some (.lst ys) ∧ ys.length = xs.length ∧ ∃ S' : Fp, (∀ a, S' a → S a) ∧ S p ∧ EnvR K Z (upd H p (.lst (f ys))) (ρ.set j (some (.node true .lst xs'))) σ S' := by
  obtain ⟨u, U1, U2, hv, u1, u2, uj, ru, eu⟩ := er.take (getD_some e)
  obtain ⟨p, ys, U', rfl, c, sa, na, sub, rl⟩ := ru
  obtain ⟨hj, ej⟩ := List.getElem?_eq_some_iff.mp hv
  have es : σ.set j (some (.ref p)) = σ := by rw [← ej, List.set_getElem_self]
  have hl : j < ρ.length := by rw [er.length]; exact hj
  have keep : ∀ {B : Fp}, (∀ a, B a → a = p → False) → ∀ a o, B a → H a = some o → upd H p (.lst (f ys)) a = some o := fun {B} n a o b q => by rw [upd_ne fun z => n a b z]; exact q
  have n1 : ∀ a, U' a → a = p → False := fun a x y => na (by rw [← y]; exact x)
  have rn : Rep K Z (upd H p (.lst (f ys))) (.node true .lst xs') (.ref p) (fun a => a = p ∨ U' a) := ⟨p, f ys, U', rfl, upd_same, .inl rfl, fun x => n1 p x rfl, fun _ x => .inr x, (hf _ _ _ (rl.move (Same.refl Z) (keep n1) fun _ x => x))⟩
  have q := EnvR.put (S := fun a => (a = p ∨ U' a) ∨ U2 a) (eu.move (Same.refl Z) (keep fun a x y => uj p sa (by rw [← y]; exact x)) fun _ x => x) hl rn (fun _ x => .inl x) (fun _ x => .inr x) fun a x y => by
    rcases x with x | x
    · exact uj p sa (by rw [← x]; exact y)
    · exact uj a (sub a x) y
  rw [es] at q
  refine ⟨p, ys, hv, c, rl.length.symm, _, fun a x => ?_, u1 p sa, q⟩
  rcases x with (x | x) | x
  · rw [x]; exact u1 p sa
  · exact u1 a (sub a x)
  · exact u2 a x
/-! ### l.reverse() -/
def revd (j : Nat) : M EV := fun ρ => match ρ.getD j none with
  | some (.node true .lst xs) => .ok (.val .non) (ρ.set j (some (.node true .lst xs.reverse)))
  | _ => .stuck
theorem tE_revd {j : Nat} {Q : VK} (h : tE K mg W (revd j) σ H Q) : tBM0 K "list" rReverse (tVar j) σ H Q := by
  obtain ⟨Z, ρ, S, w, er, o⟩ := h
  simp only [revd] at o
  split at o
  · rename_i xs h0
    obtain ⟨p, ys, hv, hp, hl, S', m1, sp, er'⟩ := list_set w er h0 List.reverse fun _ _ _ r => r.rev
    refine ⟨.ref p, hv, .inl ⟨rfl, ys, SqL.of hp⟩, p, ys, rfl, rfl, hp, ?_⟩
    exact o .non Z _ S' Fp0 ((Step.write w sp).less fun a x => x.elim (m1 a) False.elim) (fun _ _ x => x) er' rfl
  · exact o.elim
theorem E_revd {j : Nat} {x : Str} {p2 apos cpos : Pos} (hj : X.N[j]? = some x := by rfl) (hv : Vis X.env.scope x := by first | exact Or.inl rfl | exact Or.inr (Or.inl rfl) | exact Or.inr (Or.inr rfl)) (hd : (x == ("__debug__" : Str)) = false := by decide) (hcd : (x == ("__classdict__" : Str)) = false := by decide)
    (hbase : attributeBase (.Name x p2) "reverse" X.env (eval (.Name x p2) X.env) = eval (.Name x p2) X.env := by rfl) (hline : (apos.endLine == cpos.line) = true := by rfl) : PE X (.Call (.Attribute (.Name x p2) "reverse" apos) [] [] cpos) (tE X.K X.mg W (revd j)) :=
  PE.of (pe_bm0 PySem.F.plainAttrs_list PySem.F.slot_list_reverse PySem.F.type_list_reverse mt_reverse (pe_var hj hv hd hcd) hbase hline) fun _ _ _ q => tE_revd q
/-! ### l.insert(i, x), x flat -/
def rIns : V → List V → Hp → VK → Prop := fun x vs H Q => ∃ (l : Addr) (xs : List V) (i : Int) (y : V), x = .ref l ∧ vs = [.int i, y] ∧ H l = some (.lst xs) ∧ xs.length < sizeLine ∧ 0 ≤ i ∧ i < 2 ^ 63 ∧ Q .non (upd H l (.lst (xs.take i.toNat ++ [y] ++ xs.drop i.toNat)))
def insd (j : Nat) (fi fe : M EV) : M EV := fun ρ0 => match ρ0.getD j none with
  | some (.node true .lst _) => bnd fi (fun ei => fun ρ => match peek1 ρ ei with
    | some (.int k) => bnd fe (fun ev => fun ρ => match ρ.getD j none, peek1 ρ ev with
      | some (.node true .lst xs), some d => if (flt d).isSome = true ∧ xs.length < cap ∧ 0 ≤ k ∧ k ≤ 1000000 then .ok (.val .non) (ρ.set j (some (.node true .lst (xs.take k.toNat ++ [d] ++ xs.drop k.toNat)))) else .stuck
      | _, _ => .stuck) ρ
    | _ => .stuck) ρ0
  | _ => .stuck
theorem tE_insd {j : Nat} {Q : VK} (h : tE K mg W (insd j fa fb) σ H Q) : tBM K "list" rIns (tVar j) (tCons (tE K mg W fa) (tCons (tE K mg W fb) tNil)) σ H Q := by
  obtain ⟨Z, ρ, S, w, er, o⟩ := h
  simp only [insd] at o
  split at o
  · rename_i xs0 h0
    obtain ⟨u, U1, U2, hv, u1, u2, uj, ru, eu⟩ := er.take (getD_some h0)
    obtain ⟨p0, ys0, U', rfl, c0, _⟩ := ru
    refine ⟨.ref p0, hv, .inl ⟨rfl, ys0, SqL.of c0⟩, Z, ρ, S, w, er, ?_⟩
    simp only [bnd] at o
    cases e1 : fa ρ with
    | stuck => rw [e1] at o; exact o
    | exc x ρ1 => rw [e1] at o; exact o
    | ok ev ρ1 =>
      simp only [e1] at o
      intro v Z1 H1 S1 Sa st1 dj1 er1 r1
      have t1 := st1.less (S2 := S1) fun a x => .inl x
      have o1 := OutE.after (K := K) (mg := mg) (W := W) (σ := σ) (Q := Q) t1 o
      split at o1
      · rename_i k hk
        have ev' := int_of hk r1 er1
        subst ev'
        refine ⟨Z1, ρ1, S1, t1.wd, er1, ?_⟩
        cases e2 : fb ρ1 with
        | stuck => rw [e2] at o1; exact o1
        | exc x ρ2 => rw [e2] at o1; exact o1
        | ok ev2 ρ2 =>
          simp only [e2] at o1
          intro v2 Z2 H2 S2 Sb st2 dj2 er2 r2
          have t2 := st2.less (S2 := S2) fun a x => .inl x
          have o2 := OutE.after (K := K) (mg := mg) (W := W) (σ := σ) (Q := Q) t2 o1
          split at o2
          · rename_i xs d hx hd
            split at o2
            · rename_i hc
              obtain ⟨hf, hz, hk0, hk1⟩ := hc
              obtain ⟨y, hy⟩ := Option.isSome_iff_exists.mp hf
              obtain ⟨S0, rk⟩ := peek_rep er2 r2 hd
              obtain ⟨ev1, fy⟩ := flt_ok hy rk
              subst ev1
              obtain ⟨p, ys, hv2, hp, hl, S', m1, sp, er'⟩ := list_set (xs' := xs.take k.toNat ++ [d] ++ xs.drop k.toNat) t2.wd er2 hx (fun ys => ys.take k.toNat ++ [v2] ++ ys.drop k.toNat) fun _ _ _ r => RepL.ins (flt_rep hy) r
              rw [hv] at hv2
              cases hv2
              have hz' : xs.length < 1000000 := hz
              refine ⟨p0, ys, k, v2, rfl, rfl, hp, by rw [hl]; exact Nat.lt_trans hz' (by rw [sizeLine_eq]; decide), hk0, by omega, ?_⟩
              exact o2 .non Z2 _ S' Fp0 ((Step.write t2.wd sp).less fun a x => x.elim (m1 a) False.elim) (fun _ _ x => x) er' rfl
            · exact o2.elim
          · exact o2.elim
      · exact o1.elim
  · exact o.elim
theorem E_insd {j : Nat} {x : Str} {e2 : Expr} {p2 apos cpos : Pos} (he : PE X e (tE X.K X.mg W fa)) (he2 : PE X e2 (tE X.K X.mg W fb)) (hj : X.N[j]? = some x := by rfl) (hv : Vis X.env.scope x := by first | exact Or.inl rfl | exact Or.inr (Or.inl rfl) | exact Or.inr (Or.inr rfl)) (hd : (x == ("__debug__" : Str)) = false := by decide) (hcd : (x == ("__classdict__" : Str)) = false := by decide)
    (hbase : attributeBase (.Name x p2) "insert" X.env (eval (.Name x p2) X.env) = eval (.Name x p2) X.env := by rfl)
    (hfew : ((backTo cpos (starEach [e, e2] X.env)).all (fun x => !x.1) && (backToKw cpos (keywordEach [] X.env)).all (fun x => x.1.isSome)
      && decide ([e, e2].length + ([] : List Keyword).length + (if ([] : List Keyword).isEmpty then 0 else 1) < 30)) = true := by rfl)
    (hline : (apos.endLine == cpos.line) = true := by rfl) (hs : starEach [e, e2] X.env = (false, eval e X.env) :: starEach [e2] X.env := by rfl) (hs2 : starEach [e2] X.env = (false, eval e2 X.env) :: starEach [] X.env := by rfl) (hplain : (backTo cpos (starEach [e2] X.env)).any (·.1) = false := by rfl) :
    PE X (.Call (.Attribute (.Name x p2) "insert" apos) [e, e2] [] cpos) (tE X.K X.mg W (insd j fa fb)) :=
  PE.of (pe_bm PySem.F.plainAttrs_list PySem.F.slot_list_insert PySem.F.type_list_insert mt_insert (pe_var hj hv hd hcd) (pa_cons he (pa_cons he2 pa_nil hs2) hs) hbase hfew hline hs hplain) fun _ _ _ q => tE_insd q
end
end Pm
/-! PmLe: index of a list's flat thing. -/
namespace Pm
open PySem PySem.Spec PyProof.Rows L2
section
variable {K : PySem.W.Frag} {mg : Str → Option Value} {W : WX} {Z Z' H H' : Hp} {S S' : Fp} {σ : Sl} {X : Cx} {e o : Expr} {fa fb : M EV}
/-- the place of a flat thing -/
def lixF (j : Nat) (fe : M EV) : M EV := fun ρ0 => match ρ0.getD j none with
  | some (.node _ .lst _) => bnd fe (fun ee => fun ρ => match ρ.getD j none, peek1 ρ ee with
    | some (.node _ .lst xs), some k => match flt k, fltL xs with
      | some y, some ys => match ys.findIdx? fun z => eqV z y with
        | some i => .ok (.val (.int (i : Int))) ρ
        | none => .stuck
      | _, _ => .stuck
    | _, _ => .stuck) ρ0
  | _ => .stuck
theorem fidx {α : Type} {p : α → Bool} {ys : List α} {i : Nat} (h : ys.findIdx? p = some i) : ∃ z, ys[i]? = some z ∧ p z = true ∧ ∀ (m : Nat) (z' : α), m < i → ys[m]? = some z' → p z' = false := by
  obtain ⟨h1, h2, h3⟩ := List.findIdx?_eq_some_iff_getElem.mp h
  refine ⟨ys[i], List.getElem?_eq_getElem h1, h2, fun m z' hm hz => ?_⟩
  obtain ⟨hl, e⟩ := List.getElem?_eq_some_iff.mp hz
  have := h3 m hm
  rw [e] at this
  simpa using this
theorem tE_lixF {j : Nat} {Q : VK} (h : tE K mg W (lixF j fa) σ H Q) : tBM K "list" (rIndex K) (tVar j) (tCons (tE K mg W fa) tNil) σ H Q := by
  obtain ⟨Z, ρ, S, w, er, o⟩ := h
  simp only [lixF] at o
  split at o
  · rename_i b0 xs0 h0
    obtain ⟨u, U1, U2, hv, u1, u2, uj, ru, eu⟩ := er.take (getD_some h0)
    obtain ⟨p0, ys0, rfl, c0, _⟩ := rep_lst w.same ru
    refine ⟨.ref p0, hv, .inl ⟨rfl, ys0, SqL.of c0⟩, Z, ρ, S, w, er, ?_⟩
    simp only [bnd] at o
    cases e1 : fa ρ with
    | stuck => rw [e1] at o; exact o
    | exc x ρ1 => rw [e1] at o; exact o
    | ok ev ρ1 =>
      simp only [e1] at o
      intro v Z1 H1 S1 Sa st1 dj1 er1 r1
      have t1 := st1.less (S2 := S1) fun a x => .inl x
      have o1 := OutE.after (K := K) (mg := mg) (W := W) (σ := σ) (Q := Q) t1 o
      split at o1
      · rename_i b1 xs k hx hk
        split at o1
        · rename_i y ys hy hn
          split at o1
          · rename_i i hi
            obtain ⟨S0, rk⟩ := peek_rep er1 r1 hk
            obtain ⟨ev1, fy⟩ := flt_ok hy rk
            obtain ⟨u', V1, V2, hv2, v1, v2, vj, ru2, eu2⟩ := er1.take (getD_some hx)
            obtain ⟨p1, ys1, rfl, c1, rl1⟩ := rep_lst t1.wd.same ru2
            rw [hv] at hv2
            cases hv2
            obtain ⟨e2, fs⟩ := fltL_ok hn rl1
            subst e2
            subst ev1
            obtain ⟨z, g1, g2, g3⟩ := fidx hi
            exact ⟨p0, _, _, i, z, rfl, rfl, SqL.of c1, fy, fs, g1, g2, g3, o1 _ Z1 H1 S1 Fp0 (Step.refl t1.wd |>.less fun a x => x.elim id False.elim) (fun _ _ x => x) er1 rfl⟩
          · exact o1.elim
        · exact o1.elim
      · exact o1.elim
  · exact o.elim
theorem E_lixF {j : Nat} {x : Str} {p2 apos cpos : Pos} (he : PE X e (tE X.K X.mg W fa)) (hj : X.N[j]? = some x := by rfl) (hv : Vis X.env.scope x := by first | exact Or.inl rfl | exact Or.inr (Or.inl rfl) | exact Or.inr (Or.inr rfl)) (hd : (x == ("__debug__" : Str)) = false := by decide) (hcd : (x == ("__classdict__" : Str)) = false := by decide)
    (hbase : attributeBase (.Name x p2) "index" X.env (eval (.Name x p2) X.env) = eval (.Name x p2) X.env := by rfl)
    (hfew : ((backTo cpos (starEach [e] X.env)).all (fun x => !x.1) && (backToKw cpos (keywordEach [] X.env)).all (fun x => x.1.isSome)
      && decide ([e].length + ([] : List Keyword).length + (if ([] : List Keyword).isEmpty then 0 else 1) < 30)) = true := by rfl)
    (hline : (apos.endLine == cpos.line) = true := by rfl) (hs : starEach [e] X.env = (false, eval e X.env) :: starEach [] X.env := by rfl) (hplain : (backTo cpos (starEach [] X.env)).any (·.1) = false := by rfl) :
    PE X (.Call (.Attribute (.Name x p2) "index" apos) [e] [] cpos) (tE X.K X.mg W (lixF j fa)) :=
  PE.of (pe_bm PySem.F.plainAttrs_list PySem.F.slot_list_index PySem.F.type_list_index mt_index (pe_var hj hv hd hcd) (pa_cons he pa_nil hs) hbase hfew hline hs hplain) fun _ _ _ q => tE_lixF q
end
end Pm
/-! PmPa: repr of data of any kind and depth, dicts too. -/
namespace Pm
open PySem PySem.Spec PyProof.Rows L2
mutual
/-- data as it is shown -/
def pd : D → Option PyData
  | .non => some .none
  | .bl b => some (.bool b)
  | .int i => some (.int i)
  | .str x => some (.str x)
  | .op _ => none
  | .node _ .lst xs => (pdL xs).map .list
  | .node _ .tup xs => (pdL xs).map .tuple
  | .node _ (.dct ks) xs => if ks.length = xs.length then (pdL xs).map fun ps => .dict ((ks.map keyP).zip ps) else none
  | .node _ _ _ => none
def pdL : List D → Option (List PyData)
  | [] => some []
  | d :: ds => match pd d, pdL ds with
    | some p, some ps => some (p :: ps)
    | _, _ => none
end
mutual
inductive PdI (K : PySem.W.Frag) (H : Hp) : V → PyData → Prop where
  | flat {v : V} : flatV v = true → PdI K H v (pyF v)
  | tup {a : Addr} {ys : List V} {ps : List PyData} : SqT K H a ys → PdIs K H ys ps → PdI K H (.ref a) (.tuple ps)
  | lst {a : Addr} {ys : List V} {ps : List PyData} : H a = some (.lst ys) → PdIs K H ys ps → PdI K H (.ref a) (.list ps)
  | dct {a : Addr} {ks : List Key} {ys : List V} {ps : List PyData} : ks.length = ys.length → H a = some (.dK (ks.zip ys)) → PdIs K H ys ps → PdI K H (.ref a) (.dict ((ks.map keyP).zip ps))
inductive PdIs (K : PySem.W.Frag) (H : Hp) : List V → List PyData → Prop where
  | nil : PdIs K H [] []
  | cons {v : V} {vs : List V} {p : PyData} {ps : List PyData} : PdI K H v p → PdIs K H vs ps → PdIs K H (v :: vs) (p :: ps)
end
mutual
theorem pd_ok {K : PySem.W.Frag} {Z H : Hp} (w : Sam Z H) : ∀ (d : D) {v : V} {p : PyData} {S : Fp}, pd d = some p → Rep K Z H d v S → PdI K H v p
  | .non, v, p, _, h, r => by cases h; cases (show v = .non from r); exact .flat rfl
  | .bl b, v, p, _, h, r => by cases h; cases (show v = .bl b from r); exact .flat rfl
  | .int i, v, p, _, h, r => by cases h; cases (show v = .int i from r); exact .flat rfl
  | .str x, v, p, _, h, r => by cases h; cases (show v = .str x from r); exact .flat rfl
  | .op _, _, _, _, h, _ => by cases h
  | .node o .lst xs, v, p, S, h, r => by
    rw [pd] at h
    obtain ⟨ps, hp, rfl⟩ := Option.map_eq_some_iff.mp h
    obtain ⟨a, ys, rfl, c, rl⟩ := rep_lst w r
    exact .lst c (pdL_ok w xs hp rl)
  | .node o .tup xs, v, p, S, h, r => by
    rw [pd] at h
    obtain ⟨ps, hp, rfl⟩ := Option.map_eq_some_iff.mp h
    obtain ⟨a, ys, rfl, c, rl⟩ := rep_tup w r
    exact .tup c (pdL_ok w xs hp rl)
  | .node o (.dct ks) xs, v, p, S, h, r => by
    rw [pd] at h
    split at h
    · rename_i hl
      obtain ⟨ps, hp, rfl⟩ := Option.map_eq_some_iff.mp h
      cases o with
      | false =>
        obtain ⟨a, ys, rfl, c, rl⟩ := r
        exact .dct c.1 (w.get _ _ c.2 nt_dK) (pdL_ok w xs hp rl)
      | true =>
        obtain ⟨a, ys, S', rfl, c, sa, na, sub, rl⟩ := r
        exact .dct c.1 c.2 (pdL_ok w xs hp rl)
    · cases h
  | .node _ .scr _, _, _, _, h, _ => by cases h
  | .node _ (.obj _ _) _, _, _, _, h, _ => by cases h
  | .node _ (.ins _ _) _, _, _, _, h, _ => by cases h
theorem pdL_ok {K : PySem.W.Frag} {Z H : Hp} (w : Sam Z H) : ∀ (ds : List D) {vs : List V} {ps : List PyData} {S : Fp}, pdL ds = some ps → RepL K Z H ds vs S → PdIs K H vs ps
  | [], [], _, _, h, _ => by cases h; exact .nil
  | [], _ :: _, _, _, _, r => r.elim
  | _ :: _, [], _, _, _, r => r.elim
  | d :: ds, v :: vs, ps, _, h, ⟨_, _, _, _, _, r, q⟩ => by
    rw [pdL] at h
    split at h
    · rename_i p ps' h1 h2
      cases h
      exact .cons (pd_ok w d h1 r) (pdL_ok w ds h2 q)
    · cases h
end
section
variable {X : Cx} {pins : List (Addr × Obj)} {σ : L2.St} {H : Hp} {s : Shared}
theorem pairs_read {h : Heap} : ∀ {ks : List Key} {ys : List V} {vs : List (Key × Value)} {us : List Value} {ps : List PyData} {as : List Addr}, KV (ks.zip ys) vs → ks.length = ys.length →
    us = vs.map (·.2) → ReadsAll h us ps as → PyProof.V.PairsRead h keyP vs ((ks.map keyP).zip ps) as
  | [], [], _, _, _, _, r, _, e, q => by
    cases r
    cases e
    cases q
    exact .nil
  | [], _ :: _, _, _, _, _, _, l, _, _ => by simp at l
  | _ :: _, [], _, _, _, _, _, l, _, _ => by simp at l
  | k :: ks, y :: ys, _, us, ps, as, r, l, e, q => by
    cases r with
    | @cons a b as' bs h1 h2 =>
      obtain ⟨k', u⟩ := b
      obtain ⟨e1, ru⟩ := h1
      cases e1
      subst e
      cases q with
      | cons q1 q2 => exact .cons q1 (pairs_read h2 (by simpa using l) rfl q2)
theorem kv_vals : ∀ {ks : List Key} {ys : List V} {vs : List (Key × Value)}, KV (ks.zip ys) vs → ks.length = ys.length → Vals ys (vs.map (·.2))
  | [], [], _, r, _ => by cases r; exact .nil
  | [], _ :: _, _, _, l => by simp at l
  | _ :: _, [], _, _, l => by simp at l
  | k :: ks, y :: ys, _, r, l => by
    cases r with
    | @cons a b as' bs h1 h2 => exact .cons h1.2 (kv_vals h2 (by simpa using l))
mutual
theorem pdi_read (I : Inv X pins σ H s) : ∀ {v : V} {p : PyData} {u : Value}, PdI X.K H v p → RelV v u → ∃ as, Reads s.heap u p as
  | _, _, _, .flat f, r => ⟨[], reads_flat f r⟩
  | _, _, _, .tup c q, r => by
    cases r
    obtain ⟨its, rv, ⟨o, ho, hc, n, hd⟩, _⟩ := I.tuple c
    obtain ⟨as, h1⟩ := pdis_read I q rv
    exact ⟨as, .tuple ho hc hd (by simpa using h1)⟩
  | _, _, _, .lst (a := a) c q, r => by
    cases r
    obtain ⟨its, rv, ⟨o, n, ho, hc, hdn, hd⟩, hs⟩ := I.list (SqL.of (K := X.K) c)
    obtain ⟨as, h1⟩ := pdis_read I q rv
    exact ⟨a :: as, .list ho hc hd (by simpa using h1)⟩
  | _, _, _, .dct (a := a) l c q, r => by
    cases r
    obtain ⟨_, hd, vs, rel, dd⟩ := dk_rd I.hok (.inl c)
    obtain ⟨as, h1⟩ := pdis_read I q (kv_vals rel l)
    exact ⟨a :: as, PyProof.V.reads_dictOf (fun k key hk => by
      rcases keyIs_shape (show keyIs k key = true from hk) with ⟨i, t, rfl, rfl⟩ | ⟨x, t, rfl, rfl⟩
      · exact .int i t
      · exact .str x t) dd (pairs_read rel l rfl h1)⟩
theorem pdis_read (I : Inv X pins σ H s) : ∀ {vs : List V} {ps : List PyData} {us : List Value}, PdIs X.K H vs ps → Vals vs us → ∃ as, ReadsAll s.heap us ps as
  | _, _, _, .nil, .nil => ⟨[], .nil⟩
  | _, _, _, .cons h t, .cons r q => by
    obtain ⟨as, h1⟩ := pdi_read I h r
    obtain ⟨bs, h3⟩ := pdis_read I t q
    exact ⟨as ++ bs, .cons h1 h3⟩
end
theorem pairs_vals {prog : Program} {w : World} {K : Type} [DecidableEq K] {knd : KeyKind prog w K} : ∀ {es : List DictEntry} {kvs : List (K × Value)}, Pairs knd es kvs → es.map (·.val) = kvs.map (·.2)
  | _, _, .nil => rfl
  | _, _, .cons _ e r => by rw [List.map_cons, List.map_cons, e, pairs_vals r]
/-- what is read of a dict, apart -/
theorem dict_parts (I : Inv X pins σ H s) {a : Addr} {ks : List Key} {ys : List V} {ps : List PyData} (l : ks.length = ys.length) (c : H a = some (.dK (ks.zip ys))) (q : PdIs X.K H ys ps) :
    (a == sysModules) = false ∧ ∃ (o : Obj) (es : Array DictEntry) (n : Nat) (vs : List Value) (as bs : List Addr), s.heap.get? a = some o ∧ o.cls = .type "dict" ∧ o.data = .dict es n ∧ ReadsAll s.heap (es.toList.map (·.key)) (((ks.map keyP).zip ps).map (·.1)) [] ∧
      es.toList.map (·.val) = vs ∧ Vals ys vs ∧ ReadsAll s.heap vs (((ks.map keyP).zip ps).map (·.2)) bs := by
  obtain ⟨_, hd, vs, rel, dd⟩ := dk_rd I.hok (.inl c)
  have hv := kv_vals rel l
  obtain ⟨as, h1⟩ := pdis_read I q hv
  have pr := pairs_read rel l rfl h1
  obtain ⟨o, es, n, g1, g2, g3, _, g4, _⟩ := dd
  have kk : ∀ (k : Key) (key : Value), (mixKind X.prog X.w).is k key = true → Reads s.heap key (keyP k) [] := fun k key hk => by
    rcases keyIs_shape (show keyIs k key = true from hk) with ⟨i, t, rfl, rfl⟩ | ⟨x, t, rfl, rfl⟩
    · exact .int i t
    · exact .str x t
  have two := PyProof.V.readsAll_of_pairs kk g4 pr
  have ev : es.toList.map (·.val) = vs.map (·.2) := pairs_vals g4
  rw [ev] at two
  exact ⟨hd, o, es, n, vs.map (·.2), as, as, g1, g2.1, g3, two.1, ev, hv, two.2⟩
theorem keysP_show : ∀ (ks : List Key) (ps : List PyData), PyData.showableKv ((ks.map keyP).zip ps) = true → PyData.showableAll (((ks.map keyP).zip ps).map (·.1)) = true ∧ PyData.showableAll (((ks.map keyP).zip ps).map (·.2)) = true
  | ks, ps, h => PyData.showableKv_split _ h
theorem zip_snd : ∀ {α β : Type} (ks : List α) (ps : List β), ks.length = ps.length → (ks.zip ps).map (·.2) = ps := fun ks ps h => by
  rw [List.map_snd_zip]
  omega
theorem pdis_len {K : PySem.W.Frag} : ∀ {ys : List V} {ps : List PyData}, PdIs K H ys ps → ys.length = ps.length
  | _, _, .nil => rfl
  | _, _, .cons _ t => by rw [List.length_cons, List.length_cons, pdis_len t]
mutual
theorem pdi_repr (I : Inv X pins σ H s) : ∀ {v : V} {p : PyData} {u : Value}, PdI X.K H v p → RelV v u → p.showable = true → p.shown.length ≤ sizeLine → ∃ bs, ReadAtMost s.heap p.depth bs ∧ ReprK X.prog X.w bs s.heap p.depth u p.shown
  | _, _, _, .flat f, r, hs, hz => ReprK.of_reads (reads_flat f r) hs (fun _ => by simp) hz
  | _, _, _, .tup (ps := ps) c q, r, hs, hz => by
    obtain ⟨as, rd⟩ := pdi_read I (.tup c q) r
    cases r
    obtain ⟨its, rv, ⟨o, ho, hc, n, hd⟩, _⟩ := I.tuple c
    obtain ⟨bs, b1, b2⟩ := pdis_repr I q rv (by simpa [PyData.showable] using hs) fun t ht => Nat.le_trans (tupleText_mem_le ht) (by simpa only [PyData.shown] using hz)
    refine ⟨_ :: bs, ReadAtMost.cons rd (by simp only [PyData.depth]; omega) b1, ?_⟩
    have far := not_mem_of_deeper rd (n := PyData.depthAll ps) (by simp only [PyData.depth]; omega) b1
    simp only [PyData.depth, PyData.shown]
    exact ReprK.tuple ho hc hd far (by simpa using b2)
  | _, _, _, .lst (ps := ps) c q, r, hs, hz => by
    obtain ⟨as, rd⟩ := pdi_read I (.lst c q) r
    cases r
    obtain ⟨its, rv, ⟨o, n, ho, hc, hdn, hd⟩, _⟩ := I.list (SqL.of (K := X.K) c)
    obtain ⟨bs, b1, b2⟩ := pdis_repr I q rv (by simpa [PyData.showable] using hs) fun t ht => Nat.le_trans (listText_mem_le ht) (by simpa only [PyData.shown] using hz)
    refine ⟨_ :: bs, ReadAtMost.cons rd (by simp only [PyData.depth]; omega) b1, ?_⟩
    have far := not_mem_of_deeper rd (n := PyData.depthAll ps) (by simp only [PyData.depth]; omega) b1
    simp only [PyData.depth, PyData.shown]
    cases its with
    | nil =>
      have ln := b2.length_eq
      cases hps : ps with
      | nil =>
        simp only [PyData.shownAll, listText_nil]
        exact ReprK.listEmpty ho hc hd
      | cons p1 p2 => rw [hps] at ln; simp [PyData.shownAll] at ln
    | cons u us => exact ReprK.list ho hc hd far (by simpa using b2.length_eq) fun i y e => b2.item i y (by simpa using e)
  | _, _, _, .dct (ks := ks) (ys := ys) (ps := ps) l c q, r, hs, hz => by
    obtain ⟨as, rd⟩ := pdi_read I (.dct l c q) r
    cases r
    obtain ⟨hm, o, es, n, vs, _, bs, g1, g2, g3, g4, g5, g6, g7⟩ := dict_parts I l c q
    have hl : (ks.map keyP).length = ps.length := by rw [List.length_map, l, pdis_len q]
    obtain ⟨s1, s2⟩ := keysP_show ks ps (by simpa [PyData.showable] using hs)
    rw [zip_snd _ _ hl] at s2
    have hz' : (dictText (PyData.shownKv ((ks.map keyP).zip ps))).length ≤ sizeLine := by simpa only [PyData.shown] using hz
    obtain ⟨c1, d1, e1⟩ := ReprAllK.of_readsAll (prog := X.prog) (w := X.w) g4 s1 (fun _ => by simp) fun t ht => by
      obtain ⟨p, hp, q1⟩ := PyData.shownKv_key_le _ t ht
      exact Nat.le_trans q1 (Nat.le_trans (dictText_mem_le hp) hz')
    obtain ⟨c2, d2, e2⟩ := pdis_repr I q g6 s2 fun t ht => by
      obtain ⟨p, hp, q1⟩ := PyData.shownKv_val_le ((ks.map keyP).zip ps) t (by rw [zip_snd _ _ hl]; exact ht)
      exact Nat.le_trans q1 (Nat.le_trans (dictText_mem_le hp) hz')
    have le1 : PyData.depthAll (((ks.map keyP).zip ps).map (·.1)) ≤ PyData.depthKv ((ks.map keyP).zip ps) := PyData.depthAll_keys_le _
    have le2 : PyData.depthAll ps ≤ PyData.depthKv ((ks.map keyP).zip ps) := by
      have := PyData.depthAll_vals_le ((ks.map keyP).zip ps)
      rwa [zip_snd _ _ hl] at this
    have both : ReadAtMost s.heap (PyData.depthKv ((ks.map keyP).zip ps)) (c1 ++ c2) := ReadAtMost.append (d1.mono le1) (d2.mono le2)
    have far := not_mem_of_deeper rd (n := PyData.depthKv ((ks.map keyP).zip ps)) (by simp only [PyData.depth]; omega) both
    refine ⟨_ :: (c1 ++ c2), ReadAtMost.cons rd (by simp only [PyData.depth]; omega) both, ?_⟩
    have two := ReprEntriesK.of_two es.toList _ _ (e1.more_le (fun b hb => List.mem_append_left c2 hb) le1) (by
      rw [g5]
      exact e2.more_le (fun b hb => List.mem_append_right c1 hb) le2)
    have sh : PyData.shownKv ((ks.map keyP).zip ps) = List.zipWith (fun k v : Str => k ++ ": " ++ v) (PyData.shownAll (((ks.map keyP).zip ps).map (·.1))) (PyData.shownAll ps) := by
      rw [PyData.shownKv_eq, zip_snd _ _ hl]
    simp only [PyData.depth, PyData.shown]
    rw [sh]
    exact ReprK.dict g1 g2 g3 hm far two
theorem pdis_repr (I : Inv X pins σ H s) : ∀ {vs : List V} {ps : List PyData} {us : List Value}, PdIs X.K H vs ps → Vals vs us → PyData.showableAll ps = true → (∀ t ∈ PyData.shownAll ps, t.length ≤ sizeLine) → ∃ bs, ReadAtMost s.heap (PyData.depthAll ps) bs ∧ ReprAllK X.prog X.w bs s.heap (PyData.depthAll ps) us (PyData.shownAll ps)
  | _, _, _, .nil, .nil, _, _ => ⟨[], fun _ h => (nomatch h), by simp only [PyData.shownAll]; exact .nil⟩
  | _, _, _, .cons (p := p) (ps := ps) h t, .cons r q, hs, hz => by
    have hs' : p.showable = true ∧ PyData.showableAll ps = true := by simpa [PyData.showableAll] using hs
    obtain ⟨b1, r1, k1⟩ := pdi_repr I h r hs'.1 (hz _ (by simp [PyData.shownAll]))
    obtain ⟨b2, r2, k2⟩ := pdis_repr I t q hs'.2 fun t ht => hz t (by simp [PyData.shownAll, ht])
    have m1 : p.depth ≤ PyData.depthAll (p :: ps) := by simp only [PyData.depthAll]; omega
    have m2 : PyData.depthAll ps ≤ PyData.depthAll (p :: ps) := by simp only [PyData.depthAll]; omega
    refine ⟨b1 ++ b2, ReadAtMost.append (r1.mono m1) (r2.mono m2), ?_⟩
    simp only [PyData.shownAll]
    exact .cons ((k1.more fun b hb => List.mem_append_left b2 hb).level_le m1) (k2.more_le (fun b hb => List.mem_append_right b1 hb) m2)
end
def rReprG (K : PySem.W.Frag) : List V → Hp → VK → Prop := fun xs H Q => ∃ (a : Addr) (p : PyData), xs = [.ref a] ∧ PdI K H (.ref a) p ∧ PyData.showable p = true ∧ PyData.depth p ≤ 60 ∧ (PyData.shown p).length ≤ sizeLine ∧ Q (.str (PyData.shown p)) H
/-- a thing at its address is shown by the slot of its type -/
theorem pdi_shows (I : Inv X pins σ H s) {a : Addr} {p : PyData} (h : PdI X.K H (.ref a) p) (hs : p.showable = true) (hz : p.shown.length ≤ sizeLine) : ∃ T idr, ShowsBy X.prog X.w s.heap a p T idr := by
  obtain ⟨as, rd⟩ := pdi_read I h (show RelV (.ref a) (.ref a) from rfl)
  cases h with
  | flat f => cases f
  | @tup _ ys ps c q =>
    obtain ⟨its, rv, ⟨o, ho, hc, n, hd⟩, _⟩ := I.tuple c
    obtain ⟨bs, b1, b2⟩ := pdis_repr I q rv (by simpa [PyData.showable] using hs) fun t ht => Nat.le_trans (tupleText_mem_le ht) (by simpa only [PyData.shown] using hz)
    have far := not_mem_of_deeper rd (n := PyData.depthAll ps) (by simp only [PyData.depth]; omega) b1
    refine ⟨"tuple", "tuple.__repr__", F.slot_tuple_repr, F.slot_tuple_str, F.slot_tuple_format, fun s' k0 => ⟨o, k0 _ _ ho, hc⟩, fun A E s' Q g1 g2 g3 g4 => ?_⟩
    simp only [PyData.depth] at g2
    simp only [PyData.shown] at g4 hz
    exact call_tuple_reprK ho hc hd far (by simpa using b2) g1 (fun b _ => Clear.nil b) g2 g3 g4 hz
  | @lst _ ys ps c q =>
    obtain ⟨its, rv, ⟨o, n, ho, hc, hdn, hd⟩, _⟩ := I.list (SqL.of (K := X.K) c)
    obtain ⟨bs, b1, b2⟩ := pdis_repr I q rv (by simpa [PyData.showable] using hs) fun t ht => Nat.le_trans (listText_mem_le ht) (by simpa only [PyData.shown] using hz)
    have far := not_mem_of_deeper rd (n := PyData.depthAll ps) (by simp only [PyData.depth]; omega) b1
    refine ⟨"list", "list.__repr__", F.slot_list_repr.toG, F.slot_list_str, F.slot_list_format, fun s' k0 => ⟨o, k0 _ _ ho, hc⟩, fun A E s' Q g1 g2 g3 g4 => ?_⟩
    simp only [PyData.depth] at g2
    simp only [PyData.shown] at g4 hz
    cases its with
    | nil =>
      have ln := b2.length_eq
      cases hps : ps with
      | nil =>
        rw [hps] at g4
        simp only [PyData.shownAll, listText_nil] at g4
        exact call_list_repr_empty ⟨o, g3 _ _ ho, hc⟩ (g3 _ _ ho) hd (g4 s'.heap _ _ fun _ _ e => e)
      | cons p1 p2 => rw [hps] at ln; simp [PyData.shownAll] at ln
    | cons u us => exact call_list_reprK ho hc hd far (by simpa using b2.length_eq) (fun i y e => b2.item i y (by simpa using e)) g1 (fun b _ => Clear.nil b) g2 g3 g4 hz
  | @dct _ ks ys ps l c q =>
    obtain ⟨hm, o, es, n, vs, _, bs, k1, k2, k3, k4, k5, k6, k7⟩ := dict_parts I l c q
    have hl : (ks.map keyP).length = ps.length := by rw [List.length_map, l, pdis_len q]
    obtain ⟨s1, s2⟩ := keysP_show ks ps (by simpa [PyData.showable] using hs)
    rw [zip_snd _ _ hl] at s2
    have hz' : (dictText (PyData.shownKv ((ks.map keyP).zip ps))).length ≤ sizeLine := by simpa only [PyData.shown] using hz
    obtain ⟨c1, d1, e1⟩ := ReprAllK.of_readsAll (prog := X.prog) (w := X.w) k4 s1 (fun _ => by simp) fun t ht => by
      obtain ⟨p, hp, q1⟩ := PyData.shownKv_key_le _ t ht
      exact Nat.le_trans q1 (Nat.le_trans (dictText_mem_le hp) hz')
    obtain ⟨c2, d2, e2⟩ := pdis_repr I q k6 s2 fun t ht => by
      obtain ⟨p, hp, q1⟩ := PyData.shownKv_val_le ((ks.map keyP).zip ps) t (by rw [zip_snd _ _ hl]; exact ht)
      exact Nat.le_trans q1 (Nat.le_trans (dictText_mem_le hp) hz')
    have le1 : PyData.depthAll (((ks.map keyP).zip ps).map (·.1)) ≤ PyData.depthKv ((ks.map keyP).zip ps) := PyData.depthAll_keys_le _
    have le2 : PyData.depthAll ps ≤ PyData.depthKv ((ks.map keyP).zip ps) := by
      have := PyData.depthAll_vals_le ((ks.map keyP).zip ps)
      rwa [zip_snd _ _ hl] at this
    have both : ReadAtMost s.heap (PyData.depthKv ((ks.map keyP).zip ps)) (c1 ++ c2) := ReadAtMost.append (d1.mono le1) (d2.mono le2)
    have far := not_mem_of_deeper rd (n := PyData.depthKv ((ks.map keyP).zip ps)) (by simp only [PyData.depth]; omega) both
    have two := ReprEntriesK.of_two es.toList _ _ (e1.more_le (fun b hb => List.mem_append_left c2 hb) le1) (by
      rw [k5]
      exact e2.more_le (fun b hb => List.mem_append_right c1 hb) le2)
    have sh : PyData.shownKv ((ks.map keyP).zip ps) = List.zipWith (fun k v : Str => k ++ ": " ++ v) (PyData.shownAll (((ks.map keyP).zip ps).map (·.1))) (PyData.shownAll ps) := by
      rw [PyData.shownKv_eq, zip_snd _ _ hl]
    refine ⟨"dict", "dict.__repr__", F.slot_dict_repr, F.slot_dict_str, F.slot_dict_format, fun s' k0 => ⟨o, k0 _ _ k1, k2⟩, fun A E s' Q g1 g2 g3 g4 => ?_⟩
    simp only [PyData.depth] at g2
    simp only [PyData.shown] at g4
    rw [sh] at g4 hz'
    exact call_dict_reprK k1 k2 k3 hm far two g1 (fun b _ => Clear.nil b) g2 g3 g4 hz'
theorem call_reprG (hg : X.A.guards = some []) (hu : X.A.units + 64 < cLine) : CallR X (.builtin "repr") (rReprG X.K) := by
  intro pins s σ H xs us Q I r h
  obtain ⟨a, p, rfl, hi, hs, hp, hz, q⟩ := h
  obtain ⟨u, rfl, rx⟩ := vals1 r
  cases rx
  obtain ⟨T, idr, S⟩ := pdi_shows I hi hs hz
  exact call_repr_slot (by omega) (S.typeIs s fun _ _ e => e) S.slotRepr (S.call X.A.in1 _ s _ hg (by show X.A.units + 1 + _ < cLine; omega) (fun _ _ e => e) fun h' u tk k => ⟨_, _, rfl, ⟨.str _, H, I.kept k, ⟨_, rfl⟩, q⟩⟩)
def rReprC (K : PySem.W.Frag) : List V → Hp → VK → Prop := fun xs H Q => rReprA K xs H Q ∨ rReprG K xs H Q
theorem call_reprC (hg : X.A.guards = some []) (hu : X.A.units + 64 < cLine) : CallR X (.builtin "repr") (rReprC X.K) := by
  intro pins s σ H xs us Q I r h
  rcases h with h | h
  · exact call_reprB hg hu pins s σ H xs us Q I r h
  · exact call_reprG hg hu pins s σ H xs us Q I r h
end
/-- repr of data of any kind and depth -/
noncomputable def opReprC : List D → Option D
  | [.node o k xs] => match pd (.node o k xs) with
    | some p => if PyData.showable p = true ∧ PyData.depth p ≤ 60 ∧ (PyData.shown p).length ≤ cap then some (.str (PyData.shown p)) else none
    | none => none
  | ds => opReprA ds
section
variable {X : Cx}
theorem snd_reprC : Snd X (rReprC X.K) opReprC := by
  intro Z H S ds vs d Q w rb e k
  unfold opReprC at e
  split at e
  · rename_i o kk xs
    refine .inr ?_
    refine snd_pure (r := rReprG X.K) (g := fun ds => match ds with
      | [.node o k xs] => (match pd (.node o k xs) with
        | some p => if PyData.showable p = true ∧ PyData.depth p ≤ 60 ∧ (PyData.shown p).length ≤ cap then some (.str (PyData.shown p)) else none
        | none => none)
      | _ => none) (fun Z H S ds vs d Q w rb e k => ?_) Z H S _ vs d Q w rb e k
    split at e
    · rename_i o kk xs
      split at e
      · rename_i p hp
        split at e
        · rename_i c
          obtain ⟨c1, c2, c3⟩ := c
          obtain ⟨v, rfl, rv⟩ := rb1 rb
          cases e
          have hi := pd_ok w.same _ hp rv
          obtain ⟨a, rfl⟩ : ∃ a, v = .ref a := by
            cases o with
            | false => obtain ⟨a, ys, e, _⟩ := rv; exact ⟨a, e⟩
            | true => obtain ⟨a, ys, S', e, _⟩ := rv; exact ⟨a, e⟩
          exact ⟨a, p, rfl, hi, c1, c2, cap_le c3, k _ rfl⟩
        · cases e
      · cases e
    · cases e
  · exact .inl (snd_reprA Z H S _ vs d Q w rb e k)
end
end Pm
/-! PmPb: things of any kind, small: how deep they are, what they weigh, how they are shown. -/
namespace Pm
open PySem PySem.Spec PyProof.Rows L2
def okK : Key → Bool
  | .inl i => decide (i.natAbs.log2 < 200)
  | .inr x => x.cps.toList.all fun c => decide (c < 128)
def wtK : List Key → Nat
  | [] => 0
  | .inl _ :: r => 1 + wtK r
  | .inr x :: r => x.cps.size + 1 + wtK r

mutual
def okD (B : Nat) : D → Bool
  | .non => true
  | .bl _ => true
  | .int i => decide (i.natAbs ≤ B)
  | .str x => x.cps.toList.all fun c => decide (c < 128)
  | .op _ => false
  | .node _ .lst xs => okL B xs
  | .node _ .tup xs => okL B xs
  | .node _ (.dct ks) xs => decide (ks.length = xs.length) && (ks.all okK && okL B xs)
  | .node _ _ _ => false
def okL (B : Nat) : List D → Bool
  | [] => true
  | d :: ds => okD B d && okL B ds
end
mutual
def dpD : D → Nat
  | .node _ _ xs => dpL xs + 1
  | _ => 0
def dpL : List D → Nat
  | [] => 0
  | d :: ds => max (dpD d) (dpL ds)
end
mutual
def wtD : D → Nat
  | .str x => x.cps.size
  | .node _ (.dct ks) xs => wtK ks + wtL xs
  | .node _ _ xs => wtL xs
  | _ => 0
def wtL : List D → Nat
  | [] => 0
  | d :: ds => wtD d + 1 + wtL ds
end
theorem okL_all {B : Nat} : ∀ {xs : List D}, okL B xs = true ↔ ∀ x ∈ xs, okD B x = true
  | [] => by simp [okL]
  | x :: xs => by rw [okL, Bool.and_eq_true, okL_all]; simp
theorem dpL_le {n : Nat} : ∀ {xs : List D}, dpL xs ≤ n ↔ ∀ x ∈ xs, dpD x ≤ n
  | [] => by simp [dpL]
  | x :: xs => by rw [dpL]; simp only [List.mem_cons, forall_eq_or_imp, ← dpL_le (xs := xs)]; omega
theorem wtL_app : ∀ (xs ys : List D), wtL (xs ++ ys) = wtL xs + wtL ys
  | [], ys => by rw [wtL]; simp
  | x :: xs, ys => by rw [List.cons_append, wtL, wtL, wtL_app xs ys]; omega
theorem wtL_mem {x : D} : ∀ {xs : List D}, x ∈ xs → wtD x + 1 ≤ wtL xs
  | y :: ys, h => by
    rw [wtL]
    rcases List.mem_cons.mp h with h | h
    · subst h; omega
    · have := wtL_mem h; omega
theorem wtL_len : ∀ (xs : List D), xs.length ≤ wtL xs
  | [] => Nat.zero_le _
  | x :: xs => by rw [wtL, List.length_cons]; have := wtL_len xs; omega
theorem wtL_take (xs : List D) (k : Nat) : wtL (xs.take k) + wtL (xs.drop k) = wtL xs := by rw [← wtL_app, List.take_append_drop]
theorem wtL_le {c : Nat} : ∀ {xs : List D}, (∀ x ∈ xs, wtD x ≤ c) → wtL xs ≤ xs.length * (c + 1)
  | [], _ => by rw [wtL]; exact Nat.zero_le _
  | x :: xs, h => by
    rw [wtL, List.length_cons, Nat.add_mul]
    have := h x List.mem_cons_self
    have := wtL_le (xs := xs) fun y hy => h y (List.mem_cons_of_mem _ hy)
    omega
theorem wtL_rev : ∀ (xs : List D), wtL xs.reverse = wtL xs
  | [] => rfl
  | x :: xs => by rw [List.reverse_cons, wtL_app, wtL_rev xs, wtL, wtL, wtL]; omega
mutual
theorem okD_frz {B : Nat} : ∀ d : D, okD B d.frz = okD B d
  | .non => rfl
  | .bl _ => rfl
  | .int _ => rfl
  | .str _ => rfl
  | .op _ => rfl
  | .node o .lst xs => by rw [D.frz, okD, okD, okL_frz xs]
  | .node o .tup xs => by rw [D.frz, okD, okD, okL_frz xs]
  | .node o (.dct ks) xs => by rw [D.frz, okD, okD, okL_frz xs, frzL_map, List.length_map]
  | .node o .scr xs => by rw [D.frz]; simp [okD]
  | .node o (.obj _ _) xs => by rw [D.frz]; simp [okD]
  | .node o (.ins _ _) xs => by rw [D.frz]; simp [okD]
theorem okL_frz {B : Nat} : ∀ ds : List D, okL B (frzL ds) = okL B ds
  | [] => rfl
  | d :: ds => by rw [frzL, okL, okL, okD_frz d, okL_frz ds]
end
mutual
theorem dpD_frz : ∀ d : D, dpD d.frz = dpD d
  | .non => rfl
  | .bl _ => rfl
  | .int _ => rfl
  | .str _ => rfl
  | .op _ => rfl
  | .node o k xs => by rw [D.frz, dpD, dpD, dpL_frz xs]
theorem dpL_frz : ∀ ds : List D, dpL (frzL ds) = dpL ds
  | [] => rfl
  | d :: ds => by rw [frzL, dpL, dpL, dpD_frz d, dpL_frz ds]
end
mutual
theorem wtD_frz : ∀ d : D, wtD d.frz = wtD d
  | .non => rfl
  | .bl _ => rfl
  | .int _ => rfl
  | .str _ => rfl
  | .op _ => rfl
  | .node o .lst xs => by rw [D.frz, wtD, wtD, wtL_frz xs] <;> simp
  | .node o .tup xs => by rw [D.frz, wtD, wtD, wtL_frz xs] <;> simp
  | .node o (.dct ks) xs => by rw [D.frz, wtD, wtD, wtL_frz xs]
  | .node o .scr xs => by rw [D.frz, wtD, wtD, wtL_frz xs] <;> simp
  | .node o (.obj _ _) xs => by rw [D.frz, wtD, wtD, wtL_frz xs] <;> simp
  | .node o (.ins _ _) xs => by rw [D.frz, wtD, wtD, wtL_frz xs] <;> simp
theorem wtL_frz : ∀ ds : List D, wtL (frzL ds) = wtL ds
  | [] => rfl
  | d :: ds => by rw [frzL, wtL, wtL, wtD_frz d, wtL_frz ds]
end
theorem int_log {i : Int} {B : Nat} (hB : B < 2 ^ 199) (h : i.natAbs ≤ B) : i.natAbs.log2 < 200 := by
  by_cases h0 : i.natAbs = 0
  · rw [h0]; decide
  · exact (Nat.log2_lt h0).mpr (by omega)
mutual
theorem okD_mono {B C : Nat} (hl : B ≤ C) : ∀ d : D, okD B d = true → okD C d = true
  | .non, _ => rfl
  | .bl _, _ => rfl
  | .int i, h => by
    have h' : i.natAbs ≤ B := by simpa [okD] using h
    rw [okD]
    exact decide_eq_true (Nat.le_trans h' hl)
  | .str _, h => h
  | .op _, h => by simp [okD] at h
  | .node o .lst xs, h => by rw [okD] at h ⊢; exact okL_mono hl xs h
  | .node o .tup xs, h => by rw [okD] at h ⊢; exact okL_mono hl xs h
  | .node o (.dct ks) xs, h => by
    rw [okD, Bool.and_eq_true, Bool.and_eq_true] at h ⊢
    exact ⟨h.1, h.2.1, okL_mono hl xs h.2.2⟩
  | .node _ .scr _, h => by simp [okD] at h
  | .node _ (.obj _ _) _, h => by simp [okD] at h
  | .node _ (.ins _ _) _, h => by simp [okD] at h
theorem okL_mono {B C : Nat} (hl : B ≤ C) : ∀ ds : List D, okL B ds = true → okL C ds = true
  | [], _ => rfl
  | d :: ds, h => by
    rw [okL, Bool.and_eq_true] at h ⊢
    exact ⟨okD_mono hl d h.1, okL_mono hl ds h.2⟩
end
/-- what is shown of a thing -/
def Pdk (p : PyData) (n w : Nat) : Prop := p.showable = true ∧ p.leavesShort 201 = true ∧ p.depth = n ∧ p.bulk = w
def PdkL (ps : List PyData) (n w : Nat) : Prop := PyData.showableAll ps = true ∧ PyData.leavesShortAll 201 ps = true ∧ PyData.depthAll ps = n ∧ PyData.bulkAll ps = w
theorem pdk_str {x : Str} (h : (x.cps.toList.all fun c => decide (c < 128)) = true) : PyData.leavesShort 201 (.str x) = true := by
  rw [PyData.leavesShort, List.all_eq_true]
  intro c hc
  have := List.all_eq_true.mp h c hc
  simp only [decide_eq_true_eq] at this ⊢
  exact Nat.lt_trans this (by decide)
theorem pdk_key {k : Key} (h : okK k = true) : PyData.showable (keyP k) = true ∧ PyData.leavesShort 201 (keyP k) = true ∧ PyData.depth (keyP k) = 0 := by
  cases k with
  | inl i =>
    have h' : i.natAbs.log2 < 200 := by simpa [okK] using h
    refine ⟨?_, ?_, by rw [keyP, PyData.depth]⟩
    · rw [keyP, PyData.showable]; exact decide_eq_true (Nat.lt_trans h' (by decide))
    · rw [keyP, PyData.leavesShort]; exact decide_eq_true (int_short h')
  | inr x => exact ⟨by rw [keyP, PyData.showable], by rw [keyP]; exact pdk_str h, by rw [keyP, PyData.depth]⟩
theorem pdk_kv : ∀ {ks : List Key} {ps : List PyData} {n w : Nat}, ks.length = ps.length → ks.all okK = true → PdkL ps n w →
    PyData.showableKv ((ks.map keyP).zip ps) = true ∧ PyData.leavesShortKv 201 ((ks.map keyP).zip ps) = true ∧ PyData.depthKv ((ks.map keyP).zip ps) = n ∧ PyData.bulkKv ((ks.map keyP).zip ps) = wtK ks + w
  | [], [], n, w, _, _, ⟨_, _, h3, h4⟩ => ⟨rfl, rfl, h3, by rw [wtK, Nat.zero_add]; exact h4⟩
  | [], _ :: _, _, _, h, _, _ => by simp at h
  | _ :: _, [], _, _, h, _, _ => by simp at h
  | k :: ks, p :: ps, n, w, h, hk, ⟨h1, h2, h3, h4⟩ => by
    rw [List.all_cons, Bool.and_eq_true] at hk
    rw [PyData.showableAll, Bool.and_eq_true] at h1
    rw [PyData.leavesShortAll, Bool.and_eq_true] at h2
    rw [PyData.depthAll] at h3
    rw [PyData.bulkAll] at h4
    obtain ⟨i1, i2, i3, i4⟩ := pdk_kv (ks := ks) (ps := ps) (by simpa using h) hk.2 ⟨h1.2, h2.2, rfl, rfl⟩
    obtain ⟨k1, k2, k3⟩ := pdk_key hk.1
    refine ⟨?_, ?_, ?_, ?_⟩
    · rw [List.map_cons, List.zip_cons_cons, PyData.showableKv, k1, h1.1, i1]; rfl
    · rw [List.map_cons, List.zip_cons_cons, PyData.leavesShortKv, k2, h2.1, i2]; rfl
    · rw [List.map_cons, List.zip_cons_cons, PyData.depthKv, k3, i3]; omega
    · rw [List.map_cons, List.zip_cons_cons, PyData.bulkKv, i4]
      cases k with
      | inl i => rw [wtK, keyP, PyData.bulk]; omega
      | inr x => rw [wtK, keyP, PyData.bulk]; omega
mutual
theorem ok_pd {B : Nat} (hB : B < 2 ^ 199) : ∀ d : D, okD B d = true → ∃ p, pd d = some p ∧ Pdk p (dpD d) (wtD d)
  | .non, _ => ⟨.none, rfl, rfl, rfl, rfl, rfl⟩
  | .bl b, _ => ⟨.bool b, rfl, rfl, rfl, rfl, rfl⟩
  | .int i, h => by
    have h' : i.natAbs.log2 < 200 := int_log hB (by simpa [okD] using h)
    refine ⟨.int i, rfl, ?_, ?_, rfl, rfl⟩
    · rw [PyData.showable]; exact decide_eq_true (Nat.lt_trans h' (by decide))
    · rw [PyData.leavesShort]; exact decide_eq_true (int_short h')
  | .str x, h => ⟨.str x, rfl, rfl, pdk_str h, rfl, rfl⟩
  | .op _, h => by simp [okD] at h
  | .node o .lst xs, h => by
    obtain ⟨ps, e, _, h1, h2, h3, h4⟩ := ok_pdL hB xs h
    exact ⟨.list ps, by rw [pd, e]; rfl, h1, h2, by rw [PyData.depth, dpD, h3], by rw [PyData.bulk, wtD, h4]; simp⟩
  | .node o .tup xs, h => by
    obtain ⟨ps, e, _, h1, h2, h3, h4⟩ := ok_pdL hB xs h
    exact ⟨.tuple ps, by rw [pd, e]; rfl, h1, h2, by rw [PyData.depth, dpD, h3], by rw [PyData.bulk, wtD, h4]; simp⟩
  | .node o (.dct ks) xs, h => by
    rw [okD, Bool.and_eq_true, Bool.and_eq_true, decide_eq_true_eq] at h
    obtain ⟨ps, e, hl, hh⟩ := ok_pdL hB xs h.2.2
    obtain ⟨h1, h2, h3, h4⟩ := pdk_kv (by rw [h.1, hl]) h.2.1 hh
    exact ⟨.dict ((ks.map keyP).zip ps), by rw [pd, e, if_pos h.1]; rfl, h1, h2, by rw [PyData.depth, dpD, h3], by rw [PyData.bulk, wtD, h4]⟩
  | .node _ .scr _, h => by simp [okD] at h
  | .node _ (.obj _ _) _, h => by simp [okD] at h
  | .node _ (.ins _ _) _, h => by simp [okD] at h
theorem ok_pdL {B : Nat} (hB : B < 2 ^ 199) : ∀ ds : List D, okL B ds = true → ∃ ps, pdL ds = some ps ∧ ds.length = ps.length ∧ PdkL ps (dpL ds) (wtL ds)
  | [], _ => ⟨[], rfl, rfl, rfl, rfl, rfl, rfl⟩
  | d :: ds, h => by
    rw [okL, Bool.and_eq_true] at h
    obtain ⟨p, e, h1, h2, h3, h4⟩ := ok_pd hB d h.1
    obtain ⟨ps, es, hl, i1, i2, i3, i4⟩ := ok_pdL hB ds h.2
    refine ⟨p :: ps, by rw [pdL, e, es], by rw [List.length_cons, List.length_cons, hl], ?_, ?_, ?_, ?_⟩
    · rw [PyData.showableAll, h1, i1]; rfl
    · rw [PyData.leavesShortAll, h2, i2]; rfl
    · rw [PyData.depthAll, dpL, h3, i3]
    · rw [PyData.bulkAll, wtL, h4, i4]
end
theorem reprC_A {d : D} {r : Option D} (h : ∀ o k xs, d ≠ .node o k xs) (e : opReprA [d] = r) : opReprC [d] = r := by
  cases d with
  | node o k xs => exact absurd rfl (h o k xs)
  | _ => exact e
/-- it is shown -/
theorem reprC_ok {B : Nat} {d : D} (hB : B < 2 ^ 199) (h : okD B d = true) (hn : dpD d ≤ 60) (hw : wtD d ≤ 4000) : ∃ s, opReprC [d] = some (.str s) := by
  obtain ⟨p, e, h1, h2, h3, h4⟩ := ok_pd hB d h
  have b := PyData.shown_le_bulk 201 (by decide) p h2
  cases d with
  | node o k xs =>
    refine ⟨p.shown, ?_⟩
    unfold opReprC
    simp only [e]
    rw [if_pos ⟨h1, by omega, by show _ ≤ 1000000; omega⟩]
  | non => exact ⟨_, reprC_A (by simp) (reprA_low (n := 0) (d := .non) rfl (by decide) (by decide))⟩
  | bl b => exact ⟨_, reprC_A (by simp) (reprA_low (n := 0) (d := .bl b) rfl (by decide) (by rw [mass_bl]; decide))⟩
  | int i => exact ⟨_, reprC_A (by simp) (reprA_low (n := 0) (d := .int i) (by simpa [low] using int_log hB (by simpa [okD] using h)) (by decide) (by rw [mass_int]; decide))⟩
  | str x =>
    refine ⟨_, reprC_A (by simp) (reprA_low (n := 0) (d := .str x) ?_ (by decide) (by rw [mass_str]; simpa [wtD] using hw))⟩
    show PyData.strOk x = true
    show (x.cps.all fun c => decide (c < 0x110000)) = true
    have h' : (x.cps.toList.all fun c => decide (c < 128)) = true := by simpa [okD] using h
    rw [Array.all_eq_true']
    intro c hc
    have := List.all_eq_true.mp h' c (by simpa using hc)
    simp only [decide_eq_true_eq] at this ⊢
    exact Nat.lt_trans this (by decide)
  | op v => simp [okD] at h
theorem reprC_bl (b : Bool) : opReprC [.bl b] = some (.str (reprD (.bl b))) := reprC_A (by simp) (reprA_low (n := 0) rfl (by decide) (by rw [mass_bl]; decide))
theorem ok_ty {B : Nat} {d : D} (h : okD B d = true) : (tyN d).isSome = true := by
  cases d with
  | node o k xs => cases k <;> first | rfl | simp [okD] at h
  | op v => simp [okD] at h
  | _ => rfl
/-! ### capitals of plain texts -/
def upN (c : Nat) : Nat := if 97 ≤ c ∧ c ≤ 122 then c - 32 else c
theorem up_all : ∀ c : _root_.Fin 128, Unicode.upperOf c.val = [upN c.val] := by decide +kernel
theorem upper_T {l : List Nat} (h : ∀ c ∈ l, c < 128) (hl : l.length ≤ 5592405) : opUpper [.str (T l)] = some (.str (T (l.map upN))) := by
  have e : Txt.upper (T l) = T (l.map upN) := by
    unfold Txt.upper
    have e1 : placed (T l) (fun _ c => Unicode.upperOf c) = (l.map upN).toArray := by
      unfold placed
      have e2 : (T l).cps.mapIdx (fun i c => (Unicode.upperOf c).toArray) = ((l.map fun c => [upN c]).map List.toArray).toArray := by
        apply Array.ext
        · simp [T]
        · intro i h1 h2
          have hi : i < l.length := by simpa [T] using h1
          have := up_all ⟨l[i], h _ (List.getElem_mem hi)⟩
          simp [T, this]
      rw [e2]
      apply Array.toList_inj.mp
      simp only [Array.toList_flatten, List.map_map]
      clear hl e2
      induction l with
      | nil => rfl
      | cons x xs ih => simp_all
    show (⟨placed (T l) fun _ c => Unicode.upperOf c⟩ : Str) = ⟨_⟩
    rw [e1]
  show (if (T l).length ≤ 5592405 then some (D.str (Txt.upper (T l))) else none) = _
  rw [if_pos (by rw [T_len]; exact hl), e]
theorem upN_lt {c : Nat} (h : c < 128) : upN c < 128 := by unfold upN; split <;> omega
end Pm
set_option maxHeartbeats 1000000
/-! PgT: is_table on any thing. -/
namespace Pg
open PySem PySem.Spec PyProof.Rows L2 Pm
noncomputable def b_is_letter : M Fl := (rtn (andE (app opIsi (aCons (loc 0) (aCons (con (.op (.ty "str"))) aNil))) (andE (Pm.bin opEq (app opLen (aCons (loc 0) aNil)) (con (.int 1))) (Pm.bin opIn (loc 0) (con (.str "abcdefghijklmnopqrstuvwxyz"))))))
noncomputable def x_is_letter : FSem := mkF 1 1 [] b_is_letter
noncomputable def b_is_integer : M Fl := (rtn (andE (app opIsi (aCons (loc 0) (aCons (con (.op (.ty "int"))) aNil))) (notE (app opIsi (aCons (loc 0) (aCons (con (.op (.ty "bool"))) aNil))))))
noncomputable def x_is_integer : FSem := mkF 1 1 [] b_is_integer
noncomputable def b_is_between : M Fl := (rtn (andE (callF x_is_integer (aCons (loc 0) aNil)) (chI cLe cLe (loc 1) (loc 0) (loc 2))))
noncomputable def x_is_between : FSem := mkF 3 3 [] b_is_between
noncomputable def b_is_number : M Fl := (rtn (callF x_is_between (aCons (loc 0) (aCons (Pm.un opNeg (con (.int 1000000000000))) (aCons (con (.int 1000000000000)) aNil)))))
noncomputable def x_is_number : FSem := mkF 1 1 [] b_is_number
noncomputable def b_is_row : M Fl := (seq (Pm.ite (orT (notT (tst (app opIsi (aCons (loc 0) (aCons (con (.op (.ty "tuple"))) aNil))))) (tst (Pm.bin opNe (app opLen (aCons (loc 0) aNil)) (con (.int 3))))) (rtn (con (.bl false))) sNx)
    (rtn (andE (callF x_is_letter (aCons (idx (aCons (loc 0) (aCons (con (.int 0)) aNil))) aNil)) (andE (callF x_is_number (aCons (idx (aCons (loc 0) (aCons (con (.int 1)) aNil))) aNil)) (callF x_is_number (aCons (idx (aCons (loc 0) (aCons (con (.int 2)) aNil))) aNil))))))
noncomputable def x_is_row : FSem := mkF 1 1 [] b_is_row
noncomputable def c_is_table_1 : M EV := comp [1] (srcA (loc 0)) (gN 1) yesT (callF x_is_row (aCons (loc 1) aNil))
noncomputable def c_is_table_2 : M EV := comp [1, 2] (srcZip .tup (loc 0) (cut (loc 0) (some (con (.int 1))) none)) (gT (gsC (gN 1) (gsC (gN 2) gs0)) 2) yesT (Pm.bin opLtA (idx (aCons (loc 1) (aCons (con (.int 0)) aNil))) (idx (aCons (loc 2) (aCons (con (.int 0)) aNil))))
noncomputable def b_is_table : M Fl := (seq (Pm.ite (orT (notT (tst (app opIsi (aCons (loc 0) (aCons (con (.op (.ty "tuple"))) aNil))))) (notT (tst (chI cLe cLe (con (.int 1)) (app opLen (aCons (loc 0) aNil)) (con (.int 6)))))) (rtn (con (.bl false))) sNx)
    (seq (Pm.ite (notT (tst (app opAll (aCons c_is_table_1 aNil)))) (rtn (con (.bl false))) sNx)
    (rtn (app opAll (aCons c_is_table_2 aNil)))))
noncomputable def x_is_table : FSem := mkF 1 3 [] b_is_table
/-- things at which nothing stops -/
structure Fi (B : Nat) (d : D) : Prop where
  ok : okD B d = true
  wt : wtD d ≤ 4000
theorem Fi.ty {B : Nat} {d : D} (h : Fi B d) : (tyN d).isSome = true := ok_ty h.ok
theorem Fi.str {B : Nat} {s : Str} (h : Fi B (.str s)) : s.length ≤ 1000000 := by
  have := h.wt
  rw [wtD] at this
  show s.cps.size ≤ 1000000
  omega
theorem Fi.len {B : Nat} {o : Bool} {k : Kd} {xs : List D} (h : Fi B (.node o k xs)) : xs.length ≤ 4000 := by
  have h1 := h.wt
  have h2 := wtL_len xs
  cases k <;> rw [wtD] at h1 <;> first | omega | simp
theorem Fi.tup {B : Nat} {o : Bool} {xs : List D} (h : Fi B (.node o .tup xs)) : ∀ x ∈ xs, Fi B x := fun x hx => by
  have h1 := h.ok
  have h2 := h.wt
  rw [okD] at h1
  rw [wtD] at h2
  · have := wtL_mem hx
    exact ⟨okL_all.mp h1 x hx, by omega⟩
  · simp
theorem Fi.lst {B : Nat} {o : Bool} {xs : List D} (h : Fi B (.node o .lst xs)) : ∀ x ∈ xs, Fi B x := fun x hx => by
  have h1 := h.ok
  have h2 := h.wt
  rw [okD] at h1
  rw [wtD] at h2
  · have := wtL_mem hx
    exact ⟨okL_all.mp h1 x hx, by omega⟩
  · simp
def letB : D → Bool
  | .str s => s.length == 1 && subS s (T ABC)
  | _ => false
def btwB (a b : Int) : D → Bool
  | .int n => decide (a ≤ n) && decide (n ≤ b)
  | _ => false
abbrev numB : D → Bool := btwB (-1000000000000) 1000000000000
def rowB : D → Bool
  | .node _ .tup [a, b, c] => letB a && (numB b && numB c)
  | _ => false
def hdD : D → Str
  | .node _ _ (.str s :: _) => s
  | _ => T []
def ascB : List D → Bool
  | a :: b :: r => ltS (hdD a) (hdD b) && ascB (b :: r)
  | _ => true
def tabB : D → Bool
  | .node _ .tup xs => decide (1 ≤ (xs.length : Int)) && decide ((xs.length : Int) ≤ 6) && xs.all rowB && ascB xs
  | _ => false
theorem abc_lit : (("abcdefghijklmnopqrstuvwxyz" : String) : Str) = T ABC := abc_T
theorem letter_ok {B : Nat} {d : D} (hp : d.plain = true) (h : Fi B d) : x_is_letter [d] = .ret (.bl (letB d)) [d] := by
  have t1 := isi_str h.ty
  have la := abc_lit
  cases d with
  | str s =>
    have hl' := h.str
    have e1 : opIn [.str s, .str (T ABC)] = some (.bl (subS s (T ABC))) := rfl
    unfold x_is_letter b_is_letter
    rw [la, show letB (.str s) = (s.length == 1 && subS s (T ABC)) from rfl]
    generalize subS s (T ABC) = sb at *
    generalize T ABC = TA at *
    generalize opIn = OI at *
    by_cases h : s.length = 1
    · simp [mkF, reFrz, seq, Pm.ite, rtn, mov, asg, drp, sNx, bnd, Pm.bin, Pm.un, app, aCons, aNil, idx, loc, con, Pm.ret, peek1, peeks, itemOf, on2I, iAdd, iSub, iGt, iGe, iLt, iLe, iDiv, iMod, use1, useL, gI, gN, tst, andT, orT, notT, andE, orE, notE, ifE, ixN, D.frz, D.plain, plainL, argsBack, opLen, opAbs, opInt1, opNeg, disp, cap, callF, takes, puts, selA, sel, aApp, par, gT, gsC, gs0, appF, opDivmod, frzL, plainL, t1, isStr, e1, eq_int', h]
    · have h2 : ¬ ((s.length : Int) = 1) := by omega
      simp [mkF, reFrz, seq, Pm.ite, rtn, mov, asg, drp, sNx, bnd, Pm.bin, Pm.un, app, aCons, aNil, idx, loc, con, Pm.ret, peek1, peeks, itemOf, on2I, iAdd, iSub, iGt, iGe, iLt, iLe, iDiv, iMod, use1, useL, gI, gN, tst, andT, orT, notT, andE, orE, notE, ifE, ixN, D.frz, D.plain, plainL, argsBack, opLen, opAbs, opInt1, opNeg, disp, cap, callF, takes, puts, selA, sel, aApp, par, gT, gsC, gs0, appF, opDivmod, frzL, plainL, t1, isStr, hl', e1, eq_int', h, h2]
  | node o k xs =>
    simp only [D.plain, Bool.and_eq_true, Bool.not_eq_true'] at hp
    obtain ⟨rfl, hp2⟩ := hp
    simp [x_is_letter, b_is_letter, mkF, reFrz, seq, Pm.ite, rtn, mov, asg, drp, sNx, bnd, Pm.bin, Pm.un, app, aCons, aNil, idx, loc, con, Pm.ret, peek1, peeks, itemOf, on2I, iAdd, iSub, iGt, iGe, iLt, iLe, iDiv, iMod, use1, useL, gI, gN, tst, andT, orT, notT, andE, orE, notE, ifE, ixN, D.frz, D.plain, plainL, argsBack, opLen, opAbs, opInt1, opNeg, disp, cap, callF, takes, puts, selA, sel, aApp, par, gT, gsC, gs0, appF, opDivmod, frzL, plainL, t1, isStr, letB, hp2]
  | _ => simp [x_is_letter, b_is_letter, mkF, reFrz, seq, Pm.ite, rtn, mov, asg, drp, sNx, bnd, Pm.bin, Pm.un, app, aCons, aNil, idx, loc, con, Pm.ret, peek1, peeks, itemOf, on2I, iAdd, iSub, iGt, iGe, iLt, iLe, iDiv, iMod, use1, useL, gI, gN, tst, andT, orT, notT, andE, orE, notE, ifE, ixN, D.frz, D.plain, plainL, argsBack, opLen, opAbs, opInt1, opNeg, disp, cap, callF, takes, puts, selA, sel, aApp, par, gT, gsC, gs0, appF, opDivmod, frzL, plainL, t1, isStr, letB]
theorem integer_ok {B : Nat} {d : D} (hp : d.plain = true) (h : Fi B d) : x_is_integer [d] = .ret (.bl (isWhl d && !isBl d)) [d] := by
  have t1 := isi_int h.ty
  have t2 := isi_bl h.ty
  cases d with
  | node o k xs =>
    simp only [D.plain, Bool.and_eq_true, Bool.not_eq_true'] at hp
    obtain ⟨rfl, hp2⟩ := hp
    simp [x_is_integer, b_is_integer, mkF, reFrz, seq, Pm.ite, rtn, mov, asg, drp, sNx, bnd, Pm.bin, Pm.un, app, aCons, aNil, idx, loc, con, Pm.ret, peek1, peeks, itemOf, on2I, iAdd, iSub, iGt, iGe, iLt, iLe, iDiv, iMod, use1, useL, gI, gN, tst, andT, orT, notT, andE, orE, notE, ifE, ixN, D.frz, D.plain, plainL, argsBack, opLen, opAbs, opInt1, opNeg, disp, cap, callF, takes, puts, selA, sel, aApp, par, gT, gsC, gs0, appF, opDivmod, frzL, plainL, t1, t2, isWhl, isBl, hp2]
  | _ => simp [x_is_integer, b_is_integer, mkF, reFrz, seq, Pm.ite, rtn, mov, asg, drp, sNx, bnd, Pm.bin, Pm.un, app, aCons, aNil, idx, loc, con, Pm.ret, peek1, peeks, itemOf, on2I, iAdd, iSub, iGt, iGe, iLt, iLe, iDiv, iMod, use1, useL, gI, gN, tst, andT, orT, notT, andE, orE, notE, ifE, ixN, D.frz, D.plain, plainL, argsBack, opLen, opAbs, opInt1, opNeg, disp, cap, callF, takes, puts, selA, sel, aApp, par, gT, gsC, gs0, appF, opDivmod, frzL, plainL, t1, t2, isWhl, isBl]
theorem between_ok {B : Nat} {d : D} (a b : Int) (hp : d.plain = true) (h : Fi B d) : x_is_between [d, .int a, .int b] = .ret (.bl (btwB a b d)) [d, .int a, .int b] := by
  have t1 := integer_ok hp h
  unfold x_is_between b_is_between
  generalize x_is_integer = XI at *
  cases d with
  | node o k xs =>
    simp only [D.plain, Bool.and_eq_true, Bool.not_eq_true'] at hp
    obtain ⟨rfl, hp2⟩ := hp
    simp [mkF, reFrz, seq, Pm.ite, rtn, mov, asg, drp, sNx, bnd, Pm.bin, Pm.un, app, aCons, aNil, idx, loc, con, Pm.ret, peek1, peeks, itemOf, on2I, iAdd, iSub, iGt, iGe, iLt, iLe, iDiv, iMod, use1, useL, gI, gN, tst, andT, orT, notT, andE, orE, notE, ifE, ixN, D.frz, D.plain, plainL, argsBack, opLen, opAbs, opInt1, opNeg, disp, cap, callF, takes, puts, selA, sel, aApp, par, gT, gsC, gs0, appF, opDivmod, frzL, plainL, t1, isWhl, isBl, btwB, hp2]
  | int n =>
    by_cases h : a ≤ n
    · simp [mkF, reFrz, seq, Pm.ite, rtn, mov, asg, drp, sNx, bnd, Pm.bin, Pm.un, app, aCons, aNil, idx, loc, con, Pm.ret, peek1, peeks, itemOf, on2I, iAdd, iSub, iGt, iGe, iLt, iLe, iDiv, iMod, use1, useL, gI, gN, tst, andT, orT, notT, andE, orE, notE, ifE, ixN, D.frz, D.plain, plainL, argsBack, opLen, opAbs, opInt1, opNeg, disp, cap, callF, takes, puts, selA, sel, aApp, par, gT, gsC, gs0, appF, opDivmod, frzL, plainL, t1, isWhl, isBl, btwB, chI, cLe, h]
    · simp [mkF, reFrz, seq, Pm.ite, rtn, mov, asg, drp, sNx, bnd, Pm.bin, Pm.un, app, aCons, aNil, idx, loc, con, Pm.ret, peek1, peeks, itemOf, on2I, iAdd, iSub, iGt, iGe, iLt, iLe, iDiv, iMod, use1, useL, gI, gN, tst, andT, orT, notT, andE, orE, notE, ifE, ixN, D.frz, D.plain, plainL, argsBack, opLen, opAbs, opInt1, opNeg, disp, cap, callF, takes, puts, selA, sel, aApp, par, gT, gsC, gs0, appF, opDivmod, frzL, plainL, t1, isWhl, isBl, btwB, chI, cLe, h]
  | _ => simp [mkF, reFrz, seq, Pm.ite, rtn, mov, asg, drp, sNx, bnd, Pm.bin, Pm.un, app, aCons, aNil, idx, loc, con, Pm.ret, peek1, peeks, itemOf, on2I, iAdd, iSub, iGt, iGe, iLt, iLe, iDiv, iMod, use1, useL, gI, gN, tst, andT, orT, notT, andE, orE, notE, ifE, ixN, D.frz, D.plain, plainL, argsBack, opLen, opAbs, opInt1, opNeg, disp, cap, callF, takes, puts, selA, sel, aApp, par, gT, gsC, gs0, appF, opDivmod, frzL, plainL, t1, isWhl, isBl, btwB]
theorem number_ok {B : Nat} {d : D} (hp : d.plain = true) (h : Fi B d) : x_is_number [d] = .ret (.bl (numB d)) [d] := by
  have t1 := between_ok (-1000000000000) 1000000000000 hp h
  unfold x_is_number b_is_number
  generalize x_is_between = XB at *
  simp [mkF, reFrz, seq, Pm.ite, rtn, mov, asg, drp, sNx, bnd, Pm.bin, Pm.un, app, aCons, aNil, idx, loc, con, Pm.ret, peek1, peeks, itemOf, on2I, iAdd, iSub, iGt, iGe, iLt, iLe, iDiv, iMod, use1, useL, gI, gN, tst, andT, orT, notT, andE, orE, notE, ifE, ixN, D.frz, D.plain, plainL, argsBack, opLen, opAbs, opInt1, opNeg, disp, cap, callF, takes, puts, selA, sel, aApp, par, gT, gsC, gs0, appF, opDivmod, frzL, plainL, t1, hp]
theorem row_ok2 {B : Nat} {d : D} (hp : d.plain = true) (h : Fi B d) : x_is_row [d] = .ret (.bl (rowB d)) [d] := by
  have t1 := isi_tup h.ty
  unfold x_is_row b_is_row
  cases d with
  | node o k xs =>
    cases k with
    | tup =>
      have hx := h.tup
      simp only [D.plain, Bool.and_eq_true, Bool.not_eq_true'] at hp
      obtain ⟨rfl, hp⟩ := hp
      match xs, hp, hx with
      | [], _, _ =>
        generalize x_is_letter = XL at *
        generalize x_is_number = XN at *
        simp [mkF, reFrz, seq, Pm.ite, rtn, mov, asg, drp, sNx, bnd, Pm.bin, Pm.un, app, aCons, aNil, idx, loc, con, Pm.ret, peek1, peeks, itemOf, on2I, iAdd, iSub, iGt, iGe, iLt, iLe, iDiv, iMod, use1, useL, gI, gN, tst, andT, orT, notT, andE, orE, notE, ifE, ixN, D.frz, D.plain, plainL, argsBack, opLen, opAbs, opInt1, opNeg, disp, cap, callF, takes, puts, selA, sel, aApp, par, gT, gsC, gs0, appF, opDivmod, frzL, plainL, t1, isTup, rowB, Pm.ne_int]
      | [a], hp, _ =>
        simp [mkF, reFrz, seq, Pm.ite, rtn, mov, asg, drp, sNx, bnd, Pm.bin, Pm.un, app, aCons, aNil, idx, loc, con, Pm.ret, peek1, peeks, itemOf, on2I, iAdd, iSub, iGt, iGe, iLt, iLe, iDiv, iMod, use1, useL, gI, gN, tst, andT, orT, notT, andE, orE, notE, ifE, ixN, D.frz, D.plain, plainL, argsBack, opLen, opAbs, opInt1, opNeg, disp, cap, callF, takes, puts, selA, sel, aApp, par, gT, gsC, gs0, appF, opDivmod, frzL, plainL, t1, isTup, rowB, Pm.ne_int] at hp ⊢
      | [a, b], hp, _ =>
        simp [mkF, reFrz, seq, Pm.ite, rtn, mov, asg, drp, sNx, bnd, Pm.bin, Pm.un, app, aCons, aNil, idx, loc, con, Pm.ret, peek1, peeks, itemOf, on2I, iAdd, iSub, iGt, iGe, iLt, iLe, iDiv, iMod, use1, useL, gI, gN, tst, andT, orT, notT, andE, orE, notE, ifE, ixN, D.frz, D.plain, plainL, argsBack, opLen, opAbs, opInt1, opNeg, disp, cap, callF, takes, puts, selA, sel, aApp, par, gT, gsC, gs0, appF, opDivmod, frzL, plainL, t1, isTup, rowB, Pm.ne_int] at hp ⊢
      | [a, b, c], hp, hx =>
        simp only [plainL, Bool.and_eq_true, and_true] at hp
        have e1 := letter_ok hp.1 (hx a (by simp))
        have e2 := number_ok hp.2.1 (hx b (by simp))
        have e3 := number_ok hp.2.2 (hx c (by simp))
        obtain ⟨pa, pb, pc⟩ := hp
        rw [show rowB (.node false .tup [a, b, c]) = (letB a && (numB b && numB c)) from rfl]
        generalize letB a = la at *
        generalize numB b = lb at *
        generalize numB c = lc at *
        generalize x_is_letter = XL at *
        generalize x_is_number = XN at *
        cases la <;> cases lb <;> simp [mkF, reFrz, seq, Pm.ite, rtn, mov, asg, drp, sNx, bnd, Pm.bin, Pm.un, app, aCons, aNil, idx, loc, con, Pm.ret, peek1, peeks, itemOf, on2I, iAdd, iSub, iGt, iGe, iLt, iLe, iDiv, iMod, use1, useL, gI, gN, tst, andT, orT, notT, andE, orE, notE, ifE, ixN, D.frz, D.plain, plainL, argsBack, opLen, opAbs, opInt1, opNeg, disp, cap, callF, takes, puts, selA, sel, aApp, par, gT, gsC, gs0, appF, opDivmod, frzL, plainL, t1, isTup, e1, e2, e3, Pm.ne_int, pa, pb, pc]
      | a :: b :: c :: d :: r, hp, _ =>
        have h3 : ¬ ((r.length : Int) + 1 + 1 + 1 + 1 = 3) := by omega
        simp [mkF, reFrz, seq, Pm.ite, rtn, mov, asg, drp, sNx, bnd, Pm.bin, Pm.un, app, aCons, aNil, idx, loc, con, Pm.ret, peek1, peeks, itemOf, on2I, iAdd, iSub, iGt, iGe, iLt, iLe, iDiv, iMod, use1, useL, gI, gN, tst, andT, orT, notT, andE, orE, notE, ifE, ixN, D.frz, D.plain, plainL, argsBack, opLen, opAbs, opInt1, opNeg, disp, cap, callF, takes, puts, selA, sel, aApp, par, gT, gsC, gs0, appF, opDivmod, frzL, plainL, t1, isTup, rowB, Pm.ne_int, h3] at hp ⊢
    | _ =>
      simp only [D.plain, Bool.and_eq_true, Bool.not_eq_true'] at hp
      obtain ⟨rfl, hp2⟩ := hp
      simp [mkF, reFrz, seq, Pm.ite, rtn, mov, asg, drp, sNx, bnd, Pm.bin, Pm.un, app, aCons, aNil, idx, loc, con, Pm.ret, peek1, peeks, itemOf, on2I, iAdd, iSub, iGt, iGe, iLt, iLe, iDiv, iMod, use1, useL, gI, gN, tst, andT, orT, notT, andE, orE, notE, ifE, ixN, D.frz, D.plain, plainL, argsBack, opLen, opAbs, opInt1, opNeg, disp, cap, callF, takes, puts, selA, sel, aApp, par, gT, gsC, gs0, appF, opDivmod, frzL, plainL, t1, isTup, rowB, hp2]
  | _ => simp [mkF, reFrz, seq, Pm.ite, rtn, mov, asg, drp, sNx, bnd, Pm.bin, Pm.un, app, aCons, aNil, idx, loc, con, Pm.ret, peek1, peeks, itemOf, on2I, iAdd, iSub, iGt, iGe, iLt, iLe, iDiv, iMod, use1, useL, gI, gN, tst, andT, orT, notT, andE, orE, notE, ifE, ixN, D.frz, D.plain, plainL, argsBack, opLen, opAbs, opInt1, opNeg, disp, cap, callF, takes, puts, selA, sel, aApp, par, gT, gsC, gs0, appF, opDivmod, frzL, plainL, t1, isTup, rowB]
/-! ### rows in order -/
def zA : List D → List D → List Bool
  | a :: r, b :: s => ltS (hdD a) (hdD b) :: zA r s
  | _, _ => []
theorem zA_tail : ∀ xs : List D, (zA xs xs.tail).all id = ascB xs
  | [] => rfl
  | [a] => rfl
  | a :: b :: r => by
    have h := zA_tail (b :: r)
    show ((zA (a :: b :: r) (b :: r)).all id) = _
    rw [zA, List.all_cons, ascB, ← h]
    rfl
def zAV : D → D
  | .node _ .tup [a, b] => .bl (ltS (hdD a) (hdD b))
  | _ => .non
theorem zAV_map : ∀ xs ys : List D, (zipD xs ys).map zAV = (zA xs ys).map D.bl
  | [], _ => rfl
  | _ :: _, [] => rfl
  | a :: r, b :: s => by rw [zipD, List.map_cons, zA, List.map_cons, zAV_map r s]; rfl
theorem row_of2 {d : D} (h : rowB d = true) (hp : d.plain = true) : ∃ s b c, d = .tup [.str s, b, c] ∧ b.plain = true ∧ c.plain = true := by
  cases d with
  | node o k xs =>
    cases k with
    | tup =>
      match xs, h, hp with
      | [a, b, c], h, hp =>
        rw [rowB, Bool.and_eq_true] at h
        simp only [D.plain, plainL, Bool.and_eq_true, Bool.not_eq_true', and_true] at hp
        obtain ⟨rfl, pa, pb, pc⟩ := hp
        cases a with
        | str s => exact ⟨s, b, c, rfl, pb, pc⟩
        | _ => simp [letB] at h
    | _ => simp [rowB] at h
  | _ => simp [rowB] at h
theorem cut1 {xs : List D} (hp : plainL xs = true) : gCut (some 1) none (.node false .tup xs) = some (.tup xs.tail) := by
  have h := gCut_P hp (some ((1 : Nat) : Int)) none
  rw [slL_from, List.drop_one] at h
  exact h
theorem all_bls2 (bs : List Bool) : opAll [.lst true (bs.map D.bl)] = some (.bl (bs.all id)) := all_bls true bs
theorem tabcomp1 {B : Nat} {xs : List D} (hp : plainL xs = true) (hl : xs.length ≤ 4000) (hx : ∀ x ∈ xs, Fi B x) : c_is_table_1 [some (.tup xs), none, none] = .ok (.val (.lst true ((xs.map rowB).map D.bl))) [some (.tup xs), none, none] := by
  have fz := frzL_of_plain xs hp
  have hs : srcA (loc 0) [some (.tup xs), none, none] = .ok xs [some (.tup xs), none, none] := by simp [srcA, mkF, reFrz, seq, Pm.ite, rtn, mov, asg, drp, sNx, bnd, Pm.bin, Pm.un, app, aCons, aNil, idx, loc, con, Pm.ret, peek1, peeks, itemOf, on2I, iAdd, iSub, iGt, iGe, iLt, iLe, iDiv, iMod, use1, useL, gI, gN, tst, andT, orT, notT, andE, orE, notE, ifE, ixN, D.frz, D.plain, plainL, argsBack, opLen, opAbs, opInt1, opNeg, disp, cap, callF, takes, puts, selA, sel, aApp, par, gT, gsC, gs0, appF, opDivmod, frzL, plainL, fz]
  unfold c_is_table_1
  rw [comp_map (fun d => .bl (rowB d)) hs rfl rfl (by show _ ≤ 1000000; omega) fun d hd => ?_, List.map_map]
  · rfl
  · have e := row_ok2 (plain_mem hp d hd) (hx d hd)
    have pl := plain_mem hp d hd
    refine ⟨[some (.tup xs), some d, none], rfl, Wp.of (a := true) rfl ⟨rfl, ?_⟩⟩
    generalize x_is_row = XR at *
    exact Wp.of (a := .val (.bl (rowB d))) (ρ' := [some (.tup xs), some d, none]) (by simp [mkF, reFrz, seq, Pm.ite, rtn, mov, asg, drp, sNx, bnd, Pm.bin, Pm.un, app, aCons, aNil, idx, loc, con, Pm.ret, peek1, peeks, itemOf, on2I, iAdd, iSub, iGt, iGe, iLt, iLe, iDiv, iMod, use1, useL, gI, gN, tst, andT, orT, notT, andE, orE, notE, ifE, ixN, D.frz, D.plain, plainL, argsBack, opLen, opAbs, opInt1, opNeg, disp, cap, callF, takes, puts, selA, sel, aApp, par, gT, gsC, gs0, appF, opDivmod, frzL, plainL, e, pl]) ⟨_, rfl, rfl⟩
theorem tabcomp2 {xs : List D} (hp : plainL xs = true) (hl : xs.length ≤ 4000) (hr : xs.all rowB = true) : c_is_table_2 [some (.tup xs), none, none] = .ok (.val (.lst true ((zA xs xs.tail).map D.bl))) [some (.tup xs), none, none] := by
  have fz := frzL_of_plain xs hp
  have pt : plainL xs.tail = true := plainL_of fun x hx => plain_mem hp x (List.mem_of_mem_tail hx)
  have fzt := frzL_of_plain _ pt
  have c1 := cut1 hp
  have hs : srcZip .tup (loc 0) (cut (loc 0) (some (con (.int 1))) none) [some (.tup xs), none, none] = .ok (zipD xs xs.tail) [some (.tup xs), none, none] := by
    simp [srcZip, srcSeq, cut, mkF, reFrz, seq, Pm.ite, rtn, mov, asg, drp, sNx, bnd, Pm.bin, Pm.un, app, aCons, aNil, idx, loc, con, Pm.ret, peek1, peeks, itemOf, on2I, iAdd, iSub, iGt, iGe, iLt, iLe, iDiv, iMod, use1, useL, gI, gN, tst, andT, orT, notT, andE, orE, notE, ifE, ixN, D.frz, D.plain, plainL, argsBack, opLen, opAbs, opInt1, opNeg, disp, cap, callF, takes, puts, selA, sel, aApp, par, gT, gsC, gs0, appF, opDivmod, frzL, plainL, c1, fz, fzt, hp, pt]
  unfold c_is_table_2
  rw [comp_map zAV hs rfl rfl (by rw [zipD_length]; show _ ≤ 1000000; omega) fun d hd => ?_, zAV_map]
  obtain ⟨i, hi⟩ := List.getElem?_of_mem hd
  obtain ⟨a, b, ha, hb, rfl⟩ := zipD_get _ _ _ _ hi
  have ma := List.mem_of_getElem? ha
  have mb := List.mem_of_mem_tail (List.mem_of_getElem? hb)
  obtain ⟨s, b1, c1, rfl, p1, p2⟩ := row_of2 (List.all_eq_true.mp hr a ma) (plain_mem hp a ma)
  obtain ⟨s', b2, c2, rfl, p3, p4⟩ := row_of2 (List.all_eq_true.mp hr b mb) (plain_mem hp b mb)
  have l1 : opLtA [.str s, .str s'] = some (.bl (ltS s s')) := rfl
  have f1 := D.frz_of_plain _ p1
  have f2 := D.frz_of_plain _ p2
  have f3 := D.frz_of_plain _ p3
  have f4 := D.frz_of_plain _ p4
  refine ⟨[some (.tup xs), some (.tup [.str s, b1, c1]), some (.tup [.str s', b2, c2])], by simp [mkF, reFrz, seq, Pm.ite, rtn, mov, asg, drp, sNx, bnd, Pm.bin, Pm.un, app, aCons, aNil, idx, loc, con, Pm.ret, peek1, peeks, itemOf, on2I, iAdd, iSub, iGt, iGe, iLt, iLe, iDiv, iMod, use1, useL, gI, gN, tst, andT, orT, notT, andE, orE, notE, ifE, ixN, D.frz, D.plain, plainL, argsBack, opLen, opAbs, opInt1, opNeg, disp, cap, callF, takes, puts, selA, sel, aApp, par, gT, gsC, gs0, appF, opDivmod, frzL, plainL, f1, f2, f3, f4], Wp.of (a := true) rfl ⟨rfl, ?_⟩⟩
  generalize opLtA = LA at *
  exact Wp.of (a := .val (.bl (ltS s s'))) (ρ' := [some (.tup xs), some (.tup [.str s, b1, c1]), some (.tup [.str s', b2, c2])]) (by simp [mkF, reFrz, seq, Pm.ite, rtn, mov, asg, drp, sNx, bnd, Pm.bin, Pm.un, app, aCons, aNil, idx, loc, con, Pm.ret, peek1, peeks, itemOf, on2I, iAdd, iSub, iGt, iGe, iLt, iLe, iDiv, iMod, use1, useL, gI, gN, tst, andT, orT, notT, andE, orE, notE, ifE, ixN, D.frz, D.plain, plainL, argsBack, opLen, opAbs, opInt1, opNeg, disp, cap, callF, takes, puts, selA, sel, aApp, par, gT, gsC, gs0, appF, opDivmod, frzL, plainL, l1]) ⟨_, rfl, rfl⟩
theorem table_is {B : Nat} {d : D} (hp : d.plain = true) (h : Fi B d) : x_is_table [d] = .ret (.bl (tabB d)) [d] := by
  have t1 := isi_tup h.ty
  unfold x_is_table b_is_table
  cases d with
  | node o k xs =>
    cases k with
    | tup =>
      have hx := h.tup
      have hl := h.len
      simp only [D.plain, Bool.and_eq_true, Bool.not_eq_true'] at hp
      obtain ⟨rfl, hp⟩ := hp
      have hc1 := tabcomp1 hp hl hx
      have hc2 := fun hr => tabcomp2 hp hl (xs := xs) hr
      have a1 := all_bls2 (xs.map rowB)
      have a2 := all_bls2 (zA xs xs.tail)
      rw [zA_tail] at a2
      rw [show (xs.map rowB).all id = xs.all rowB from by rw [List.all_map]; rfl] at a1
      rw [show tabB (.tup xs) = (decide (1 ≤ (xs.length : Int)) && decide ((xs.length : Int) ≤ 6) && xs.all rowB && ascB xs) from rfl]
      generalize c_is_table_1 = C1 at *
      generalize c_is_table_2 = C2 at *
      generalize (xs.map rowB).map D.bl = B1 at *
      generalize (zA xs xs.tail).map D.bl = B2 at *
      generalize ascB xs = AB at *
      generalize xs.all rowB = RB at *
      by_cases h1 : 1 ≤ (xs.length : Int)
      · by_cases h2 : (xs.length : Int) ≤ 6
        · cases RB with
          | true =>
            have hc2 := hc2 rfl
            simp [mkF, reFrz, seq, Pm.ite, rtn, mov, asg, drp, sNx, bnd, Pm.bin, Pm.un, app, aCons, aNil, idx, loc, con, Pm.ret, peek1, peeks, itemOf, on2I, iAdd, iSub, iGt, iGe, iLt, iLe, iDiv, iMod, use1, useL, gI, gN, tst, andT, orT, notT, andE, orE, notE, ifE, ixN, D.frz, D.plain, plainL, argsBack, opLen, opAbs, opInt1, opNeg, disp, cap, callF, takes, puts, selA, sel, aApp, par, gT, gsC, gs0, appF, opDivmod, frzL, plainL, t1, isTup, chI, cLe, h1, h2, hc1, hc2, a1, a2, hp]
          | false => simp [mkF, reFrz, seq, Pm.ite, rtn, mov, asg, drp, sNx, bnd, Pm.bin, Pm.un, app, aCons, aNil, idx, loc, con, Pm.ret, peek1, peeks, itemOf, on2I, iAdd, iSub, iGt, iGe, iLt, iLe, iDiv, iMod, use1, useL, gI, gN, tst, andT, orT, notT, andE, orE, notE, ifE, ixN, D.frz, D.plain, plainL, argsBack, opLen, opAbs, opInt1, opNeg, disp, cap, callF, takes, puts, selA, sel, aApp, par, gT, gsC, gs0, appF, opDivmod, frzL, plainL, t1, isTup, chI, cLe, h1, h2, hc1, a1, hp]
        · simp [mkF, reFrz, seq, Pm.ite, rtn, mov, asg, drp, sNx, bnd, Pm.bin, Pm.un, app, aCons, aNil, idx, loc, con, Pm.ret, peek1, peeks, itemOf, on2I, iAdd, iSub, iGt, iGe, iLt, iLe, iDiv, iMod, use1, useL, gI, gN, tst, andT, orT, notT, andE, orE, notE, ifE, ixN, D.frz, D.plain, plainL, argsBack, opLen, opAbs, opInt1, opNeg, disp, cap, callF, takes, puts, selA, sel, aApp, par, gT, gsC, gs0, appF, opDivmod, frzL, plainL, t1, isTup, chI, cLe, h1, h2, hp]
      · simp [mkF, reFrz, seq, Pm.ite, rtn, mov, asg, drp, sNx, bnd, Pm.bin, Pm.un, app, aCons, aNil, idx, loc, con, Pm.ret, peek1, peeks, itemOf, on2I, iAdd, iSub, iGt, iGe, iLt, iLe, iDiv, iMod, use1, useL, gI, gN, tst, andT, orT, notT, andE, orE, notE, ifE, ixN, D.frz, D.plain, plainL, argsBack, opLen, opAbs, opInt1, opNeg, disp, cap, callF, takes, puts, selA, sel, aApp, par, gT, gsC, gs0, appF, opDivmod, frzL, plainL, t1, isTup, chI, cLe, h1, hp]
    | _ =>
      simp only [D.plain, Bool.and_eq_true, Bool.not_eq_true'] at hp
      obtain ⟨rfl, hp2⟩ := hp
      simp [mkF, reFrz, seq, Pm.ite, rtn, mov, asg, drp, sNx, bnd, Pm.bin, Pm.un, app, aCons, aNil, idx, loc, con, Pm.ret, peek1, peeks, itemOf, on2I, iAdd, iSub, iGt, iGe, iLt, iLe, iDiv, iMod, use1, useL, gI, gN, tst, andT, orT, notT, andE, orE, notE, ifE, ixN, D.frz, D.plain, plainL, argsBack, opLen, opAbs, opInt1, opNeg, disp, cap, callF, takes, puts, selA, sel, aApp, par, gT, gsC, gs0, appF, opDivmod, frzL, plainL, t1, isTup, tabB, hp2]
  | _ => simp [mkF, reFrz, seq, Pm.ite, rtn, mov, asg, drp, sNx, bnd, Pm.bin, Pm.un, app, aCons, aNil, idx, loc, con, Pm.ret, peek1, peeks, itemOf, on2I, iAdd, iSub, iGt, iGe, iLt, iLe, iDiv, iMod, use1, useL, gI, gN, tst, andT, orT, notT, andE, orE, notE, ifE, ixN, D.frz, D.plain, plainL, argsBack, opLen, opAbs, opInt1, opNeg, disp, cap, callF, takes, puts, selA, sel, aApp, par, gT, gsC, gs0, appF, opDivmod, frzL, plainL, t1, isTup, tabB]
/-- a list is no table -/
theorem table_lst {xs : List D} : x_is_table [.node true .lst xs] = .ret (.bl false) [.node true .lst xs] := by
  have t1 : opIsi [.node true .lst xs, .op (.ty "tuple")] = some (.bl false) := isi_tup rfl
  unfold x_is_table b_is_table
  simp [mkF, reFrz, seq, Pm.ite, rtn, mov, asg, drp, sNx, bnd, Pm.bin, Pm.un, app, aCons, aNil, idx, loc, con, Pm.ret, peek1, peeks, itemOf, on2I, iAdd, iSub, iGt, iGe, iLt, iLe, iDiv, iMod, use1, useL, gI, gN, tst, andT, orT, notT, andE, orE, notE, ifE, ixN, D.frz, D.plain, plainL, argsBack, opLen, opAbs, opInt1, opNeg, disp, cap, callF, takes, puts, selA, sel, aApp, par, gT, gsC, gs0, appF, opDivmod, frzL, plainL, t1]
end Pg
/-! PmG: the law's end. -/
namespace Pm
open PySem PySem.Spec PyProof.Rows L2
/-- a def that is told, whose table is its own and not told -/
def okTab (K : PySem.W.Frag) (recs : List Str) (t : Str × Addr × Addr) : Bool :=
  recs.any (fun n => n == t.1) && (K.lookup t.2.2).isNone && PySem.W.codeHdIn K t.2.1 t.2.2 && (tabsK K).all fun u => !decide (u.2.2 = t.2.2) || decide (u.1 = t.1)
def okTabs (K : PySem.W.Frag) (recs : List Str) : Bool := (tabsK K).all (okTab K recs)
def tabAt (K : PySem.W.Frag) (b : Addr) : Option (Str × Addr × Addr) := (tabsK K).find? fun t => decide (t.2.2 = b)
/-- the script alone is tracked, at a, locked; and the tables -/
noncomputable def scrH (K : PySem.W.Frag) (a : Addr) (ob : Obj) (ns : List Int) : Hp := fun b => open Classical in if b = a ∧ K.lookup a = none then some (.frz ob (.lst (ns.map V.int))) else if (tabAt K b).isSome then some (.tbl #[]) else none
/-- the same, the tables marked -/
noncomputable def scrZ (K : PySem.W.Frag) (a : Addr) (ob : Obj) (ns : List Int) : Hp := fun b => open Classical in if b = a ∧ K.lookup a = none then some (.frz ob (.lst (ns.map V.int))) else (tabAt K b).map fun t => mark (lamName t.1)
theorem reps_ints {K : PySem.W.Frag} {Z H : Hp} {S : Fp} : ∀ ns : List Int, RepL K Z H (ns.map D.int) (ns.map V.int) S
  | [] => trivial
  | n :: ns => ⟨Fp0, S, fun _ x => x.elim, fun _ x => x, fun _ x _ => x, rfl, reps_ints ns⟩
theorem tabAt_mem {K : PySem.W.Frag} {b : Addr} {t : Str × Addr × Addr} (h : tabAt K b = some t) : t ∈ tabsK K ∧ t.2.2 = b :=
  ⟨List.mem_of_find?_eq_some h, of_decide_eq_true (List.find?_some (p := fun t : Str × Addr × Addr => decide (t.2.2 = b)) h)⟩
theorem tabAt_of {K : PySem.W.Frag} {recs : List Str} (ok : okTabs K recs = true) {t : Str × Addr × Addr} (h : t ∈ tabsK K) : ∃ u, tabAt K t.2.2 = some u ∧ u.1 = t.1 := by
  cases e : tabAt K t.2.2 with
  | none =>
    have := List.find?_eq_none.mp e t h
    simp at this
  | some u =>
    obtain ⟨h1, h2⟩ := tabAt_mem e
    have q := List.all_eq_true.mp ok t h
    unfold okTab at q
    rw [Bool.and_eq_true] at q
    have q2 := List.all_eq_true.mp q.2 u h1
    simp only [h2, decide_true, Bool.not_true, Bool.false_or, decide_eq_true_eq] at q2
    exact ⟨u, rfl, q2⟩
theorem okTab_of {K : PySem.W.Frag} {recs : List Str} (ok : okTabs K recs = true) {t : Str × Addr × Addr} (h : t ∈ tabsK K) : recs.any (fun n => n == t.1) = true ∧ K.lookup t.2.2 = none ∧ PySem.W.codeHdIn K t.2.1 t.2.2 = true := by
  have q := List.all_eq_true.mp ok t h
  unfold okTab at q
  rw [Bool.and_eq_true, Bool.and_eq_true, Bool.and_eq_true] at q
  exact ⟨q.1.1.1, Option.isNone_iff_eq_none.mp q.1.1.2, q.1.2⟩
/-- what a lambda's maker is told: its code object and its table -/
def TBs (K : PySem.W.Frag) (mg : Str → Option Value) (base : Heap) : Prop := ∀ t ∈ tabsK K, LamX.TabB base mg t.2.1 t.2.2
/-- the law's call at the head's end -/
theorem end_call {P : Program} {w : World} {K : PySem.W.Frag} {mg mb : Str → Option Value} {k : Nat} {fa a : Addr} {fd : FuncData} {x : Str} {g : FSem} {s1 : Shared} {vs : List Value} {ns : List Int} {recs : List Str}
    (hK : K.In s1.heap) (hm : s1.heap.Ns mainGlobals mg) (hb : s1.heap.Ns builtinsNs mb) (hbb : ∀ x : Str, x ≠ "__name__" → mb x = bootBuiltins x) (hl : s1.heap.NoLimit) (hg : s1.gens = #[])
    (okt : okTabs K recs = true) (htb : ∀ t ∈ tabsK K, s1.heap.get? t.2.2 = some { cls := .none, data := .fields #[] })
    (hbm : ∃ (bm : Addr) (ob : Obj), mg "__builtins__" = some (.ref bm) ∧ bm ≠ builtinsNs ∧ s1.heap.get? bm = some ob ∧ ob.cls = .type "module" ∧ ob.dict = some builtinsNs ∧ ob.data = .plain)
    (ha : s1.heap.get? a = some { cls := .type "list", data := .seq vs.toArray }) (hi : IntsAre vs ns) (hz : ns.length ≤ sizeLine) (hr : Room k callerA)
    (F : ∀ base : Heap, K.In base → base.Ns mainGlobals mg → TBs K mg base → FnG P w K mg base k fa fd [x] g) (bd : ∀ (s : Shared) (u : Value), BindsTo s fd ⟨[u], []⟩ [(x, u)])
    (ok : ∃ as, g [.scr (ns.map D.int)] = .ret (.bl true) as) :
    codeAny (model P w) callerA (.call (.ref fa) ⟨[.ref a], []⟩) (fun r s' => r = .ok (.ret (.bool true)) ∧ OldK s1.heap s'.heap ∧ s'.os = s1.os ∧ AllBare s'.gens) s1 := by
  have rv := vals_ints hi
  have nl := hi.length
  obtain ⟨H, hH⟩ : ∃ H : Hp, H = scrH K a { cls := .type "list", data := .seq vs.toArray } ns := ⟨_, rfl⟩
  obtain ⟨Z, hZ⟩ : ∃ Z : Hp, Z = scrZ K a { cls := .type "list", data := .seq vs.toArray } ns := ⟨_, rfl⟩
  have tget : ∀ b t, tabAt K b = some t → s1.heap.get? b = some { cls := .none, data := .fields #[] } := fun b t e => by
    obtain ⟨h1, h2⟩ := tabAt_mem e
    rw [← h2]
    exact htb t h1
  have aT : tabAt K a = none := by
    cases e : tabAt K a with
    | none => rfl
    | some t =>
      have q := tget a t e
      rw [ha] at q
      have q2 : Data.seq vs.toArray _ = Data.fields #[] := congrArg Obj.data (Option.some.inj q)
      cases q2
  have at1 : ∀ b o, H b = some o → (b = a ∧ K.lookup a = none ∧ o = .frz { cls := .type "list", data := .seq vs.toArray } (.lst (ns.map V.int))) ∨ (∃ t, tabAt K b = some t ∧ o = .tbl #[]) := fun b o e => by
    rw [hH] at e
    unfold scrH at e
    split at e
    · rename_i c
      exact .inl ⟨c.1, c.2, (Option.some.inj e).symm⟩
    · split at e
      · rename_i c
        obtain ⟨t, ht⟩ := Option.isSome_iff_exists.mp c
        exact .inr ⟨t, ht, (Option.some.inj e).symm⟩
      · cases e
  have Ht : ∀ b t, tabAt K b = some t → H b = some (.tbl #[]) ∧ Z b = some (mark (lamName t.1)) := fun b t e => by
    have nb : ¬ (b = a ∧ K.lookup a = none) := fun c => by
      rw [c.1, aT] at e
      cases e
    rw [hH, hZ]
    unfold scrH scrZ
    rw [if_neg nb, if_neg nb, e]
    exact ⟨rfl, rfl⟩
  have atZ : ∀ b o, Z b = some o → (b = a ∧ H b = some o ∧ NT o) ∨ (∃ t, tabAt K b = some t ∧ o = mark (lamName t.1)) := fun b o e => by
    have e0 := e
    rw [hZ] at e
    unfold scrZ at e
    split at e
    · rename_i c
      cases e
      refine .inl ⟨c.1, ?_, nt_frz⟩
      rw [hH]
      unfold scrH
      rw [if_pos c]
    · obtain ⟨t, ht, rfl⟩ := Option.map_eq_some_iff.mp e
      exact .inr ⟨t, ht, rfl⟩
  have hok : HOk P w H s1.heap := fun b o e => by
    rcases at1 b o e with ⟨rfl, _, rfl⟩ | ⟨t, ht, rfl⟩
    · exact ⟨ha, by rw [List.length_map]; exact hz, vs, _, rv, ha⟩
    · exact tget b t ht
  have sqz : SqL K Z a (ns.map V.int) := by
    cases e : K.lookup a with
    | none => exact .inl (.inr ⟨{ cls := .type "list", data := .seq vs.toArray }, by rw [hZ]; exact if_pos ⟨rfl, e⟩⟩)
    | some o =>
      have q := hK a o e
      rw [ha] at q
      cases q
      exact .inr ⟨_, vs.toArray, 0, e, rfl, rfl, rfl, by rw [List.size_toArray, nl]; exact hz, by simpa using rv⟩
  have low : ∀ {b : Addr} {o : Obj}, s1.heap.get? b = some o → (∀ ys n, o.data ≠ .seq ys n) → o.data ≠ .fields #[] → (hidT s1.heap H).get? b = some o := fun {b o} e n1 n2 => hidT_get e (by
    cases q : H b with
    | none => rfl
    | some u =>
      rcases at1 b u q with ⟨rfl, _, _⟩ | ⟨t, ht, _⟩
      · rw [ha] at e
        cases e
        exact (n1 _ _ rfl).elim
      · rw [tget b t ht] at e
        cases e
        exact (n2 rfl).elim)
  have lowN : ∀ {b : Addr} {m : Str → Option Value}, s1.heap.Ns b m → (hidT s1.heap H).Ns b m := fun {b m} h => by
    obtain ⟨o, es, ep, e, d, r⟩ := h
    refine ⟨o, es, ep, low e (fun ys n q => ?_) fun q => ?_, d, r⟩
    · rw [d] at q
      cases q
    · rw [d] at q
      cases q
  have lowK : K.In (hidT s1.heap H) := fun b o e => hidT_get (hK b o e) (by
    cases q : H b with
    | none => rfl
    | some u =>
      rcases at1 b u q with ⟨rfl, n, _⟩ | ⟨t, ht, _⟩
      · rw [n] at e
        cases e
      · obtain ⟨h1, h2⟩ := tabAt_mem ht
        have := (okTab_of okt h1).2.1
        rw [h2, e] at this
        cases this)
  have md : Mod K mg (hidT s1.heap H) := ⟨lowK, lowN hm, ⟨mb, lowN hb, hbb⟩, by
    obtain ⟨mc, p, q⟩ := hl
    exact ⟨mc, lowN p, q⟩⟩
  have tbs : TBs K mg (hidT s1.heap H) := fun t ht => by
    have hP := htb t ht
    obtain ⟨_, _, hc⟩ := okTab_of okt ht
    refine ⟨PySem.W.codeHd_of_K lowK hc, ?_, fun z => ?_⟩
    · obtain ⟨bm, ob, b1, b2, b3, b4, b5, b6⟩ := hbm
      refine ⟨bm, ob, b1, b2, fun q => ?_, fun q => ?_, low b3 (fun ys n q => ?_) fun q => ?_, b4, b5, b6⟩
      · obtain ⟨o, es, ep, e, hd, _⟩ := hm
        rw [q, e] at b3
        cases b3
        rw [hd] at b6
        cases b6
      · rw [q, hP] at b3
        cases b3
        cases b6
      · rw [b6] at q
        cases q
      · rw [b6] at q
        cases q
    · obtain ⟨o, es, ep, e, hd, _⟩ := hm
      rw [z, hP] at e
      cases e
      cases hd
  have e0 : Env0 P w K mg (hidT s1.heap H) callerA [] s1 H := ⟨rfl, md, fun _ _ e => of_hidT e, Nat.le_of_eq (hidT_size _ _), trivial, fun _ z => (nomatch z), hok, .of_eq hg⟩
  have mks : Marks K Z := fun t ht => by
    obtain ⟨u, h1, h2⟩ := tabAt_of okt ht
    rw [(Ht _ u h1).2, h2]
  have wd : Wd Z H Fp0 := ⟨⟨fun b o e n => by
    rcases atZ b o e with ⟨_, h, _⟩ | ⟨t, ht, rfl⟩
    · exact h
    · exact absurd rfl (n _)⟩, fun _ x => x.elim, fun _ x => x.elim, (tabsK K).map fun t => (t.2.2, lamName t.1), fun b ps e => by
    rcases atZ b _ e with ⟨_, _, h⟩ | ⟨t, ht, q⟩
    · exact absurd rfl (h _)
    · obtain ⟨h1, h2⟩ := tabAt_mem ht
      exact ⟨_, q, List.mem_map.mpr ⟨t, h1, by rw [h2]⟩⟩, fun p hp => by
    obtain ⟨t, ht, rfl⟩ := List.mem_map.mp hp
    obtain ⟨u, h1, h2⟩ := tabAt_of okt ht
    obtain ⟨h3, h4⟩ := Ht _ u h1
    rw [h2] at h4
    exact ⟨h4, #[], h3, True.intro, fun pos cv z => by simp [codeAmong] at z⟩⟩
  obtain ⟨as, eg⟩ := ok
  have sp : spG K mg g [.ref a] H (fun v _ => v = .bl true) (fun _ _ _ => False) := by
    refine ⟨Z, Fp0, [.scr (ns.map D.int)], mks, wd, ⟨Fp0, Fp0, fun _ x => x, fun _ x => x, fun _ x _ => x, ⟨a, ns.map V.int, rfl, sqz, reps_ints ns⟩, trivial⟩, ?_⟩
    rw [eg]
    exact fun v Z' H' S' Sd _ _ _ r => r
  refine codeAny_mono ((F _ lowK (lowN hm) tbs).run callerA [] s1 H ⟨[.ref a], []⟩ [.ref a] [.ref a] _ _ rfl hr e0 (bd s1 (.ref a)) (.cons rfl .nil) sp) fun r s' h => ?_
  cases r with
  | error e =>
    obtain ⟨_, _, _, _, _, _, _, _, _, _, _, _, z⟩ := h
    exact z.elim
  | ok fl =>
    cases fl with
    | next => exact h.elim
    | brk => exact h.elim
    | cont => exact h.elim
    | ret u =>
      obtain ⟨v, H', os, bare, un, hok', r', q⟩ := h
      have q' : v = .bl true := q
      subst q'
      obtain rfl : u = Value.bool true := r'
      have keep : ∀ b o, tabAt K b = none → s1.heap.get? b = some o → s'.heap.get? b = some o := fun b o nt e => by
        cases t : H b with
        | none => exact un.keep b o e t (fun z => (nomatch z)) (fun z => (nomatch z))
        | some u =>
          rcases at1 b u t with ⟨rfl, n, rfl⟩ | ⟨t2, ht, _⟩
          · obtain ⟨e2, _⟩ := hok' b _ (un.frzs b _ _ t)
            rw [ha] at e
            rw [← e]
            exact e2
          · rw [nt] at ht
            cases ht
      have grow : ∀ b t, tabAt K b = some t → ∃ more : Array Value, s'.heap.get? b = some { cls := .none, data := .fields more } := fun b t e => by
        obtain ⟨more, z⟩ := un.tbls b #[] (Ht b t e).1
        exact ⟨_, hok' b _ z⟩
      refine ⟨rfl, ⟨fun b o e => ?_, fun b o e => ?_⟩, os, bare⟩
      · cases ht : tabAt K b with
        | none => exact .inl (keep b o ht e)
        | some t =>
          obtain ⟨more, hm2⟩ := grow b t ht
          have e1 := tget b t ht
          rw [e1] at e
          cases e
          obtain ⟨h1, h2⟩ := tabAt_mem ht
          have cd := PySem.W.codeHd_of_K hK (okTab_of okt h1).2.2
          rw [h2] at cd
          exact .inr (.inl ⟨(cd.tab e1).isCodeTable, rfl, #[], more, rfl, by rw [Array.empty_append]; exact hm2⟩)
      · cases ht : tabAt K b with
        | none => exact ⟨o, keep b o ht e⟩
        | some t =>
          obtain ⟨more, hm2⟩ := grow b t ht
          exact ⟨_, hm2⟩
theorem walkT {l : PySem.W.OpenLaw} {n k : Nat} {q : Program} {loose : List Str} {XP : (Str → Option Value) → Heap → Prop} {YP : World → Heap → Prop} {d : DefRec} {K : Params → PySem.W.Frag} {g : FSem} {x : Str}
    (hn : l.most = some n) (hn2 : n ≤ sizeLine) (hdf : d.params.defaults = []) (hr : Room k callerA) (hY : ∀ (w : World) (h : Heap), YP w h → (K w.params).In h)
    (okt : ∀ w : World, okTabs (K w.params) ((recsOf q).map (·.name)) = true)
    (F : ∀ (w : World) (mg : Str → Option Value) (fa : Addr) (h : Heap), (K w.params).In h → h.Ns mainGlobals mg → mg d.name = some (.ref fa) →
      ∃ fd : FuncData, (∀ (s : Shared) (u : Value), BindsTo s fd ⟨[u], []⟩ [(x, u)]) ∧ ∀ base : Heap, (K w.params).In base → base.Ns mainGlobals mg → TBs (K w.params) mg base → FnG l.prog w (K w.params) mg base k fa fd [x] g)
    (ok : ∀ ns : List Int, ns.length ≤ n → ∃ as, g [.scr (ns.map D.int)] = .ret (.bl true) as) : PySem.W.WalkO q loose XP YP l.row.toRowW d [] (fun f vs => PySem.call f vs) := by
  refine Att.attach_call hn hdf fun w s0 s1 mg mb fa o pm cd doc a vs ns G Y ho hd hcd hmg hobj hints hlen hg => ?_
  have KX := hY w _ Y
  obtain ⟨fd, hb, hF⟩ := F w mg fa _ KX G.T.g hmg
  refine end_call KX G.T.g G.T.b G.T.builtins G.T.nolimit hg (okt w) (fun t ht => ?_) G.T.bmain hobj hints (Nat.le_trans hlen hn2) hr hF hb (ok ns hlen)
  obtain ⟨h1, _, _⟩ := okTab_of (okt w) ht
  unfold tabsK at ht
  obtain ⟨x, hx, ex⟩ := List.mem_filterMap.mp ht
  obtain ⟨cp, hcp, rfl⟩ := Option.map_eq_some_iff.mp ex
  obtain ⟨nm, hn1, hn2⟩ := List.any_eq_true.mp h1
  obtain ⟨dr, hdr, rfl⟩ := List.mem_map.mp hn1
  obtain ⟨d2, hd2⟩ : ∃ d2, (recsOf q).find? (fun e => e.name == x) = some d2 := by
    cases e : (recsOf q).find? (fun e => e.name == x) with
    | some d2 => exact ⟨d2, rfl⟩
    | none =>
      have := List.find?_eq_none.mp e dr hdr
      exact absurd hn2 this
  exact (PySem.W.tab_of (c := cp.1) (P := cp.2) G.T KX hd2 hcp).2
end Pm
/-! PmPc: a tuple of any things against the empty one. -/
namespace Pm
open PySem PySem.Spec PyProof.Rows L2
section
variable {X : Cx}
def rEmp (f : Bool → Bool) (K : PySem.W.Frag) : R2 := fun x y H Q => ∃ (a b : Addr) (ys : List V), x = .ref a ∧ y = .ref b ∧ SqT K H a ys ∧ SqT K H b [] ∧ Q (.bl (f ys.isEmpty)) H
theorem emp_size {ys : List V} {its : List Value} (r : Vals ys its) : ((List.range (min its.toArray.size ([] : List Value).toArray.size)).all (fun _ => true) && its.toArray.size == ([] : List Value).toArray.size) = ys.isEmpty := by
  cases ys with
  | nil => cases r; rfl
  | cons y ys => cases r; simp
theorem op_ne_emp (hu : X.A.units + 64 < cLine) : OpR X (compareOp .NotEq) (rEmp not X.K) := by
  intro pins s σ H x y v u Q I rx ry h
  obtain ⟨a, b, ys, rfl, rfl, h1, h2, q⟩ := h
  cases rx
  cases ry
  obtain ⟨its, r1, t1, z1⟩ := I.tuple h1
  obtain ⟨its2, r2, t2, z2⟩ := I.tuple h2
  cases r2
  refine SeqAt.RcNeAt.tuples (e := fun _ => true) t1 t2 (by omega) (fun j h1 h2 => absurd h2 (by simp)) X.prog X.w _ _ ?_
  rw [emp_size r1]
  exact ⟨.bl _, H, I, rfl, q⟩
theorem op_eq_emp (hu : X.A.units + 64 < cLine) : OpR X (compareOp .Eq) (rEmp id X.K) := by
  intro pins s σ H x y v u Q I rx ry h
  obtain ⟨a, b, ys, rfl, rfl, h1, h2, q⟩ := h
  cases rx
  cases ry
  obtain ⟨its, r1, t1, z1⟩ := I.tuple h1
  obtain ⟨its2, r2, t2, z2⟩ := I.tuple h2
  cases r2
  refine SeqAt.RcAt.tuples (e := fun _ => true) t1 t2 (by omega) (fun j h1 h2 => absurd h2 (by simp)) X.prog X.w _ _ ?_
  rw [emp_size r1]
  exact ⟨.bl _, H, I, rfl, q⟩
end
def opNeE : List D → Option D
  | [.node _ .tup xs, .node _ .tup []] => some (.bl (!xs.isEmpty))
  | _ => none
def opEqE : List D → Option D
  | [.node _ .tup xs, .node _ .tup []] => some (.bl xs.isEmpty)
  | _ => none
section
variable {X : Cx}
theorem rep_emp {K : PySem.W.Frag} {Z H : Hp} : ∀ {xs : List D} {ys : List V} {S : Fp}, RepL K Z H xs ys S → xs.isEmpty = ys.isEmpty
  | [], [], _, _ => rfl
  | [], _ :: _, _, r => r.elim
  | _ :: _, [], _, r => r.elim
  | _ :: _, _ :: _, _, _ => rfl
theorem opd_neE (hu : X.A.units + 64 < cLine) : Opd X (compareOp .NotEq) opNeE := by
  refine ⟨_, op_ne_emp hu, snd_pure fun Z H S ds vs d Q w rb e k => ?_⟩
  unfold opNeE at e
  split at e
  · rename_i o xs o2
    obtain ⟨v, u, rfl, rv, ru⟩ := rb2 rb
    obtain ⟨a, ys, rfl, c, rl⟩ := rep_tup w.same rv
    obtain ⟨b, zs, rfl, c2, rl2⟩ := rep_tup w.same ru
    cases zs with
    | nil =>
      cases e
      refine ⟨_, _, rfl, a, b, ys, rfl, rfl, c, c2, k _ ?_⟩
      rw [rep_emp rl]
      rfl
    | cons z zs => exact rl2.elim
  · cases e
theorem opd_eqE (hu : X.A.units + 64 < cLine) : Opd X (compareOp .Eq) opEqE := by
  refine ⟨_, op_eq_emp hu, snd_pure fun Z H S ds vs d Q w rb e k => ?_⟩
  unfold opEqE at e
  split at e
  · rename_i o xs o2
    obtain ⟨v, u, rfl, rv, ru⟩ := rb2 rb
    obtain ⟨a, ys, rfl, c, rl⟩ := rep_tup w.same rv
    obtain ⟨b, zs, rfl, c2, rl2⟩ := rep_tup w.same ru
    cases zs with
    | nil =>
      cases e
      refine ⟨_, _, rfl, a, b, ys, rfl, rfl, c, c2, k _ ?_⟩
      rw [rep_emp rl]
      rfl
    | cons z zs => exact rl2.elim
  · cases e
end
end Pm
set_option maxHeartbeats 0
/-! the walk of wearbinds_k01_tables_recognized -/
namespace Pk01
open PySem PySem.Spec PyProof.Rows L2 Pm
def topS (i : Nat) : Stmt := PySem.Challenge.pw_wearbinds_k01_tables_recognized.main.body.getD i (.Pass ⟨0, 0, 0, 0⟩)
abbrev s__law_pen : Stmt := topS 12
theorem sc__law_pen : FnScope ["_law_script"] ["_law_script"] (defScope s__law_pen) := ⟨rfl, rfl, rfl, by decide +kernel, rfl, by decide +kernel, by decide +kernel⟩
noncomputable def b__law_pen : M Fl := (rtn (disp true .lst (aCons (app opList (aCons (cut (loc 0) none (some (con (.int 63)))) aNil)) (aCons (con (.int 0)) (aCons (con (.int 0)) aNil)))))
noncomputable def S__law_pen : FSem := mkF 1 1 [] b__law_pen
abbrev s__law_draw : Stmt := topS 13
theorem sc__law_draw : FnScope ["_law_pen_here", "_law_many", "_law_digit", "_law_at", "_law_cell", "_law_large", "_law_mixed"] ["_law_pen_here", "_law_many"] (defScope s__law_draw) := ⟨rfl, rfl, rfl, by decide +kernel, rfl, by decide +kernel, by decide +kernel⟩
noncomputable def b__law_draw : M Fl := (seq (ite (tst (bin (on2I iGt) (idx (aCons (loc 0) (aCons (con (.int 2)) aNil))) (con (.int 0)))) (seq (asg (bin (on2I iMod) (idx (aCons (loc 0) (aCons (con (.int 2)) aNil))) (loc 1)) (gN 2))
    (seq (asg (bin (on2I iDiv) (idx (aCons (loc 0) (aCons (con (.int 2)) aNil))) (loc 1)) (gI 0 (con (.int 2))))
    (rtn (mov 2)))) sNx)
    (seq (asg (idx (aCons (loc 0) (aCons (con (.int 1)) aNil))) (gN 3))
    (seq (asg (bin (on2I iAdd) (loc 3) (con (.int 1))) (gI 0 (con (.int 1))))
    (seq (asg (bin (on2I iAdd) (bin (on2I iMul) (con (.int 40423)) (loc 3)) (con (.int 59))) (gN 4))
    (seq (ite (tst (bin opNe (idx (aCons (loc 0) (aCons (con (.int 0)) aNil))) (disp true .lst aNil))) (asg (idx (aCons (idx (aCons (loc 0) (aCons (con (.int 0)) aNil))) (aCons (bin (on2I iMod) (loc 3) (app opLen (aCons (idx (aCons (loc 0) (aCons (con (.int 0)) aNil))) aNil))) aNil))) (gN 4)) sNx)
    (seq (ite (andT (tst (bin (on2I iLt) (loc 3) (app opLen (aCons (idx (aCons (loc 0) (aCons (con (.int 0)) aNil))) aNil)))) (tst (bin (on2I iGe) (app opAbs (aCons (loc 4) aNil)) (bin (on2I iPow) (con (.int 10)) (con (.int 18)))))) (seq (asg (bin (on2I iAdd) (bin (on2I iMul) (con (.int 2)) (app opAbs (aCons (loc 4) aNil))) (app opInt1 (aCons (bin (on2I iLt) (loc 4) (con (.int 0))) aNil))) (gN 5))
    (seq (asg (bin (on2I iDiv) (loc 5) (loc 1)) (gI 0 (con (.int 2))))
    (rtn (bin (on2I iMod) (loc 5) (loc 1))))) sNx)
    (seq (asg (bin (on2I iMod) (bin (on2I iPow) (bin (on2I iAdd) (bin (on2I iAdd) (bin (on2I iMod) (loc 4) (con (.int 2147483549))) (bin (on2I iMul) (con (.int 50021)) (loc 3))) (con (.int 41))) (con (.int 5))) (con (.int 2147483579))) (gN 6))
    (seq (asg (bin (on2I iMod) (bin (on2I iPow) (bin (on2I iAdd) (bin (on2I iAdd) (bin (on2I iMul) (loc 6) (bin (on2I iAdd) (bin (on2I iMul) (con (.int 2)) (loc 3)) (con (.int 13)))) (bin (on2I iMul) (bin (on2I iMul) (con (.int 70003)) (loc 3)) (loc 3))) (con (.int 7))) (con (.int 3))) (con (.int 2147483629))) (gN 6))
    (rtn (bin (on2I iMod) (bin (on2I iDiv) (loc 6) (con (.int 16))) (loc 1)))))))))))
noncomputable def S__law_draw : FSem := mkF 2 7 [] b__law_draw
abbrev s__law_rules : Stmt := topS 14
theorem sc__law_rules : FnScope ["_law_pen_here", "_law_left", "_law_marks", "_law_high", "_law_steep", "_law_rows", "_law_mark", "_law_first", "_law_turn"] ["_law_pen_here"] (defScope s__law_rules) := ⟨rfl, rfl, rfl, by decide +kernel, rfl, by decide +kernel, by decide +kernel⟩
noncomputable def b__law_rules : M Fl := (seq (asg (app opListA (aCons (con (.str "abcdefghijklmnopqrstuvwxyz")) aNil)) (gN 1))
    (seq (asg (app opSorted (aCons (comp [8] (srcR1 (aCons (bin hAdd (con (.int 1)) (callF S__law_draw (aCons (loc 0) (aCons (con (.int 6)) aNil)))) aNil)) (gN 8) yesT (popi 1 (callF S__law_draw (aCons (loc 0) (aCons (app opLen (aCons (loc 1) aNil)) aNil))))) aNil)) (gN 2))
    (seq (asg (idx (aCons (disp true .lst (aCons (con (.int 1)) (aCons (con (.int 3)) (aCons (con (.int 12)) (aCons (con (.int 300)) (aCons (bin (on2I iPow) (con (.int 10)) (con (.int 12))) aNil)))))) (aCons (callF S__law_draw (aCons (loc 0) (aCons (con (.int 5)) aNil))) aNil))) (gN 3))
    (seq (asg (idx (aCons (disp true .lst (aCons (con (.int 0)) (aCons (con (.int 1)) (aCons (con (.int 2)) (aCons (con (.int 9)) (aCons (bin (on2I iPow) (con (.int 10)) (con (.int 12))) aNil)))))) (aCons (callF S__law_draw (aCons (loc 0) (aCons (con (.int 5)) aNil))) aNil))) (gN 4))
    (seq (asg (disp true .lst aNil) (gN 5))
    (seq (forS (srcA (loc 2)) (gN 6) (seq (asg (bin (on2I iSub) (callF S__law_draw (aCons (loc 0) (aCons (bin hAdd (bin hMulT (con (.int 2)) (loc 3)) (con (.int 1))) aNil))) (loc 3)) (gN 7))
    (drp (appd 5 (disp false .tup (aCons (loc 6) (aCons (loc 7) (aCons (bin (on2I iSub) (callF S__law_draw (aCons (loc 0) (aCons (bin hAdd (bin hMulT (con (.int 2)) (loc 4)) (con (.int 1))) aNil))) (loc 4)) aNil))))))))
    (rtn (app opTuple (aCons (loc 5) aNil)))))))))
noncomputable def S__law_rules : FSem := mkF 1 9 [] b__law_rules
abbrev s__law_odd : Stmt := topS 15
theorem sc__law_odd : FnScope ["_law_pen_here", "_law_thing", "_law_some"] ["_law_pen_here", "_law_thing"] (defScope s__law_odd) := ⟨rfl, rfl, rfl, by decide +kernel, rfl, by decide +kernel, by decide +kernel⟩
noncomputable def b__law_odd : M Fl := (seq (asg (disp true .lst (aCons (con .non) (aCons (con (.bl true)) (aCons (con (.bl false)) (aCons (con (.int 0)) (aCons (un opNeg (con (.int 1))) (aCons (con (.int 1)) (aCons (bin (on2I iPow) (con (.int 10)) (con (.int 12))) (aCons (bin hAdd (bin (on2I iPow) (con (.int 10)) (con (.int 12))) (con (.int 1))) (aCons (bin (on2I iSub) (un opNeg (bin (on2I iPow) (con (.int 10)) (con (.int 12)))) (con (.int 1))) (aCons (bin (on2I iPow) (con (.int 10)) (con (.int 59))) aNil))))))))))) (gN 2))
    (seq (asg (binF hAdd (loc 2) (disp true .lst (aCons (con (.str "")) (aCons (con (.str "a")) (aCons (con (.str "z")) (aCons (con (.str "A")) (aCons (con (.str "ab")) (aCons (con (.str "1")) (aCons (con (.str ".")) aNil))))))))) (gN 2))
    (seq (asg (binF hAdd (loc 2) (disp true .lst (aCons (disp false .tup aNil) (aCons (disp true .lst aNil) (aCons newD (aCons (disp false .tup (aCons (con (.int 0)) aNil)) (aCons (disp false .tup (aCons (con (.str "a")) (aCons (con (.int 1)) (aCons (con (.int 1)) aNil)))) (aCons (disp true .lst (aCons (loc 1) aNil)) (aCons (disp false .tup (aCons (loc 1) aNil)) (aCons (dct1 (.inl 0) (loc 1)) aNil)))))))))) (gN 2))
    (seq (ite (andT (tst (app opIsi (aCons (loc 1) (aCons (con (.op (.ty "int"))) aNil)))) (notT (tst (app opIsi (aCons (loc 1) (aCons (con (.op (.ty "bool"))) aNil)))))) (asg (binF hAdd (loc 2) (bin hMulT (disp true .lst (aCons (bin hAdd (loc 1) (con (.int 1))) (aCons (bin (on2I iSub) (loc 1) (con (.int 1))) (aCons (bin (on2I iSub) (con (.int 0)) (loc 1)) (aCons (app opStrI (aCons (loc 1) aNil)) (aCons (bin opEq (loc 1) (con (.int 1))) aNil)))))) (con (.int 4)))) (gN 2)) sNx)
    (seq (ite (tst (app opIsi (aCons (loc 1) (aCons (con (.op (.ty "str"))) aNil)))) (asg (binF hAdd (loc 2) (bin hMulT (disp true .lst (aCons (bin hAdd (loc 1) (con (.str "a"))) (aCons (cut (loc 1) none (some (un opNeg (con (.int 1))))) (aCons (smet0 opUpper (loc 1)) (aCons (disp false .tup (aCons (loc 1) aNil)) aNil))))) (con (.int 4)))) (gN 2)) sNx)
    (rtn (idx (aCons (loc 2) (aCons (callF S__law_draw (aCons (loc 0) (aCons (app opLen (aCons (loc 2) aNil)) aNil))) aNil)))))))))
noncomputable def S__law_odd : FSem := mkF 2 3 [] b__law_odd
abbrev s__law_bent : Stmt := topS 16
theorem sc__law_bent : FnScope ["_law_pen_here", "_law_thing", "_law_way", "_law_at", "_law_some"] ["_law_pen_here", "_law_thing"] (defScope s__law_bent) := ⟨rfl, rfl, rfl, by decide +kernel, rfl, by decide +kernel, by decide +kernel⟩
noncomputable def b__law_bent (R : FSem) : M Fl := (seq (asg (callF S__law_draw (aCons (loc 0) (aCons (con (.int 9)) aNil))) (gN 2))
    (seq (ite (andT (tst (app opIsi (aCons (loc 1) (aCons (con (.op (.ty "tuple"))) aNil)))) (andT (tst (bin opNeE (loc 1) (disp false .tup aNil))) (tst (bin opGtA (loc 2) (con (.int 3)))))) (seq (asg (callF S__law_draw (aCons (loc 0) (aCons (app opLen (aCons (loc 1) aNil)) aNil))) (gN 3))
    (rtn (bin hAdd (bin hAdd (cut (loc 1) none (some (loc 3))) (disp false .tup (aCons (callF R (aCons (loc 0) (aCons (idx (aCons (loc 1) (aCons (loc 3) aNil))) aNil))) aNil))) (cut (loc 1) (some (bin hAdd (loc 3) (con (.int 1)))) none)))) sNx)
    (seq (ite (andT (tst (app opIsi (aCons (loc 1) (aCons (con (.op (.ty "tuple"))) aNil)))) (tst (bin opLtA (loc 2) (con (.int 4))))) (seq (asg (callF S__law_draw (aCons (loc 0) (aCons (bin hAdd (app opLen (aCons (loc 1) aNil)) (con (.int 1))) aNil))) (gN 3))
    (seq (asg (disp true .lst (aCons (bin hAdd (cut (loc 1) none (some (loc 3))) (cut (loc 1) (some (bin hAdd (loc 3) (con (.int 1)))) none)) (aCons (bin hAdd (cut (loc 1) none (some (bin hAdd (loc 3) (con (.int 1))))) (cut (loc 1) (some (loc 3)) none)) (aCons (app opListA (aCons (loc 1) aNil)) aNil)))) (gN 4))
    (seq (drp (appd 4 (bin hAdd (bin hAdd (cut (loc 1) none (some (loc 3))) (un opRev (cut (loc 1) (some (loc 3)) (some (bin hAdd (loc 3) (con (.int 2))))))) (cut (loc 1) (some (bin hAdd (loc 3) (con (.int 2)))) none))))
    (rtn (idx (aCons (loc 4) (aCons (loc 2) aNil))))))) sNx)
    (rtn (callF S__law_odd (aCons (loc 0) (aCons (loc 1) aNil)))))))
noncomputable def S__law_bent : Nat → FSem
  | 0 => fun _ => .stuck
  | n + 1 => mkF 2 5 [] (b__law_bent (S__law_bent n))
abbrev s_is_letter : Stmt := topS 4
theorem sc_is_letter : FnScope ["value"] ["value"] (defScope s_is_letter) := ⟨rfl, rfl, rfl, by decide +kernel, rfl, by decide +kernel, by decide +kernel⟩
noncomputable def b_is_letter : M Fl := (rtn (andE (app opIsi (aCons (loc 0) (aCons (con (.op (.ty "str"))) aNil))) (andE (bin opEq (app opLen (aCons (loc 0) aNil)) (con (.int 1))) (bin opIn (loc 0) (con (.str "abcdefghijklmnopqrstuvwxyz"))))))
noncomputable def S_is_letter : FSem := mkF 1 1 [] b_is_letter
abbrev s_is_integer : Stmt := topS 2
theorem sc_is_integer : FnScope ["value"] ["value"] (defScope s_is_integer) := ⟨rfl, rfl, rfl, by decide +kernel, rfl, by decide +kernel, by decide +kernel⟩
noncomputable def b_is_integer : M Fl := (rtn (andE (app opIsi (aCons (loc 0) (aCons (con (.op (.ty "int"))) aNil))) (notE (app opIsi (aCons (loc 0) (aCons (con (.op (.ty "bool"))) aNil))))))
noncomputable def S_is_integer : FSem := mkF 1 1 [] b_is_integer
abbrev s_is_between : Stmt := topS 3
theorem sc_is_between : FnScope ["value", "least", "most"] ["value", "least", "most"] (defScope s_is_between) := ⟨rfl, rfl, rfl, by decide +kernel, rfl, by decide +kernel, by decide +kernel⟩
noncomputable def b_is_between : M Fl := (rtn (andE (callF S_is_integer (aCons (loc 0) aNil)) (chI cLe cLe (loc 1) (loc 0) (loc 2))))
noncomputable def S_is_between : FSem := mkF 3 3 [] b_is_between
abbrev s_is_number : Stmt := topS 8
theorem sc_is_number : FnScope ["value"] ["value"] (defScope s_is_number) := ⟨rfl, rfl, rfl, by decide +kernel, rfl, by decide +kernel, by decide +kernel⟩
noncomputable def b_is_number : M Fl := (rtn (callF S_is_between (aCons (loc 0) (aCons (un opNeg (con (.int 1000000000000))) (aCons (con (.int 1000000000000)) aNil)))))
noncomputable def S_is_number : FSem := mkF 1 1 [] b_is_number
abbrev s_is_row : Stmt := topS 9
theorem sc_is_row : FnScope ["value"] ["value"] (defScope s_is_row) := ⟨rfl, rfl, rfl, by decide +kernel, rfl, by decide +kernel, by decide +kernel⟩
noncomputable def b_is_row : M Fl := (seq (ite (orT (notT (tst (app opIsi (aCons (loc 0) (aCons (con (.op (.ty "tuple"))) aNil))))) (tst (bin opNe (app opLen (aCons (loc 0) aNil)) (con (.int 3))))) (rtn (con (.bl false))) sNx)
    (rtn (andE (callF S_is_letter (aCons (idx (aCons (loc 0) (aCons (con (.int 0)) aNil))) aNil)) (andE (callF S_is_number (aCons (idx (aCons (loc 0) (aCons (con (.int 1)) aNil))) aNil)) (callF S_is_number (aCons (idx (aCons (loc 0) (aCons (con (.int 2)) aNil))) aNil))))))
noncomputable def S_is_row : FSem := mkF 1 1 [] b_is_row
abbrev s_is_table : Stmt := topS 10
theorem sc_is_table : FnScope ["value", "row", "later"] ["value"] (defScope s_is_table) := ⟨rfl, rfl, rfl, by decide +kernel, rfl, by decide +kernel, by decide +kernel⟩
noncomputable def b_is_table : M Fl := (seq (ite (orT (notT (tst (app opIsi (aCons (loc 0) (aCons (con (.op (.ty "tuple"))) aNil))))) (notT (tst (chI cLe cLe (con (.int 1)) (app opLen (aCons (loc 0) aNil)) (con (.int 6)))))) (rtn (con (.bl false))) sNx)
    (seq (ite (notT (tst (app opAll (aCons (comp [1] (srcA (loc 0)) (gN 1) yesT (callF S_is_row (aCons (loc 1) aNil))) aNil)))) (rtn (con (.bl false))) sNx)
    (rtn (app opAll (aCons (comp [1, 2] (srcZip .tup (loc 0) (cut (loc 0) (some (con (.int 1))) none)) (gT (gsC (gN 1) (gsC (gN 2) gs0)) 2) yesT (bin opLtA (idx (aCons (loc 1) (aCons (con (.int 0)) aNil))) (idx (aCons (loc 2) (aCons (con (.int 0)) aNil))))) aNil)))))
noncomputable def S_is_table : FSem := mkF 1 3 [] b_is_table
abbrev s__law_is_whole : Stmt := topS 17
theorem sc__law_is_whole : FnScope ["_law_thing"] ["_law_thing"] (defScope s__law_is_whole) := ⟨rfl, rfl, rfl, by decide +kernel, rfl, by decide +kernel, by decide +kernel⟩
noncomputable def b__law_is_whole : M Fl := (seq (ite (orT (notT (tst (app opIsi (aCons (loc 0) (aCons (con (.op (.ty "int"))) aNil))))) (tst (app opIsi (aCons (loc 0) (aCons (con (.op (.ty "bool"))) aNil))))) (rtn (con (.bl false))) sNx)
    (rtn (chI cLe cLe (bin (on2I iSub) (con (.int 0)) (bin (on2I iPow) (con (.int 10)) (con (.int 12)))) (loc 0) (bin (on2I iPow) (con (.int 10)) (con (.int 12))))))
noncomputable def S__law_is_whole : FSem := mkF 1 1 [] b__law_is_whole
abbrev s__law_due : Stmt := topS 18
theorem sc__law_due : FnScope ["_law_thing", "_law_last", "_law_row"] ["_law_thing"] (defScope s__law_due) := ⟨rfl, rfl, rfl, by decide +kernel, rfl, by decide +kernel, by decide +kernel⟩
noncomputable def b__law_due : M Fl := (seq (ite (orT (notT (tst (app opIsi (aCons (loc 0) (aCons (con (.op (.ty "tuple"))) aNil))))) (orT (tst (bin opEq (app opLen (aCons (loc 0) aNil)) (con (.int 0)))) (tst (bin opGtA (app opLen (aCons (loc 0) aNil)) (con (.int 6)))))) (rtn (con (.bl false))) sNx)
    (seq (asg (con (.str "")) (gN 1))
    (seq (forS (srcA (loc 0)) (gN 2) (seq (ite (orT (notT (tst (app opIsi (aCons (loc 2) (aCons (con (.op (.ty "tuple"))) aNil))))) (orT (tst (bin opNe (app opLen (aCons (loc 2) aNil)) (con (.int 3)))) (notT (tst (app opIsi (aCons (idx (aCons (loc 2) (aCons (con (.int 0)) aNil))) (aCons (con (.op (.ty "str"))) aNil))))))) (rtn (con (.bl false))) sNx)
    (seq (ite (orT (tst (bin opNe (app opLen (aCons (idx (aCons (loc 2) (aCons (con (.int 0)) aNil))) aNil)) (con (.int 1)))) (orT (notT (tst (chS dLe dLe (con (.str "a")) (idx (aCons (loc 2) (aCons (con (.int 0)) aNil))) (con (.str "z"))))) (tst (bin opLeA (idx (aCons (loc 2) (aCons (con (.int 0)) aNil))) (loc 1))))) (rtn (con (.bl false))) sNx)
    (seq (ite (orT (notT (tst (callF S__law_is_whole (aCons (idx (aCons (loc 2) (aCons (con (.int 1)) aNil))) aNil)))) (notT (tst (callF S__law_is_whole (aCons (idx (aCons (loc 2) (aCons (con (.int 2)) aNil))) aNil))))) (rtn (con (.bl false))) sNx)
    (asg (idx (aCons (loc 2) (aCons (con (.int 0)) aNil))) (gN 1))))))
    (rtn (con (.bl true))))))
noncomputable def S__law_due : FSem := mkF 1 3 [] b__law_due
abbrev s__law_right : Stmt := topS 19
theorem sc__law_right : FnScope ["_law_thing", "_law_before", "_law_due_here"] ["_law_thing"] (defScope s__law_right) := ⟨rfl, rfl, rfl, by decide +kernel, rfl, by decide +kernel, by decide +kernel⟩
noncomputable def b__law_right : M Fl := (seq (asg (app opReprC (aCons (loc 0) aNil)) (gN 1))
    (seq (asg (app opReprC (aCons (callF S__law_due (aCons (loc 0) aNil)) aNil)) (gN 2))
    (seq (ite (orT (tst (bin opNe (app opReprC (aCons (callF S_is_table (aCons (loc 0) aNil)) aNil)) (loc 2))) (tst (bin opNe (app opReprC (aCons (callF S_is_table (selA 1 [0] (aCons (loc 0) aNil))) aNil)) (loc 2)))) (rtn (con (.bl false))) sNx)
    (rtn (bin opEq (app opReprC (aCons (loc 0) aNil)) (loc 1))))))
noncomputable def S__law_right : FSem := mkF 1 3 [] b__law_right
abbrev s_law : Stmt := topS 20
theorem sc_law : FnScope ["_law_script", "_law_pen_here", "_law_turn", "_law_rules_here", "_law_again", "_law_once", "_law_many", "_law_things", "_law_mark", "_law_thing"] ["_law_script"] (defScope s_law) := ⟨rfl, rfl, rfl, by decide +kernel, rfl, by decide +kernel, by decide +kernel⟩
noncomputable def b_law : M Fl := (seq (asg (callF S__law_pen (aCons (loc 0) aNil)) (gN 1))
    (seq (forS (srcR1 (aCons (con (.int 4)) aNil)) (gN 2) (seq (asg (callF S__law_rules (aCons (loc 1) aNil)) (gN 3))
    (seq (ite (orT (tst (bin opNotB (callF S_is_table (aCons (loc 3) aNil)) (con (.bl true)))) (orT (notT (tst (callF S__law_right (aCons (app opListA (aCons (loc 3) aNil)) aNil)))) (notT (tst (callF S__law_right (aCons (un opRev (loc 3)) aNil)))))) (rtn (con (.bl false))) sNx)
    (seq (forS (srcR1 (aCons (con (.int 6)) aNil)) (gN 4) (seq (asg (callF (S__law_bent 60) (aCons (loc 1) (aCons (loc 3) aNil))) (gN 5))
    (ite (orT (notT (tst (callF S__law_right (aCons (loc 5) aNil)))) (notT (tst (callF S__law_right (aCons (callF (S__law_bent 60) (aCons (loc 1) (aCons (loc 5) aNil))) aNil))))) (rtn (con (.bl false))) sNx)))
    (seq (asg (app opTuple (aCons (comp [8] (srcA (con (.str "abcdefg"))) (gN 8) yesT (disp false .tup (aCons (loc 8) (aCons (con (.int 1)) (aCons (con (.int 0)) aNil))))) aNil)) (gN 6))
    (ite (orT (notT (tst (callF S__law_right (aCons (loc 6) aNil)))) (orT (notT (tst (callF S__law_right (aCons (cut (loc 6) none (some (con (.int 6)))) aNil)))) (notT (tst (callF S__law_right (aCons (bin hAdd (loc 3) (loc 6)) aNil)))))) (rtn (con (.bl false))) sNx))))))
    (seq (asg (disp true .lst (aCons (con .non) (aCons (con (.bl true)) (aCons (disp false .tup aNil) (aCons (disp true .lst aNil) (aCons newD (aCons (con (.str "a 1 0")) (aCons (con (.int 0)) (aCons (disp false .tup (aCons (con (.str "a")) (aCons (con (.int 1)) (aCons (con (.int 0)) aNil)))) (aCons (disp false .tup (aCons (disp false .tup (aCons (con (.str "a")) (aCons (con (.int 1)) (aCons (con (.int 0)) aNil)))) (aCons (disp false .tup (aCons (con (.str "a")) (aCons (con (.int 1)) (aCons (con (.int 0)) aNil)))) aNil))) aNil)))))))))) (gN 7))
    (seq (drp (appd 7 (disp false .tup (aCons (disp false .tup (aCons (con (.str "b")) (aCons (con (.int 0)) (aCons (con (.int 0)) aNil)))) (aCons (disp false .tup (aCons (con (.str "a")) (aCons (con (.int 0)) (aCons (con (.int 0)) aNil)))) aNil)))))
    (rtn (bin opEq (comp [9] (srcA (loc 7)) (gN 9) (notT (tst (callF S__law_right (aCons (loc 9) aNil)))) (loc 9)) (disp true .lst aNil)))))))
noncomputable def S_law : FSem := mkF 1 10 [] b_law
section
variable {P : Program} {w : World} {K : PySem.W.Frag} {mg : Str → Option Value} {base : Heap}
theorem ok__law_pen {f : Addr} {fd : FuncData} (F : Fun K "_law_pen" "_law_pen" s__law_pen f fd) (z_list : mg "list" = none) : FnG P w K mg base 1 f fd ["_law_script"] S__law_pen :=
  fnG (k := 0) (m := 1) F sc__law_pen rfl fun cdv A outer s H E hgd hr => by
    have ft : Fit (cxG P w K mg base ["_law_script"] "_law_pen" (defScope s__law_pen) f cdv A outer s H E) (fun cls d _ H => E cls d H) 0 := ⟨hgd, hr, takes_of rfl rfl rfl rfl⟩
    have hp : PassesOwn (model P w) (cxG P w K mg base ["_law_script"] "_law_pen" (defScope s__law_pen) f cdv A outer s H E).A (cxG P w K mg base ["_law_script"] "_law_pen" (defScope s__law_pen) f cdv A outer s H E).env (cxG P w K mg base ["_law_script"] "_law_pen" (defScope s__law_pen) f cdv A outer s H E).xe := passes_of rfl
    exact (B_1 (S_ret (E_L (A_c (E_ty snd_list call_list_of z_list (A_c (E_cut (E_loc 0) O_0 (O_1 E_int)) A_0)) (A_c E_int (A_c E_int A_0))))))
theorem ok__law_draw {f : Addr} {fd : FuncData} (F : Fun K "_law_draw" "_law_draw" s__law_draw f fd) (z_abs : mg "abs" = none) (z_int : mg "int" = none) (z_len : mg "len" = none) : FnG P w K mg base 1 f fd ["_law_pen_here", "_law_many"] S__law_draw :=
  fnG (k := 0) (m := 7) F sc__law_draw rfl fun cdv A outer s H E hgd hr => by
    have ft : Fit (cxG P w K mg base ["_law_pen_here", "_law_many", "_law_digit", "_law_at", "_law_cell", "_law_large", "_law_mixed"] "_law_draw" (defScope s__law_draw) f cdv A outer s H E) (fun cls d _ H => E cls d H) 0 := ⟨hgd, hr, takes_of rfl rfl rfl rfl⟩
    have hp : PassesOwn (model P w) (cxG P w K mg base ["_law_pen_here", "_law_many", "_law_digit", "_law_at", "_law_cell", "_law_large", "_law_mixed"] "_law_draw" (defScope s__law_draw) f cdv A outer s H E).A (cxG P w K mg base ["_law_pen_here", "_law_many", "_law_digit", "_law_at", "_law_cell", "_law_large", "_law_mixed"] "_law_draw" (defScope s__law_draw) f cdv A outer s H E).env (cxG P w K mg base ["_law_pen_here", "_law_many", "_law_digit", "_law_at", "_law_cell", "_law_large", "_law_mixed"] "_law_draw" (defScope s__law_draw) f cdv A outer s H E).xe := passes_of rfl
    exact (B_c (S_if (T_cmp opd_gtI (E_idx (E_loc 0) E_int) E_int) (B_c (S_set (i := 2) (E_op opd_modI (E_idx (E_loc 0) E_int) (E_loc 1)) sc__law_draw.nd)
    (B_c (S_tg (E_op opd_divI (E_idx (E_loc 0) E_int) (E_loc 1)) (G_i (j := 0) E_int))
    (B_1 (S_ret (E_mov 2))))) B_0)
    (B_c (S_set (i := 3) (E_idx (E_loc 0) E_int) sc__law_draw.nd)
    (B_c (S_tg (E_op opd_addI (E_loc 3) E_int) (G_i (j := 0) E_int))
    (B_c (S_set (i := 4) (E_op opd_addI (E_op opd_mulI E_int (E_loc 3)) E_int) sc__law_draw.nd)
    (B_c (S_if (T_cmp (opd_ne ft.room.units) (E_idx (E_loc 0) E_int) (E_L A_0)) (B_1 (S_set (i := 4) (E_idx (E_idx (E_loc 0) E_int) (E_op opd_modI (E_loc 3) (E_blF snd_len call_lenA z_len (A_c (E_idx (E_loc 0) E_int) A_0)))) sc__law_draw.nd)) B_0)
    (B_c (S_if (PW.pt (W_and (T_cmp opd_ltI (E_loc 3) (E_blF snd_len call_lenA z_len (A_c (E_idx (E_loc 0) E_int) A_0))) (W_and1 (T_cmp opd_geI (E_blF snd_abs call_abs z_abs (A_c (E_loc 4) A_0)) (E_op opd_powI E_int E_int))))) (B_c (S_set (i := 5) (E_op opd_addI (E_op opd_mulI E_int (E_blF snd_abs call_abs z_abs (A_c (E_loc 4) A_0))) (E_ty snd_int1 call_int1 z_int (A_c (E_cmp opd_ltI (E_loc 4) E_int) A_0))) sc__law_draw.nd)
    (B_c (S_tg (E_op opd_divI (E_loc 5) (E_loc 1)) (G_i (j := 0) E_int))
    (B_1 (S_ret (E_op opd_modI (E_loc 5) (E_loc 1)))))) B_0)
    (B_c (S_set (i := 6) (E_op opd_modI (E_op opd_powI (E_op opd_addI (E_op opd_addI (E_op opd_modI (E_loc 4) E_int) (E_op opd_mulI E_int (E_loc 3))) E_int) E_int) E_int) sc__law_draw.nd)
    (B_c (S_set (i := 6) (E_op opd_modI (E_op opd_powI (E_op opd_addI (E_op opd_addI (E_op opd_mulI (E_loc 6) (E_op opd_addI (E_op opd_mulI E_int (E_loc 3)) E_int)) (E_op opd_mulI (E_op opd_mulI E_int (E_loc 3)) (E_loc 3))) E_int) E_int) E_int) sc__law_draw.nd)
    (B_1 (S_ret (E_op opd_modI (E_op opd_divI (E_loc 6) E_int) (E_loc 1))))))))))))
theorem ok__law_rules {f : Addr} {fd : FuncData} (F : Fun K "_law_rules" "_law_rules" s__law_rules f fd) (z_len : mg "len" = none) (z_list : mg "list" = none) (z_range : mg "range" = none) (z_sorted : mg "sorted" = none) (z_tuple : mg "tuple" = none) {f__law_draw : Addr} {fd__law_draw : FuncData} (D__law_draw : Def P w K mg base 1 "_law_draw" f__law_draw fd__law_draw ["_law_pen_here", "_law_many"] S__law_draw) : FnG P w K mg base 2 f fd ["_law_pen_here"] S__law_rules :=
  fnG (k := 1) (m := 9) F sc__law_rules rfl fun cdv A outer s H E hgd hr => by
    have ft : Fit (cxG P w K mg base ["_law_pen_here", "_law_left", "_law_marks", "_law_high", "_law_steep", "_law_rows", "_law_mark", "_law_first", "_law_turn"] "_law_rules" (defScope s__law_rules) f cdv A outer s H E) (fun cls d _ H => E cls d H) 1 := ⟨hgd, hr, takes_of rfl rfl rfl rfl⟩
    have hp : PassesOwn (model P w) (cxG P w K mg base ["_law_pen_here", "_law_left", "_law_marks", "_law_high", "_law_steep", "_law_rows", "_law_mark", "_law_first", "_law_turn"] "_law_rules" (defScope s__law_rules) f cdv A outer s H E).A (cxG P w K mg base ["_law_pen_here", "_law_left", "_law_marks", "_law_high", "_law_steep", "_law_rows", "_law_mark", "_law_first", "_law_turn"] "_law_rules" (defScope s__law_rules) f cdv A outer s H E).env (cxG P w K mg base ["_law_pen_here", "_law_left", "_law_marks", "_law_high", "_law_steep", "_law_rows", "_law_mark", "_law_first", "_law_turn"] "_law_rules" (defScope s__law_rules) f cdv A outer s H E).xe := passes_of rfl
    exact (B_c (S_set (i := 1) (E_ty snd_listA (call_listA rfl) z_list (A_c E_str A_0)) sc__law_rules.nd)
    (B_c (S_set (i := 2) (E_blF snd_sorted call_sortedA z_sorted (A_c (E_lc (own := [("_law_turn", 8)]) sc__law_rules.nd (I_r1 z_range (E_op opd_hAdd E_int (E_call D__law_draw ft (A_c (E_loc 0) (A_c E_int A_0))))) (show BlkOk ["_law_pen_here", "_law_left", "_law_marks", "_law_high", "_law_steep", "_law_rows", "_law_mark", "_law_first", "_law_turn"] (defScope s__law_rules) _ [("_law_turn", 8)] from ⟨rfl, by decide +kernel, by decide +kernel, by decide +kernel, by decide +kernel⟩) (fun _ _ _ _ _ => (G_n (i := 8) sc__law_rules.nd)) (fun _ _ _ _ _ => Ts_0) (fun _ _ _ _ _ => (E_popi (j := 1) (E_call D__law_draw (Fit.blk ft) (A_c (E_loc 0) (A_c (E_blF snd_len call_lenA z_len (A_c (E_loc 1) A_0)) A_0)))))) A_0)) sc__law_rules.nd)
    (B_c (S_set (i := 3) (E_idx (E_L (A_c E_int (A_c E_int (A_c E_int (A_c E_int (A_c (E_op opd_powI E_int E_int) A_0)))))) (E_call D__law_draw ft (A_c (E_loc 0) (A_c E_int A_0)))) sc__law_rules.nd)
    (B_c (S_set (i := 4) (E_idx (E_L (A_c E_int (A_c E_int (A_c E_int (A_c E_int (A_c (E_op opd_powI E_int E_int) A_0)))))) (E_call D__law_draw ft (A_c (E_loc 0) (A_c E_int A_0)))) sc__law_rules.nd)
    (B_c (S_set (i := 5) (E_L A_0) sc__law_rules.nd)
    (B_c (S_for hp (I_a (E_loc 2)) (G_n (i := 6) sc__law_rules.nd) (B_c (S_set (i := 7) (E_op opd_subI (E_call D__law_draw ft (A_c (E_loc 0) (A_c (E_op opd_hAdd (E_op opd_hMulT E_int (E_loc 3)) E_int) A_0))) (E_loc 3)) sc__law_rules.nd)
    (B_1 (S_ex (E_app (j := 5) (E_T (A_c (E_loc 6) (A_c (E_loc 7) (A_c (E_op opd_subI (E_call D__law_draw ft (A_c (E_loc 0) (A_c (E_op opd_hAdd (E_op opd_hMulT E_int (E_loc 4)) E_int) A_0))) (E_loc 4)) A_0)))))))))
    (B_1 (S_ret (E_ty snd_tuple call_tuple_of z_tuple (A_c (E_loc 5) A_0))))))))))
theorem ok__law_odd {f : Addr} {fd : FuncData} (F : Fun K "_law_odd" "_law_odd" s__law_odd f fd) (z_bool : mg "bool" = none) (z_int : mg "int" = none) (z_isinstance : mg "isinstance" = none) (z_len : mg "len" = none) (z_str : mg "str" = none) {f__law_draw : Addr} {fd__law_draw : FuncData} (D__law_draw : Def P w K mg base 1 "_law_draw" f__law_draw fd__law_draw ["_law_pen_here", "_law_many"] S__law_draw) : FnG P w K mg base 2 f fd ["_law_pen_here", "_law_thing"] S__law_odd :=
  fnG (k := 1) (m := 3) F sc__law_odd rfl fun cdv A outer s H E hgd hr => by
    have ft : Fit (cxG P w K mg base ["_law_pen_here", "_law_thing", "_law_some"] "_law_odd" (defScope s__law_odd) f cdv A outer s H E) (fun cls d _ H => E cls d H) 1 := ⟨hgd, hr, takes_of rfl rfl rfl rfl⟩
    have hp : PassesOwn (model P w) (cxG P w K mg base ["_law_pen_here", "_law_thing", "_law_some"] "_law_odd" (defScope s__law_odd) f cdv A outer s H E).A (cxG P w K mg base ["_law_pen_here", "_law_thing", "_law_some"] "_law_odd" (defScope s__law_odd) f cdv A outer s H E).env (cxG P w K mg base ["_law_pen_here", "_law_thing", "_law_some"] "_law_odd" (defScope s__law_odd) f cdv A outer s H E).xe := passes_of rfl
    exact (B_c (S_set (i := 2) (E_L (A_c E_non (A_c E_bl (A_c E_bl (A_c E_int (A_c (E_neg E_int) (A_c E_int (A_c (E_op opd_powI E_int E_int) (A_c (E_op opd_hAdd (E_op opd_powI E_int E_int) E_int) (A_c (E_op opd_subI (E_neg (E_op opd_powI E_int E_int)) E_int) (A_c (E_op opd_powI E_int E_int) A_0))))))))))) sc__law_odd.nd)
    (B_c (S_set (i := 2) (E_opF opd_hAdd (E_loc 2) (E_L (A_c E_str (A_c E_str (A_c E_str (A_c E_str (A_c E_str (A_c E_str (A_c E_str A_0))))))))) sc__law_odd.nd)
    (B_c (S_set (i := 2) (E_opF opd_hAdd (E_loc 2) (E_L (A_c (E_T A_0) (A_c (E_L A_0) (A_c E_D0 (A_c (E_T (A_c E_int A_0)) (A_c (E_T (A_c E_str (A_c E_int (A_c E_int A_0)))) (A_c (E_L (A_c (E_loc 1) A_0)) (A_c (E_T (A_c (E_loc 1) A_0)) (A_c (E_D1i (E_loc 1)) A_0)))))))))) sc__law_odd.nd)
    (B_c (S_if (PW.pt (W_and (T_v (E_blF snd_isi L2.call_isi z_isinstance (A_c (E_loc 1) (A_c (E_ty1 z_int) A_0)))) (W_and1 (T_not (T_v (E_blF snd_isi L2.call_isi z_isinstance (A_c (E_loc 1) (A_c (E_ty1 z_bool) A_0)))))))) (B_1 (S_set (i := 2) (E_opF opd_hAdd (E_loc 2) (E_op opd_hMulT (E_L (A_c (E_op opd_hAdd (E_loc 1) E_int) (A_c (E_op opd_subI (E_loc 1) E_int) (A_c (E_op opd_subI E_int (E_loc 1)) (A_c (E_ty snd_strI call_str_int z_str (A_c (E_loc 1) A_0)) (A_c (E_cmp (opd_eq ft.room.units) (E_loc 1) E_int) A_0)))))) E_int)) sc__law_odd.nd)) B_0)
    (B_c (S_if (T_v (E_blF snd_isi L2.call_isi z_isinstance (A_c (E_loc 1) (A_c (E_ty1 z_str) A_0)))) (B_1 (S_set (i := 2) (E_opF opd_hAdd (E_loc 2) (E_op opd_hMulT (E_L (A_c (E_op opd_hAdd (E_loc 1) E_str) (A_c (E_cut (E_loc 1) O_0 (O_1 (E_neg E_int))) (A_c (E_upper (E_loc 1)) (A_c (E_T (A_c (E_loc 1) A_0)) A_0))))) E_int)) sc__law_odd.nd)) B_0)
    (B_1 (S_ret (E_idx (E_loc 2) (E_call D__law_draw ft (A_c (E_loc 0) (A_c (E_blF snd_len call_lenA z_len (A_c (E_loc 2) A_0)) A_0)))))))))))
theorem ok__law_bent {f : Addr} {fd : FuncData} (F : Fun K "_law_bent" "_law_bent" s__law_bent f fd) (z_isinstance : mg "isinstance" = none) (z_len : mg "len" = none) (z_list : mg "list" = none) (z_tuple : mg "tuple" = none) {f__law_draw : Addr} {fd__law_draw : FuncData} (D__law_draw : Def P w K mg base 1 "_law_draw" f__law_draw fd__law_draw ["_law_pen_here", "_law_many"] S__law_draw) {f__law_odd : Addr} {fd__law_odd : FuncData} (D__law_odd : Def P w K mg base 2 "_law_odd" f__law_odd fd__law_odd ["_law_pen_here", "_law_thing"] S__law_odd) (hmg : mg "_law_bent" = some (.ref f)) (hkp : PySem.W.keepIn K (.ref f) = true) (hbd : Binds K fd ["_law_pen_here", "_law_thing"] []) : ∀ n : Nat, FnG P w K mg base (n + 3) f fd ["_law_pen_here", "_law_thing"] (S__law_bent n)
  | 0 => fnG_stuck
  | n + 1 => fnG (k := n + 3) (m := 5) F sc__law_bent rfl fun cdv A outer s H E hgd hr => by
    have D__law_bent : Def P w K mg base (n + 3) "_law_bent" f fd ["_law_pen_here", "_law_thing"] (S__law_bent n) := ⟨ok__law_bent F z_isinstance z_len z_list z_tuple D__law_draw D__law_odd hmg hkp hbd n, hmg, hkp, hbd⟩
    have ft : Fit (cxG P w K mg base ["_law_pen_here", "_law_thing", "_law_way", "_law_at", "_law_some"] "_law_bent" (defScope s__law_bent) f cdv A outer s H E) (fun cls d _ H => E cls d H) (n + 3) := ⟨hgd, hr, takes_of rfl rfl rfl rfl⟩
    have hp : PassesOwn (model P w) (cxG P w K mg base ["_law_pen_here", "_law_thing", "_law_way", "_law_at", "_law_some"] "_law_bent" (defScope s__law_bent) f cdv A outer s H E).A (cxG P w K mg base ["_law_pen_here", "_law_thing", "_law_way", "_law_at", "_law_some"] "_law_bent" (defScope s__law_bent) f cdv A outer s H E).env (cxG P w K mg base ["_law_pen_here", "_law_thing", "_law_way", "_law_at", "_law_some"] "_law_bent" (defScope s__law_bent) f cdv A outer s H E).xe := passes_of rfl
    exact (B_c (S_set (i := 2) (E_call D__law_draw ft (A_c (E_loc 0) (A_c E_int A_0))) sc__law_bent.nd)
    (B_c (S_if (PW.pt (W_and (T_v (E_blF snd_isi L2.call_isi z_isinstance (A_c (E_loc 1) (A_c (E_ty1 z_tuple) A_0)))) (W_and (T_cmp (opd_neE ft.room.units) (E_loc 1) (E_T A_0)) (W_and1 (T_cmp opd_gtA (E_loc 2) E_int))))) (B_c (S_set (i := 3) (E_call D__law_draw ft (A_c (E_loc 0) (A_c (E_blF snd_len call_lenA z_len (A_c (E_loc 1) A_0)) A_0))) sc__law_bent.nd)
    (B_1 (S_ret (E_op opd_hAdd (E_op opd_hAdd (E_cut (E_loc 1) O_0 (O_1 (E_loc 3))) (E_T (A_c (E_call D__law_bent ft (A_c (E_loc 0) (A_c (E_idx (E_loc 1) (E_loc 3)) A_0))) A_0))) (E_cut (E_loc 1) (O_1 (E_op opd_hAdd (E_loc 3) E_int)) O_0))))) B_0)
    (B_c (S_if (PW.pt (W_and (T_v (E_blF snd_isi L2.call_isi z_isinstance (A_c (E_loc 1) (A_c (E_ty1 z_tuple) A_0)))) (W_and1 (T_cmp (opd_ltA ft.room.units) (E_loc 2) E_int)))) (B_c (S_set (i := 3) (E_call D__law_draw ft (A_c (E_loc 0) (A_c (E_op opd_hAdd (E_blF snd_len call_lenA z_len (A_c (E_loc 1) A_0)) E_int) A_0))) sc__law_bent.nd)
    (B_c (S_set (i := 4) (E_L (A_c (E_op opd_hAdd (E_cut (E_loc 1) O_0 (O_1 (E_loc 3))) (E_cut (E_loc 1) (O_1 (E_op opd_hAdd (E_loc 3) E_int)) O_0)) (A_c (E_op opd_hAdd (E_cut (E_loc 1) O_0 (O_1 (E_op opd_hAdd (E_loc 3) E_int))) (E_cut (E_loc 1) (O_1 (E_loc 3)) O_0)) (A_c (E_ty snd_listA (call_listA rfl) z_list (A_c (E_loc 1) A_0)) A_0)))) sc__law_bent.nd)
    (B_c (S_ex (E_app (j := 4) (E_op opd_hAdd (E_op opd_hAdd (E_cut (E_loc 1) O_0 (O_1 (E_loc 3))) (E_rev (E_cut (E_loc 1) (O_1 (E_loc 3)) (O_1 (E_op opd_hAdd (E_loc 3) E_int))))) (E_cut (E_loc 1) (O_1 (E_op opd_hAdd (E_loc 3) E_int)) O_0))))
    (B_1 (S_ret (E_idx (E_loc 4) (E_loc 2))))))) B_0)
    (B_1 (S_ret (E_call D__law_odd ft (A_c (E_loc 0) (A_c (E_loc 1) A_0))))))))
theorem ok_is_letter {f : Addr} {fd : FuncData} (F : Fun K "is_letter" "is_letter" s_is_letter f fd) (z_isinstance : mg "isinstance" = none) (z_len : mg "len" = none) (z_str : mg "str" = none) {t_LETTERS : Tok} (g_LETTERS : mg "LETTERS" = some (.str "abcdefghijklmnopqrstuvwxyz" t_LETTERS)) : FnG P w K mg base 1 f fd ["value"] S_is_letter :=
  fnG (k := 0) (m := 1) F sc_is_letter rfl fun cdv A outer s H E hgd hr => by
    have ft : Fit (cxG P w K mg base ["value"] "is_letter" (defScope s_is_letter) f cdv A outer s H E) (fun cls d _ H => E cls d H) 0 := ⟨hgd, hr, takes_of rfl rfl rfl rfl⟩
    have hp : PassesOwn (model P w) (cxG P w K mg base ["value"] "is_letter" (defScope s_is_letter) f cdv A outer s H E).A (cxG P w K mg base ["value"] "is_letter" (defScope s_is_letter) f cdv A outer s H E).env (cxG P w K mg base ["value"] "is_letter" (defScope s_is_letter) f cdv A outer s H E).xe := passes_of rfl
    exact (B_1 (S_ret (E_and (E_blF snd_isi L2.call_isi z_isinstance (A_c (E_loc 0) (A_c (E_ty1 z_str) A_0))) (E_and (E_cmp (opd_eq ft.room.units) (E_blF snd_len call_lenA z_len (A_c (E_loc 0) A_0)) E_int) (E_one (E_cmp opd_in (E_loc 0) (E_gs g_LETTERS)))))))
theorem ok_is_integer {f : Addr} {fd : FuncData} (F : Fun K "is_integer" "is_integer" s_is_integer f fd) (z_bool : mg "bool" = none) (z_int : mg "int" = none) (z_isinstance : mg "isinstance" = none) : FnG P w K mg base 1 f fd ["value"] S_is_integer :=
  fnG (k := 0) (m := 1) F sc_is_integer rfl fun cdv A outer s H E hgd hr => by
    have ft : Fit (cxG P w K mg base ["value"] "is_integer" (defScope s_is_integer) f cdv A outer s H E) (fun cls d _ H => E cls d H) 0 := ⟨hgd, hr, takes_of rfl rfl rfl rfl⟩
    have hp : PassesOwn (model P w) (cxG P w K mg base ["value"] "is_integer" (defScope s_is_integer) f cdv A outer s H E).A (cxG P w K mg base ["value"] "is_integer" (defScope s_is_integer) f cdv A outer s H E).env (cxG P w K mg base ["value"] "is_integer" (defScope s_is_integer) f cdv A outer s H E).xe := passes_of rfl
    exact (B_1 (S_ret (E_and (E_blF snd_isi L2.call_isi z_isinstance (A_c (E_loc 0) (A_c (E_ty1 z_int) A_0))) (E_one (E_not (E_blF snd_isi L2.call_isi z_isinstance (A_c (E_loc 0) (A_c (E_ty1 z_bool) A_0))))))))
theorem ok_is_between {f : Addr} {fd : FuncData} (F : Fun K "is_between" "is_between" s_is_between f fd) {f_is_integer : Addr} {fd_is_integer : FuncData} (D_is_integer : Def P w K mg base 1 "is_integer" f_is_integer fd_is_integer ["value"] S_is_integer) : FnG P w K mg base 2 f fd ["value", "least", "most"] S_is_between :=
  fnG (k := 1) (m := 3) F sc_is_between rfl fun cdv A outer s H E hgd hr => by
    have ft : Fit (cxG P w K mg base ["value", "least", "most"] "is_between" (defScope s_is_between) f cdv A outer s H E) (fun cls d _ H => E cls d H) 1 := ⟨hgd, hr, takes_of rfl rfl rfl rfl⟩
    have hp : PassesOwn (model P w) (cxG P w K mg base ["value", "least", "most"] "is_between" (defScope s_is_between) f cdv A outer s H E).A (cxG P w K mg base ["value", "least", "most"] "is_between" (defScope s_is_between) f cdv A outer s H E).env (cxG P w K mg base ["value", "least", "most"] "is_between" (defScope s_is_between) f cdv A outer s H E).xe := passes_of rfl
    exact (B_1 (S_ret (E_and (E_call D_is_integer ft (A_c (E_loc 0) A_0)) (E_one (E_ch oc_le oc_le (E_loc 1) (E_loc 0) (E_loc 2))))))
theorem ok_is_number {f : Addr} {fd : FuncData} (F : Fun K "is_number" "is_number" s_is_number f fd) {t_GREATEST : Tok} (g_GREATEST : mg "GREATEST" = some (.int 1000000000000 t_GREATEST)) {f_is_between : Addr} {fd_is_between : FuncData} (D_is_between : Def P w K mg base 2 "is_between" f_is_between fd_is_between ["value", "least", "most"] S_is_between) : FnG P w K mg base 3 f fd ["value"] S_is_number :=
  fnG (k := 2) (m := 1) F sc_is_number rfl fun cdv A outer s H E hgd hr => by
    have ft : Fit (cxG P w K mg base ["value"] "is_number" (defScope s_is_number) f cdv A outer s H E) (fun cls d _ H => E cls d H) 2 := ⟨hgd, hr, takes_of rfl rfl rfl rfl⟩
    have hp : PassesOwn (model P w) (cxG P w K mg base ["value"] "is_number" (defScope s_is_number) f cdv A outer s H E).A (cxG P w K mg base ["value"] "is_number" (defScope s_is_number) f cdv A outer s H E).env (cxG P w K mg base ["value"] "is_number" (defScope s_is_number) f cdv A outer s H E).xe := passes_of rfl
    exact (B_1 (S_ret (E_call D_is_between ft (A_c (E_loc 0) (A_c (E_neg (E_gi g_GREATEST)) (A_c (E_gi g_GREATEST) A_0))))))
theorem ok_is_row {f : Addr} {fd : FuncData} (F : Fun K "is_row" "is_row" s_is_row f fd) (z_isinstance : mg "isinstance" = none) (z_len : mg "len" = none) (z_tuple : mg "tuple" = none) {f_is_letter : Addr} {fd_is_letter : FuncData} (D_is_letter : Def P w K mg base 1 "is_letter" f_is_letter fd_is_letter ["value"] S_is_letter) {f_is_number : Addr} {fd_is_number : FuncData} (D_is_number : Def P w K mg base 3 "is_number" f_is_number fd_is_number ["value"] S_is_number) : FnG P w K mg base 4 f fd ["value"] S_is_row :=
  fnG (k := 3) (m := 1) F sc_is_row rfl fun cdv A outer s H E hgd hr => by
    have ft : Fit (cxG P w K mg base ["value"] "is_row" (defScope s_is_row) f cdv A outer s H E) (fun cls d _ H => E cls d H) 3 := ⟨hgd, hr, takes_of rfl rfl rfl rfl⟩
    have hp : PassesOwn (model P w) (cxG P w K mg base ["value"] "is_row" (defScope s_is_row) f cdv A outer s H E).A (cxG P w K mg base ["value"] "is_row" (defScope s_is_row) f cdv A outer s H E).env (cxG P w K mg base ["value"] "is_row" (defScope s_is_row) f cdv A outer s H E).xe := passes_of rfl
    exact (B_c (S_if (PW.pt (W_or (T_not (T_v (E_blF snd_isi L2.call_isi z_isinstance (A_c (E_loc 0) (A_c (E_ty1 z_tuple) A_0))))) (W_or1 (T_cmp (opd_ne ft.room.units) (E_blF snd_len call_lenA z_len (A_c (E_loc 0) A_0)) E_int)))) (B_1 (S_ret E_bl)) B_0)
    (B_1 (S_ret (E_and (E_call D_is_letter ft (A_c (E_idx (E_loc 0) E_int) A_0)) (E_and (E_call D_is_number ft (A_c (E_idx (E_loc 0) E_int) A_0)) (E_one (E_call D_is_number ft (A_c (E_idx (E_loc 0) E_int) A_0))))))))
theorem ok_is_table {f : Addr} {fd : FuncData} (F : Fun K "is_table" "is_table" s_is_table f fd) (z_all : mg "all" = none) (z_isinstance : mg "isinstance" = none) (z_len : mg "len" = none) (z_tuple : mg "tuple" = none) (z_zip : mg "zip" = none) {t_MOST_LETTERS : Tok} (g_MOST_LETTERS : mg "MOST_LETTERS" = some (.int 6 t_MOST_LETTERS)) {f_is_row : Addr} {fd_is_row : FuncData} (D_is_row : Def P w K mg base 4 "is_row" f_is_row fd_is_row ["value"] S_is_row) : FnG P w K mg base 5 f fd ["value"] S_is_table :=
  fnG (k := 4) (m := 3) F sc_is_table rfl fun cdv A outer s H E hgd hr => by
    have ft : Fit (cxG P w K mg base ["value", "row", "later"] "is_table" (defScope s_is_table) f cdv A outer s H E) (fun cls d _ H => E cls d H) 4 := ⟨hgd, hr, takes_of rfl rfl rfl rfl⟩
    have hp : PassesOwn (model P w) (cxG P w K mg base ["value", "row", "later"] "is_table" (defScope s_is_table) f cdv A outer s H E).A (cxG P w K mg base ["value", "row", "later"] "is_table" (defScope s_is_table) f cdv A outer s H E).env (cxG P w K mg base ["value", "row", "later"] "is_table" (defScope s_is_table) f cdv A outer s H E).xe := passes_of rfl
    exact (B_c (S_if (PW.pt (W_or (T_not (T_v (E_blF snd_isi L2.call_isi z_isinstance (A_c (E_loc 0) (A_c (E_ty1 z_tuple) A_0))))) (W_or1 (T_not (T_ch oc_le oc_le E_int (E_blF snd_len call_lenA z_len (A_c (E_loc 0) A_0)) (E_gi g_MOST_LETTERS)))))) (B_1 (S_ret E_bl)) B_0)
    (B_c (S_if (T_not (T_v (E_blF snd_all (cr_all rfl) z_all (A_c (E_lc (own := [("row", 1)]) sc_is_table.nd (I_a (E_loc 0)) (show BlkOk ["value", "row", "later"] (defScope s_is_table) _ [("row", 1)] from ⟨rfl, by decide +kernel, by decide +kernel, by decide +kernel, by decide +kernel⟩) (fun _ _ _ _ _ => (G_n (i := 1) sc_is_table.nd)) (fun _ _ _ _ _ => Ts_0) (fun _ _ _ _ _ => (E_call D_is_row (Fit.blk ft) (A_c (E_loc 1) A_0)))) A_0)))) (B_1 (S_ret E_bl)) B_0)
    (B_1 (S_ret (E_blF snd_all (cr_all rfl) z_all (A_c (E_lc (own := [("row", 1), ("later", 2)]) sc_is_table.nd (I_zipT z_zip (E_loc 0) (E_cut (E_loc 0) (O_1 E_int) O_0)) (show BlkOk ["value", "row", "later"] (defScope s_is_table) _ [("row", 1), ("later", 2)] from ⟨rfl, by decide +kernel, by decide +kernel, by decide +kernel, by decide +kernel⟩) (fun _ _ _ _ _ => (G_t (Gs_c (G_n (i := 1) sc_is_table.nd) (Gs_c (G_n (i := 2) sc_is_table.nd) Gs_0)))) (fun _ _ _ _ _ => Ts_0) (fun _ _ _ _ _ => (E_cmp (opd_ltA (Fit.blk ft).room.units) (E_idx (E_loc 1) E_int) (E_idx (E_loc 2) E_int)))) A_0))))))
theorem ok__law_is_whole {f : Addr} {fd : FuncData} (F : Fun K "_law_is_whole" "_law_is_whole" s__law_is_whole f fd) (z_bool : mg "bool" = none) (z_int : mg "int" = none) (z_isinstance : mg "isinstance" = none) : FnG P w K mg base 1 f fd ["_law_thing"] S__law_is_whole :=
  fnG (k := 0) (m := 1) F sc__law_is_whole rfl fun cdv A outer s H E hgd hr => by
    have ft : Fit (cxG P w K mg base ["_law_thing"] "_law_is_whole" (defScope s__law_is_whole) f cdv A outer s H E) (fun cls d _ H => E cls d H) 0 := ⟨hgd, hr, takes_of rfl rfl rfl rfl⟩
    have hp : PassesOwn (model P w) (cxG P w K mg base ["_law_thing"] "_law_is_whole" (defScope s__law_is_whole) f cdv A outer s H E).A (cxG P w K mg base ["_law_thing"] "_law_is_whole" (defScope s__law_is_whole) f cdv A outer s H E).env (cxG P w K mg base ["_law_thing"] "_law_is_whole" (defScope s__law_is_whole) f cdv A outer s H E).xe := passes_of rfl
    exact (B_c (S_if (PW.pt (W_or (T_not (T_v (E_blF snd_isi L2.call_isi z_isinstance (A_c (E_loc 0) (A_c (E_ty1 z_int) A_0))))) (W_or1 (T_v (E_blF snd_isi L2.call_isi z_isinstance (A_c (E_loc 0) (A_c (E_ty1 z_bool) A_0))))))) (B_1 (S_ret E_bl)) B_0)
    (B_1 (S_ret (E_ch oc_le oc_le (E_op opd_subI E_int (E_op opd_powI E_int E_int)) (E_loc 0) (E_op opd_powI E_int E_int)))))
theorem ok__law_due {f : Addr} {fd : FuncData} (F : Fun K "_law_due" "_law_due" s__law_due f fd) (z_isinstance : mg "isinstance" = none) (z_len : mg "len" = none) (z_str : mg "str" = none) (z_tuple : mg "tuple" = none) {f__law_is_whole : Addr} {fd__law_is_whole : FuncData} (D__law_is_whole : Def P w K mg base 1 "_law_is_whole" f__law_is_whole fd__law_is_whole ["_law_thing"] S__law_is_whole) : FnG P w K mg base 2 f fd ["_law_thing"] S__law_due :=
  fnG (k := 1) (m := 3) F sc__law_due rfl fun cdv A outer s H E hgd hr => by
    have ft : Fit (cxG P w K mg base ["_law_thing", "_law_last", "_law_row"] "_law_due" (defScope s__law_due) f cdv A outer s H E) (fun cls d _ H => E cls d H) 1 := ⟨hgd, hr, takes_of rfl rfl rfl rfl⟩
    have hp : PassesOwn (model P w) (cxG P w K mg base ["_law_thing", "_law_last", "_law_row"] "_law_due" (defScope s__law_due) f cdv A outer s H E).A (cxG P w K mg base ["_law_thing", "_law_last", "_law_row"] "_law_due" (defScope s__law_due) f cdv A outer s H E).env (cxG P w K mg base ["_law_thing", "_law_last", "_law_row"] "_law_due" (defScope s__law_due) f cdv A outer s H E).xe := passes_of rfl
    exact (B_c (S_if (PW.pt (W_or (T_not (T_v (E_blF snd_isi L2.call_isi z_isinstance (A_c (E_loc 0) (A_c (E_ty1 z_tuple) A_0))))) (W_or (T_cmp (opd_eq ft.room.units) (E_blF snd_len call_lenA z_len (A_c (E_loc 0) A_0)) E_int) (W_or1 (T_cmp opd_gtA (E_blF snd_len call_lenA z_len (A_c (E_loc 0) A_0)) E_int))))) (B_1 (S_ret E_bl)) B_0)
    (B_c (S_set (i := 1) E_str sc__law_due.nd)
    (B_c (S_for hp (I_a (E_loc 0)) (G_n (i := 2) sc__law_due.nd) (B_c (S_if (PW.pt (W_or (T_not (T_v (E_blF snd_isi L2.call_isi z_isinstance (A_c (E_loc 2) (A_c (E_ty1 z_tuple) A_0))))) (W_or (T_cmp (opd_ne ft.room.units) (E_blF snd_len call_lenA z_len (A_c (E_loc 2) A_0)) E_int) (W_or1 (T_not (T_v (E_blF snd_isi L2.call_isi z_isinstance (A_c (E_idx (E_loc 2) E_int) (A_c (E_ty1 z_str) A_0))))))))) (B_1 (S_ret E_bl)) B_0)
    (B_c (S_if (PW.pt (W_or (T_cmp (opd_ne ft.room.units) (E_blF snd_len call_lenA z_len (A_c (E_idx (E_loc 2) E_int) A_0)) E_int) (W_or (T_not (T_chS od_le od_le E_str (E_idx (E_loc 2) E_int) E_str)) (W_or1 (T_cmp opd_leA (E_idx (E_loc 2) E_int) (E_loc 1)))))) (B_1 (S_ret E_bl)) B_0)
    (B_c (S_if (PW.pt (W_or (T_not (T_v (E_call D__law_is_whole ft (A_c (E_idx (E_loc 2) E_int) A_0)))) (W_or1 (T_not (T_v (E_call D__law_is_whole ft (A_c (E_idx (E_loc 2) E_int) A_0))))))) (B_1 (S_ret E_bl)) B_0)
    (B_1 (S_set (i := 1) (E_idx (E_loc 2) E_int) sc__law_due.nd))))))
    (B_1 (S_ret E_bl)))))
theorem ok__law_right {f : Addr} {fd : FuncData} (F : Fun K "_law_right" "_law_right" s__law_right f fd) (z_repr : mg "repr" = none) {f__law_due : Addr} {fd__law_due : FuncData} (D__law_due : Def P w K mg base 2 "_law_due" f__law_due fd__law_due ["_law_thing"] S__law_due) {f_is_table : Addr} {fd_is_table : FuncData} (D_is_table : Def P w K mg base 5 "is_table" f_is_table fd_is_table ["value"] S_is_table) (kb_is_table_0_value : KwB K fd_is_table ["value"] ["value"] 0 [0]) : FnG P w K mg base 6 f fd ["_law_thing"] S__law_right :=
  fnG (k := 5) (m := 3) F sc__law_right rfl fun cdv A outer s H E hgd hr => by
    have ft : Fit (cxG P w K mg base ["_law_thing", "_law_before", "_law_due_here"] "_law_right" (defScope s__law_right) f cdv A outer s H E) (fun cls d _ H => E cls d H) 5 := ⟨hgd, hr, takes_of rfl rfl rfl rfl⟩
    have hp : PassesOwn (model P w) (cxG P w K mg base ["_law_thing", "_law_before", "_law_due_here"] "_law_right" (defScope s__law_right) f cdv A outer s H E).A (cxG P w K mg base ["_law_thing", "_law_before", "_law_due_here"] "_law_right" (defScope s__law_right) f cdv A outer s H E).env (cxG P w K mg base ["_law_thing", "_law_before", "_law_due_here"] "_law_right" (defScope s__law_right) f cdv A outer s H E).xe := passes_of rfl
    exact (B_c (S_set (i := 1) (E_blF snd_reprC (call_reprC ft.gd ft.room.units) z_repr (A_c (E_loc 0) A_0)) sc__law_right.nd)
    (B_c (S_set (i := 2) (E_blF snd_reprC (call_reprC ft.gd ft.room.units) z_repr (A_c (E_call D__law_due ft (A_c (E_loc 0) A_0)) A_0)) sc__law_right.nd)
    (B_c (S_if (PW.pt (W_or (T_cmp (opd_ne ft.room.units) (E_blF snd_reprC (call_reprC ft.gd ft.room.units) z_repr (A_c (E_call D_is_table ft (A_c (E_loc 0) A_0)) A_0)) (E_loc 2)) (W_or1 (T_cmp (opd_ne ft.room.units) (E_blF snd_reprC (call_reprC ft.gd ft.room.units) z_repr (A_c (E_callK0 D_is_table ft kb_is_table_0_value (K_c (E_loc 0) K_0)) A_0)) (E_loc 2))))) (B_1 (S_ret E_bl)) B_0)
    (B_1 (S_ret (E_cmp (opd_eq ft.room.units) (E_blF snd_reprC (call_reprC ft.gd ft.room.units) z_repr (A_c (E_loc 0) A_0)) (E_loc 1)))))))
theorem ok_law {f : Addr} {fd : FuncData} (F : Fun K "law" "law" s_law f fd) (z_list : mg "list" = none) (z_range : mg "range" = none) (z_tuple : mg "tuple" = none) {f__law_pen : Addr} {fd__law_pen : FuncData} (D__law_pen : Def P w K mg base 1 "_law_pen" f__law_pen fd__law_pen ["_law_script"] S__law_pen) {f__law_rules : Addr} {fd__law_rules : FuncData} (D__law_rules : Def P w K mg base 2 "_law_rules" f__law_rules fd__law_rules ["_law_pen_here"] S__law_rules) {f__law_bent : Addr} {fd__law_bent : FuncData} (D__law_bent : Def P w K mg base 63 "_law_bent" f__law_bent fd__law_bent ["_law_pen_here", "_law_thing"] (S__law_bent 60)) {f_is_table : Addr} {fd_is_table : FuncData} (D_is_table : Def P w K mg base 5 "is_table" f_is_table fd_is_table ["value"] S_is_table) {f__law_right : Addr} {fd__law_right : FuncData} (D__law_right : Def P w K mg base 6 "_law_right" f__law_right fd__law_right ["_law_thing"] S__law_right) : FnG P w K mg base 64 f fd ["_law_script"] S_law :=
  fnG (k := 63) (m := 10) F sc_law rfl fun cdv A outer s H E hgd hr => by
    have ft : Fit (cxG P w K mg base ["_law_script", "_law_pen_here", "_law_turn", "_law_rules_here", "_law_again", "_law_once", "_law_many", "_law_things", "_law_mark", "_law_thing"] "law" (defScope s_law) f cdv A outer s H E) (fun cls d _ H => E cls d H) 63 := ⟨hgd, hr, takes_of rfl rfl rfl rfl⟩
    have hp : PassesOwn (model P w) (cxG P w K mg base ["_law_script", "_law_pen_here", "_law_turn", "_law_rules_here", "_law_again", "_law_once", "_law_many", "_law_things", "_law_mark", "_law_thing"] "law" (defScope s_law) f cdv A outer s H E).A (cxG P w K mg base ["_law_script", "_law_pen_here", "_law_turn", "_law_rules_here", "_law_again", "_law_once", "_law_many", "_law_things", "_law_mark", "_law_thing"] "law" (defScope s_law) f cdv A outer s H E).env (cxG P w K mg base ["_law_script", "_law_pen_here", "_law_turn", "_law_rules_here", "_law_again", "_law_once", "_law_many", "_law_things", "_law_mark", "_law_thing"] "law" (defScope s_law) f cdv A outer s H E).xe := passes_of rfl
    exact (B_c (S_set (i := 1) (E_call D__law_pen ft (A_c (E_loc 0) A_0)) sc_law.nd)
    (B_c (S_for hp (I_r1 z_range E_int) (G_n (i := 2) sc_law.nd) (B_c (S_set (i := 3) (E_call D__law_rules ft (A_c (E_loc 1) A_0)) sc_law.nd)
    (B_c (S_if (PW.pt (W_or (T_cmp opd_notB (E_call D_is_table ft (A_c (E_loc 3) A_0)) E_bl) (W_or (T_not (T_v (E_call D__law_right ft (A_c (E_ty snd_listA (call_listA rfl) z_list (A_c (E_loc 3) A_0)) A_0)))) (W_or1 (T_not (T_v (E_call D__law_right ft (A_c (E_rev (E_loc 3)) A_0)))))))) (B_1 (S_ret E_bl)) B_0)
    (B_c (S_for hp (I_r1 z_range E_int) (G_n (i := 4) sc_law.nd) (B_c (S_set (i := 5) (E_call D__law_bent ft (A_c (E_loc 1) (A_c (E_loc 3) A_0))) sc_law.nd)
    (B_1 (S_if (PW.pt (W_or (T_not (T_v (E_call D__law_right ft (A_c (E_loc 5) A_0)))) (W_or1 (T_not (T_v (E_call D__law_right ft (A_c (E_call D__law_bent ft (A_c (E_loc 1) (A_c (E_loc 5) A_0))) A_0))))))) (B_1 (S_ret E_bl)) B_0))))
    (B_c (S_set (i := 6) (E_ty snd_tuple call_tuple_of z_tuple (A_c (E_lc (own := [("_law_mark", 8)]) sc_law.nd (I_a E_str) (show BlkOk ["_law_script", "_law_pen_here", "_law_turn", "_law_rules_here", "_law_again", "_law_once", "_law_many", "_law_things", "_law_mark", "_law_thing"] (defScope s_law) _ [("_law_mark", 8)] from ⟨rfl, by decide +kernel, by decide +kernel, by decide +kernel, by decide +kernel⟩) (fun _ _ _ _ _ => (G_n (i := 8) sc_law.nd)) (fun _ _ _ _ _ => Ts_0) (fun _ _ _ _ _ => (E_T (A_c (E_loc 8) (A_c E_int (A_c E_int A_0)))))) A_0)) sc_law.nd)
    (B_1 (S_if (PW.pt (W_or (T_not (T_v (E_call D__law_right ft (A_c (E_loc 6) A_0)))) (W_or (T_not (T_v (E_call D__law_right ft (A_c (E_cut (E_loc 6) O_0 (O_1 E_int)) A_0)))) (W_or1 (T_not (T_v (E_call D__law_right ft (A_c (E_op opd_hAdd (E_loc 3) (E_loc 6)) A_0)))))))) (B_1 (S_ret E_bl)) B_0)))))))
    (B_c (S_set (i := 7) (E_L (A_c E_non (A_c E_bl (A_c (E_T A_0) (A_c (E_L A_0) (A_c E_D0 (A_c E_str (A_c E_int (A_c (E_T (A_c E_str (A_c E_int (A_c E_int A_0)))) (A_c (E_T (A_c (E_T (A_c E_str (A_c E_int (A_c E_int A_0)))) (A_c (E_T (A_c E_str (A_c E_int (A_c E_int A_0)))) A_0))) A_0)))))))))) sc_law.nd)
    (B_c (S_ex (E_app (j := 7) (E_T (A_c (E_T (A_c E_str (A_c E_int (A_c E_int A_0)))) (A_c (E_T (A_c E_str (A_c E_int (A_c E_int A_0)))) A_0)))))
    (B_1 (S_ret (E_cmp (opd_eq ft.room.units) (E_lc (own := [("_law_thing", 9)]) sc_law.nd (I_a (E_loc 7)) (show BlkOk ["_law_script", "_law_pen_here", "_law_turn", "_law_rules_here", "_law_again", "_law_once", "_law_many", "_law_things", "_law_mark", "_law_thing"] (defScope s_law) _ [("_law_thing", 9)] from ⟨rfl, by decide +kernel, by decide +kernel, by decide +kernel, by decide +kernel⟩) (fun _ _ _ _ _ => (G_n (i := 9) sc_law.nd)) (fun _ _ _ _ _ => (Ts_1 (T_not (T_v (E_call D__law_right (Fit.blk ft) (A_c (E_loc 9) A_0)))))) (fun _ _ _ _ _ => (E_loc 9))) (E_L A_0))))))))
theorem all_mk {P : Program} {w : World} {K : PySem.W.Frag} {h : Heap} {mg : Str → Option Value} {fa f0 f1 f2 f3 f4 f5 f6 f7 f8 f9 f10 f11 f12 f13 f14 : Addr} (KX : K.In h) (G : h.Ns mainGlobals mg) (hfa : mg "law" = some (.ref fa))
    {od0 an0 : Option Addr} {sl0 : Array (Option Value)} {oc0 kV0 dc0 pm0 cd0 ct0 : Value} (a0 : PySem.W.nsIn K mainGlobals "_law_pen" = some (some (.ref f0))) (l0 : K.lookup f0 = some ⟨oc0, od0, .func (PySem.W.fnOf "_law_pen" "_law_pen" (defArgs s__law_pen) (defBody s__law_pen) (defScope s__law_pen) .none kV0 dc0 pm0 an0 cd0 ct0), sl0⟩) (c0 : PySem.W.codeIn K cd0 "_law_pen" = true) (k0 : PySem.W.keepIn K (.ref f0) = true)
    {od1 an1 : Option Addr} {sl1 : Array (Option Value)} {oc1 kV1 dc1 pm1 cd1 ct1 : Value} (a1 : PySem.W.nsIn K mainGlobals "_law_draw" = some (some (.ref f1))) (l1 : K.lookup f1 = some ⟨oc1, od1, .func (PySem.W.fnOf "_law_draw" "_law_draw" (defArgs s__law_draw) (defBody s__law_draw) (defScope s__law_draw) .none kV1 dc1 pm1 an1 cd1 ct1), sl1⟩) (c1 : PySem.W.codeIn K cd1 "_law_draw" = true) (k1 : PySem.W.keepIn K (.ref f1) = true)
    {od2 an2 : Option Addr} {sl2 : Array (Option Value)} {oc2 kV2 dc2 pm2 cd2 ct2 : Value} (a2 : PySem.W.nsIn K mainGlobals "_law_rules" = some (some (.ref f2))) (l2 : K.lookup f2 = some ⟨oc2, od2, .func (PySem.W.fnOf "_law_rules" "_law_rules" (defArgs s__law_rules) (defBody s__law_rules) (defScope s__law_rules) .none kV2 dc2 pm2 an2 cd2 ct2), sl2⟩) (c2 : PySem.W.codeIn K cd2 "_law_rules" = true) (k2 : PySem.W.keepIn K (.ref f2) = true)
    {od3 an3 : Option Addr} {sl3 : Array (Option Value)} {oc3 kV3 dc3 pm3 cd3 ct3 : Value} (a3 : PySem.W.nsIn K mainGlobals "_law_odd" = some (some (.ref f3))) (l3 : K.lookup f3 = some ⟨oc3, od3, .func (PySem.W.fnOf "_law_odd" "_law_odd" (defArgs s__law_odd) (defBody s__law_odd) (defScope s__law_odd) .none kV3 dc3 pm3 an3 cd3 ct3), sl3⟩) (c3 : PySem.W.codeIn K cd3 "_law_odd" = true) (k3 : PySem.W.keepIn K (.ref f3) = true)
    {od4 an4 : Option Addr} {sl4 : Array (Option Value)} {oc4 kV4 dc4 pm4 cd4 ct4 : Value} (a4 : PySem.W.nsIn K mainGlobals "_law_bent" = some (some (.ref f4))) (l4 : K.lookup f4 = some ⟨oc4, od4, .func (PySem.W.fnOf "_law_bent" "_law_bent" (defArgs s__law_bent) (defBody s__law_bent) (defScope s__law_bent) .none kV4 dc4 pm4 an4 cd4 ct4), sl4⟩) (c4 : PySem.W.codeIn K cd4 "_law_bent" = true) (k4 : PySem.W.keepIn K (.ref f4) = true)
    {od5 an5 : Option Addr} {sl5 : Array (Option Value)} {oc5 kV5 dc5 pm5 cd5 ct5 : Value} (a5 : PySem.W.nsIn K mainGlobals "is_letter" = some (some (.ref f5))) (l5 : K.lookup f5 = some ⟨oc5, od5, .func (PySem.W.fnOf "is_letter" "is_letter" (defArgs s_is_letter) (defBody s_is_letter) (defScope s_is_letter) .none kV5 dc5 pm5 an5 cd5 ct5), sl5⟩) (c5 : PySem.W.codeIn K cd5 "is_letter" = true) (k5 : PySem.W.keepIn K (.ref f5) = true)
    {od6 an6 : Option Addr} {sl6 : Array (Option Value)} {oc6 kV6 dc6 pm6 cd6 ct6 : Value} (a6 : PySem.W.nsIn K mainGlobals "is_integer" = some (some (.ref f6))) (l6 : K.lookup f6 = some ⟨oc6, od6, .func (PySem.W.fnOf "is_integer" "is_integer" (defArgs s_is_integer) (defBody s_is_integer) (defScope s_is_integer) .none kV6 dc6 pm6 an6 cd6 ct6), sl6⟩) (c6 : PySem.W.codeIn K cd6 "is_integer" = true) (k6 : PySem.W.keepIn K (.ref f6) = true)
    {od7 an7 : Option Addr} {sl7 : Array (Option Value)} {oc7 kV7 dc7 pm7 cd7 ct7 : Value} (a7 : PySem.W.nsIn K mainGlobals "is_between" = some (some (.ref f7))) (l7 : K.lookup f7 = some ⟨oc7, od7, .func (PySem.W.fnOf "is_between" "is_between" (defArgs s_is_between) (defBody s_is_between) (defScope s_is_between) .none kV7 dc7 pm7 an7 cd7 ct7), sl7⟩) (c7 : PySem.W.codeIn K cd7 "is_between" = true) (k7 : PySem.W.keepIn K (.ref f7) = true)
    {od8 an8 : Option Addr} {sl8 : Array (Option Value)} {oc8 kV8 dc8 pm8 cd8 ct8 : Value} (a8 : PySem.W.nsIn K mainGlobals "is_number" = some (some (.ref f8))) (l8 : K.lookup f8 = some ⟨oc8, od8, .func (PySem.W.fnOf "is_number" "is_number" (defArgs s_is_number) (defBody s_is_number) (defScope s_is_number) .none kV8 dc8 pm8 an8 cd8 ct8), sl8⟩) (c8 : PySem.W.codeIn K cd8 "is_number" = true) (k8 : PySem.W.keepIn K (.ref f8) = true)
    {od9 an9 : Option Addr} {sl9 : Array (Option Value)} {oc9 kV9 dc9 pm9 cd9 ct9 : Value} (a9 : PySem.W.nsIn K mainGlobals "is_row" = some (some (.ref f9))) (l9 : K.lookup f9 = some ⟨oc9, od9, .func (PySem.W.fnOf "is_row" "is_row" (defArgs s_is_row) (defBody s_is_row) (defScope s_is_row) .none kV9 dc9 pm9 an9 cd9 ct9), sl9⟩) (c9 : PySem.W.codeIn K cd9 "is_row" = true) (k9 : PySem.W.keepIn K (.ref f9) = true)
    {od10 an10 : Option Addr} {sl10 : Array (Option Value)} {oc10 kV10 dc10 pm10 cd10 ct10 : Value} (a10 : PySem.W.nsIn K mainGlobals "is_table" = some (some (.ref f10))) (l10 : K.lookup f10 = some ⟨oc10, od10, .func (PySem.W.fnOf "is_table" "is_table" (defArgs s_is_table) (defBody s_is_table) (defScope s_is_table) .none kV10 dc10 pm10 an10 cd10 ct10), sl10⟩) (c10 : PySem.W.codeIn K cd10 "is_table" = true) (k10 : PySem.W.keepIn K (.ref f10) = true)
    {od11 an11 : Option Addr} {sl11 : Array (Option Value)} {oc11 kV11 dc11 pm11 cd11 ct11 : Value} (a11 : PySem.W.nsIn K mainGlobals "_law_is_whole" = some (some (.ref f11))) (l11 : K.lookup f11 = some ⟨oc11, od11, .func (PySem.W.fnOf "_law_is_whole" "_law_is_whole" (defArgs s__law_is_whole) (defBody s__law_is_whole) (defScope s__law_is_whole) .none kV11 dc11 pm11 an11 cd11 ct11), sl11⟩) (c11 : PySem.W.codeIn K cd11 "_law_is_whole" = true) (k11 : PySem.W.keepIn K (.ref f11) = true)
    {od12 an12 : Option Addr} {sl12 : Array (Option Value)} {oc12 kV12 dc12 pm12 cd12 ct12 : Value} (a12 : PySem.W.nsIn K mainGlobals "_law_due" = some (some (.ref f12))) (l12 : K.lookup f12 = some ⟨oc12, od12, .func (PySem.W.fnOf "_law_due" "_law_due" (defArgs s__law_due) (defBody s__law_due) (defScope s__law_due) .none kV12 dc12 pm12 an12 cd12 ct12), sl12⟩) (c12 : PySem.W.codeIn K cd12 "_law_due" = true) (k12 : PySem.W.keepIn K (.ref f12) = true)
    {od13 an13 : Option Addr} {sl13 : Array (Option Value)} {oc13 kV13 dc13 pm13 cd13 ct13 : Value} (a13 : PySem.W.nsIn K mainGlobals "_law_right" = some (some (.ref f13))) (l13 : K.lookup f13 = some ⟨oc13, od13, .func (PySem.W.fnOf "_law_right" "_law_right" (defArgs s__law_right) (defBody s__law_right) (defScope s__law_right) .none kV13 dc13 pm13 an13 cd13 ct13), sl13⟩) (c13 : PySem.W.codeIn K cd13 "_law_right" = true) (k13 : PySem.W.keepIn K (.ref f13) = true)
    {od14 an14 : Option Addr} {sl14 : Array (Option Value)} {oc14 kV14 dc14 pm14 cd14 ct14 : Value} (a14 : PySem.W.nsIn K mainGlobals "law" = some (some (.ref f14))) (l14 : K.lookup f14 = some ⟨oc14, od14, .func (PySem.W.fnOf "law" "law" (defArgs s_law) (defBody s_law) (defScope s_law) .none kV14 dc14 pm14 an14 cd14 ct14), sl14⟩) (c14 : PySem.W.codeIn K cd14 "law" = true) (k14 : PySem.W.keepIn K (.ref f14) = true)
    (z_abs : PySem.W.nsIn K mainGlobals "abs" = some none)
    (z_all : PySem.W.nsIn K mainGlobals "all" = some none)
    (z_bool : PySem.W.nsIn K mainGlobals "bool" = some none)
    (z_int : PySem.W.nsIn K mainGlobals "int" = some none)
    (z_isinstance : PySem.W.nsIn K mainGlobals "isinstance" = some none)
    (z_len : PySem.W.nsIn K mainGlobals "len" = some none)
    (z_list : PySem.W.nsIn K mainGlobals "list" = some none)
    (z_range : PySem.W.nsIn K mainGlobals "range" = some none)
    (z_repr : PySem.W.nsIn K mainGlobals "repr" = some none)
    (z_sorted : PySem.W.nsIn K mainGlobals "sorted" = some none)
    (z_str : PySem.W.nsIn K mainGlobals "str" = some none)
    (z_tuple : PySem.W.nsIn K mainGlobals "tuple" = some none)
    (z_zip : PySem.W.nsIn K mainGlobals "zip" = some none)
    {t_GREATEST : Tok} (g_GREATEST : PySem.W.nsIn K mainGlobals "GREATEST" = some (some (.int 1000000000000 t_GREATEST)))
    {t_LETTERS : Tok} (g_LETTERS : PySem.W.nsIn K mainGlobals "LETTERS" = some (some (.str "abcdefghijklmnopqrstuvwxyz" t_LETTERS)))
    {t_MOST_LETTERS : Tok} (g_MOST_LETTERS : PySem.W.nsIn K mainGlobals "MOST_LETTERS" = some (some (.int 6 t_MOST_LETTERS))) :
    ∃ fd : FuncData, (∀ (s : Shared) (u : Value), BindsTo s fd ⟨[u], []⟩ [("_law_script", u)]) ∧ ∀ base : Heap, K.In base → base.Ns mainGlobals mg → TBs K mg base → FnG P w K mg base 64 fa fd ["_law_script"] S_law := by
  have e := hfa.symm.trans (PySem.W.mg_of KX G a14)
  cases e
  have F0 := fun_mk (st := s__law_pen) l0 c0 k0
  have F1 := fun_mk (st := s__law_draw) l1 c1 k1
  have F2 := fun_mk (st := s__law_rules) l2 c2 k2
  have F3 := fun_mk (st := s__law_odd) l3 c3 k3
  have F4 := fun_mk (st := s__law_bent) l4 c4 k4
  have F5 := fun_mk (st := s_is_letter) l5 c5 k5
  have F6 := fun_mk (st := s_is_integer) l6 c6 k6
  have F7 := fun_mk (st := s_is_between) l7 c7 k7
  have F8 := fun_mk (st := s_is_number) l8 c8 k8
  have F9 := fun_mk (st := s_is_row) l9 c9 k9
  have F10 := fun_mk (st := s_is_table) l10 c10 k10
  have F11 := fun_mk (st := s__law_is_whole) l11 c11 k11
  have F12 := fun_mk (st := s__law_due) l12 c12 k12
  have F13 := fun_mk (st := s__law_right) l13 c13 k13
  have F14 := fun_mk (st := s_law) l14 c14 k14
  refine ⟨PySem.W.fnOf "law" "law" (defArgs s_law) (defBody s_law) (defScope s_law) .none kV14 dc14 pm14 an14 cd14 ct14, fun s v => .of_eq rfl, fun base _ _ tbs => ?_⟩
  have D__law_pen : Def P w K mg base 1 "_law_pen" f0 _ ["_law_script"] S__law_pen := ⟨ok__law_pen F0 (PySem.W.mg_none_of KX G z_list), PySem.W.mg_of KX G a0, k0, F0.binds fun _ _ _ _ _ _ us hl => match us, hl with | [_], _ => rfl⟩
  have D__law_draw : Def P w K mg base 1 "_law_draw" f1 _ ["_law_pen_here", "_law_many"] S__law_draw := ⟨ok__law_draw F1 (PySem.W.mg_none_of KX G z_abs) (PySem.W.mg_none_of KX G z_int) (PySem.W.mg_none_of KX G z_len), PySem.W.mg_of KX G a1, k1, F1.binds fun _ _ _ _ _ _ us hl => match us, hl with | [_, _], _ => rfl⟩
  have D__law_rules : Def P w K mg base 2 "_law_rules" f2 _ ["_law_pen_here"] S__law_rules := ⟨ok__law_rules F2 (PySem.W.mg_none_of KX G z_len) (PySem.W.mg_none_of KX G z_list) (PySem.W.mg_none_of KX G z_range) (PySem.W.mg_none_of KX G z_sorted) (PySem.W.mg_none_of KX G z_tuple) D__law_draw, PySem.W.mg_of KX G a2, k2, F2.binds fun _ _ _ _ _ _ us hl => match us, hl with | [_], _ => rfl⟩
  have D__law_odd : Def P w K mg base 2 "_law_odd" f3 _ ["_law_pen_here", "_law_thing"] S__law_odd := ⟨ok__law_odd F3 (PySem.W.mg_none_of KX G z_bool) (PySem.W.mg_none_of KX G z_int) (PySem.W.mg_none_of KX G z_isinstance) (PySem.W.mg_none_of KX G z_len) (PySem.W.mg_none_of KX G z_str) D__law_draw, PySem.W.mg_of KX G a3, k3, F3.binds fun _ _ _ _ _ _ us hl => match us, hl with | [_, _], _ => rfl⟩
  have B__law_bent : Binds K _ ["_law_pen_here", "_law_thing"] [] := F4.binds fun _ _ _ _ _ _ us hl => match us, hl with | [_, _], _ => rfl
  have D__law_bent : Def P w K mg base 63 "_law_bent" f4 _ ["_law_pen_here", "_law_thing"] (S__law_bent 60) := ⟨ok__law_bent F4 (PySem.W.mg_none_of KX G z_isinstance) (PySem.W.mg_none_of KX G z_len) (PySem.W.mg_none_of KX G z_list) (PySem.W.mg_none_of KX G z_tuple) D__law_draw D__law_odd (PySem.W.mg_of KX G a4) k4 B__law_bent 60, PySem.W.mg_of KX G a4, k4, B__law_bent⟩
  have D_is_letter : Def P w K mg base 1 "is_letter" f5 _ ["value"] S_is_letter := ⟨ok_is_letter F5 (PySem.W.mg_none_of KX G z_isinstance) (PySem.W.mg_none_of KX G z_len) (PySem.W.mg_none_of KX G z_str) (PySem.W.mg_of KX G g_LETTERS), PySem.W.mg_of KX G a5, k5, F5.binds fun _ _ _ _ _ _ us hl => match us, hl with | [_], _ => rfl⟩
  have D_is_integer : Def P w K mg base 1 "is_integer" f6 _ ["value"] S_is_integer := ⟨ok_is_integer F6 (PySem.W.mg_none_of KX G z_bool) (PySem.W.mg_none_of KX G z_int) (PySem.W.mg_none_of KX G z_isinstance), PySem.W.mg_of KX G a6, k6, F6.binds fun _ _ _ _ _ _ us hl => match us, hl with | [_], _ => rfl⟩
  have D_is_between : Def P w K mg base 2 "is_between" f7 _ ["value", "least", "most"] S_is_between := ⟨ok_is_between F7 D_is_integer, PySem.W.mg_of KX G a7, k7, F7.binds fun _ _ _ _ _ _ us hl => match us, hl with | [_, _, _], _ => rfl⟩
  have D_is_number : Def P w K mg base 3 "is_number" f8 _ ["value"] S_is_number := ⟨ok_is_number F8 (PySem.W.mg_of KX G g_GREATEST) D_is_between, PySem.W.mg_of KX G a8, k8, F8.binds fun _ _ _ _ _ _ us hl => match us, hl with | [_], _ => rfl⟩
  have D_is_row : Def P w K mg base 4 "is_row" f9 _ ["value"] S_is_row := ⟨ok_is_row F9 (PySem.W.mg_none_of KX G z_isinstance) (PySem.W.mg_none_of KX G z_len) (PySem.W.mg_none_of KX G z_tuple) D_is_letter D_is_number, PySem.W.mg_of KX G a9, k9, F9.binds fun _ _ _ _ _ _ us hl => match us, hl with | [_], _ => rfl⟩
  have D_is_table : Def P w K mg base 5 "is_table" f10 _ ["value"] S_is_table := ⟨ok_is_table F10 (PySem.W.mg_none_of KX G z_all) (PySem.W.mg_none_of KX G z_isinstance) (PySem.W.mg_none_of KX G z_len) (PySem.W.mg_none_of KX G z_tuple) (PySem.W.mg_none_of KX G z_zip) (PySem.W.mg_of KX G g_MOST_LETTERS) D_is_row, PySem.W.mg_of KX G a10, k10, F10.binds fun _ _ _ _ _ _ us hl => match us, hl with | [_], _ => rfl⟩
  have kb_is_table_0_value : KwB K _ ["value"] ["value"] 0 [0] := KwB.of (fd := PySem.W.fnOf "is_table" "is_table" (defArgs s_is_table) (defBody s_is_table) (defScope s_is_table) .none kV10 dc10 pm10 an10 cd10 ct10) fun us ws h1 h2 => match us, ws, h1, h2 with | [], [_], _, _ => rfl
  have D__law_is_whole : Def P w K mg base 1 "_law_is_whole" f11 _ ["_law_thing"] S__law_is_whole := ⟨ok__law_is_whole F11 (PySem.W.mg_none_of KX G z_bool) (PySem.W.mg_none_of KX G z_int) (PySem.W.mg_none_of KX G z_isinstance), PySem.W.mg_of KX G a11, k11, F11.binds fun _ _ _ _ _ _ us hl => match us, hl with | [_], _ => rfl⟩
  have D__law_due : Def P w K mg base 2 "_law_due" f12 _ ["_law_thing"] S__law_due := ⟨ok__law_due F12 (PySem.W.mg_none_of KX G z_isinstance) (PySem.W.mg_none_of KX G z_len) (PySem.W.mg_none_of KX G z_str) (PySem.W.mg_none_of KX G z_tuple) D__law_is_whole, PySem.W.mg_of KX G a12, k12, F12.binds fun _ _ _ _ _ _ us hl => match us, hl with | [_], _ => rfl⟩
  have D__law_right : Def P w K mg base 6 "_law_right" f13 _ ["_law_thing"] S__law_right := ⟨ok__law_right F13 (PySem.W.mg_none_of KX G z_repr) D__law_due D_is_table kb_is_table_0_value, PySem.W.mg_of KX G a13, k13, F13.binds fun _ _ _ _ _ _ us hl => match us, hl with | [_], _ => rfl⟩
  exact ok_law F14 (PySem.W.mg_none_of KX G z_list) (PySem.W.mg_none_of KX G z_range) (PySem.W.mg_none_of KX G z_tuple) D__law_pen D__law_rules D__law_bent D_is_table D__law_right
end
end Pk01
set_option maxHeartbeats 1000000
/-! Lj01: law k01: its own look at tables. -/
namespace Pk01
open PySem PySem.Spec PyProof.Rows L2 Pm
open Pg (Fi tabB rowB letB numB ascB hdD ABC abc_T btwB)
theorem hS : Pm.Draws S__law_draw := drawsA ⟨40423, 59, 2147483549, 50021, 41, 2147483579, 13, 70003, 2147483629⟩ (by unfold DK.ok; decide)
theorem e_pen : S__law_pen = penS := rfl
theorem e_lrules : S__law_rules = Pg.x_lrules S__law_draw := rfl
theorem e_is_table : S_is_table = Pg.x_is_table := rfl
noncomputable def d_olodd_1 : M EV := (disp true .lst (aCons (con .non) (aCons (con (.bl true)) (aCons (con (.bl false)) (aCons (con (.int 0)) (aCons (Pm.un opNeg (con (.int 1))) (aCons (con (.int 1)) (aCons (Pm.bin (on2I iPow) (con (.int 10)) (con (.int 12))) (aCons (Pm.bin hAdd (Pm.bin (on2I iPow) (con (.int 10)) (con (.int 12))) (con (.int 1))) (aCons (Pm.bin (on2I iSub) (Pm.un opNeg (Pm.bin (on2I iPow) (con (.int 10)) (con (.int 12)))) (con (.int 1))) (aCons (Pm.bin (on2I iPow) (con (.int 10)) (con (.int 59))) aNil)))))))))))
noncomputable def d_olodd_2 : M EV := (disp true .lst (aCons (disp false .tup aNil) (aCons (disp true .lst aNil) (aCons newD (aCons (disp false .tup (aCons (con (.int 0)) aNil)) (aCons (disp false .tup (aCons (con (.str "a")) (aCons (con (.int 1)) (aCons (con (.int 1)) aNil)))) (aCons (disp true .lst (aCons (loc 1) aNil)) (aCons (disp false .tup (aCons (loc 1) aNil)) (aCons (dct1 (.inl 0) (loc 1)) aNil)))))))))
theorem bq_lodd : b__law_odd = (seq (asg d_olodd_1 (gN 2))
    (seq (asg (binF hAdd (loc 2) (disp true .lst (aCons (con (.str "")) (aCons (con (.str "a")) (aCons (con (.str "z")) (aCons (con (.str "A")) (aCons (con (.str "ab")) (aCons (con (.str "1")) (aCons (con (.str ".")) aNil))))))))) (gN 2))
    (seq (asg (binF hAdd (loc 2) d_olodd_2) (gN 2))
    (seq (Pm.ite (andT (tst (app opIsi (aCons (loc 1) (aCons (con (.op (.ty "int"))) aNil)))) (notT (tst (app opIsi (aCons (loc 1) (aCons (con (.op (.ty "bool"))) aNil)))))) (asg (binF hAdd (loc 2) (Pm.bin hMulT (disp true .lst (aCons (Pm.bin hAdd (loc 1) (con (.int 1))) (aCons (Pm.bin (on2I iSub) (loc 1) (con (.int 1))) (aCons (Pm.bin (on2I iSub) (con (.int 0)) (loc 1)) (aCons (app opStrI (aCons (loc 1) aNil)) (aCons (Pm.bin opEq (loc 1) (con (.int 1))) aNil)))))) (con (.int 4)))) (gN 2)) sNx)
    (seq (Pm.ite (tst (app opIsi (aCons (loc 1) (aCons (con (.op (.ty "str"))) aNil)))) (asg (binF hAdd (loc 2) (Pm.bin hMulT (disp true .lst (aCons (Pm.bin hAdd (loc 1) (con (.str "a"))) (aCons (cut (loc 1) none (some (Pm.un opNeg (con (.int 1))))) (aCons (smet0 opUpper (loc 1)) (aCons (disp false .tup (aCons (loc 1) aNil)) aNil))))) (con (.int 4)))) (gN 2)) sNx)
    (rtn (idx (aCons (loc 2) (aCons (callF S__law_draw (aCons (loc 0) (aCons (app opLen (aCons (loc 2) aNil)) aNil))) aNil))))))))) := rfl
theorem bq_lis_whole : b__law_is_whole = (seq (Pm.ite (orT (notT (tst (app opIsi (aCons (loc 0) (aCons (con (.op (.ty "int"))) aNil))))) (tst (app opIsi (aCons (loc 0) (aCons (con (.op (.ty "bool"))) aNil))))) (rtn (con (.bl false))) sNx)
    (rtn (chI cLe cLe (Pm.bin (on2I iSub) (con (.int 0)) (Pm.bin (on2I iPow) (con (.int 10)) (con (.int 12)))) (loc 0) (Pm.bin (on2I iPow) (con (.int 10)) (con (.int 12)))))) := rfl
noncomputable def b_oldue_1 : M Fl := (seq (Pm.ite (orT (notT (tst (app opIsi (aCons (loc 2) (aCons (con (.op (.ty "tuple"))) aNil))))) (orT (tst (Pm.bin opNe (app opLen (aCons (loc 2) aNil)) (con (.int 3)))) (notT (tst (app opIsi (aCons (idx (aCons (loc 2) (aCons (con (.int 0)) aNil))) (aCons (con (.op (.ty "str"))) aNil))))))) (rtn (con (.bl false))) sNx)
    (seq (Pm.ite (orT (tst (Pm.bin opNe (app opLen (aCons (idx (aCons (loc 2) (aCons (con (.int 0)) aNil))) aNil)) (con (.int 1)))) (orT (notT (tst (chS dLe dLe (con (.str "a")) (idx (aCons (loc 2) (aCons (con (.int 0)) aNil))) (con (.str "z"))))) (tst (Pm.bin opLeA (idx (aCons (loc 2) (aCons (con (.int 0)) aNil))) (loc 1))))) (rtn (con (.bl false))) sNx)
    (seq (Pm.ite (orT (notT (tst (callF S__law_is_whole (aCons (idx (aCons (loc 2) (aCons (con (.int 1)) aNil))) aNil)))) (notT (tst (callF S__law_is_whole (aCons (idx (aCons (loc 2) (aCons (con (.int 2)) aNil))) aNil))))) (rtn (con (.bl false))) sNx)
    (asg (idx (aCons (loc 2) (aCons (con (.int 0)) aNil))) (gN 1)))))
theorem bq_ldue : b__law_due = (seq (Pm.ite (orT (notT (tst (app opIsi (aCons (loc 0) (aCons (con (.op (.ty "tuple"))) aNil))))) (orT (tst (Pm.bin opEq (app opLen (aCons (loc 0) aNil)) (con (.int 0)))) (tst (Pm.bin opGtA (app opLen (aCons (loc 0) aNil)) (con (.int 6)))))) (rtn (con (.bl false))) sNx)
    (seq (asg (con (.str "")) (gN 1))
    (seq (forS (srcA (loc 0)) (gN 2) b_oldue_1)
    (rtn (con (.bl true)))))) := rfl
theorem bq_lright : b__law_right = (seq (asg (app opReprC (aCons (loc 0) aNil)) (gN 1))
    (seq (asg (app opReprC (aCons (callF S__law_due (aCons (loc 0) aNil)) aNil)) (gN 2))
    (seq (Pm.ite (orT (tst (Pm.bin opNe (app opReprC (aCons (callF S_is_table (aCons (loc 0) aNil)) aNil)) (loc 2))) (tst (Pm.bin opNe (app opReprC (aCons (callF S_is_table (selA 1 [0] (aCons (loc 0) aNil))) aNil)) (loc 2)))) (rtn (con (.bl false))) sNx)
    (rtn (Pm.bin opEq (app opReprC (aCons (loc 0) aNil)) (loc 1)))))) := rfl
noncomputable def b_olaw_1 : M Fl := (seq (asg (callF (S__law_bent 60) (aCons (loc 1) (aCons (loc 3) aNil))) (gN 5))
    (Pm.ite (orT (notT (tst (callF S__law_right (aCons (loc 5) aNil)))) (notT (tst (callF S__law_right (aCons (callF (S__law_bent 60) (aCons (loc 1) (aCons (loc 5) aNil))) aNil))))) (rtn (con (.bl false))) sNx))
noncomputable def c_olaw_1 : M EV := comp [8] (srcA (con (.str "abcdefg"))) (gN 8) yesT (disp false .tup (aCons (loc 8) (aCons (con (.int 1)) (aCons (con (.int 0)) aNil))))
noncomputable def b_olaw_2 : M Fl := (seq (asg (callF S__law_rules (aCons (loc 1) aNil)) (gN 3))
    (seq (Pm.ite (orT (tst (Pm.bin opNotB (callF S_is_table (aCons (loc 3) aNil)) (con (.bl true)))) (orT (notT (tst (callF S__law_right (aCons (app opListA (aCons (loc 3) aNil)) aNil)))) (notT (tst (callF S__law_right (aCons (Pm.un opRev (loc 3)) aNil)))))) (rtn (con (.bl false))) sNx)
    (seq (forS (srcR1 (aCons (con (.int 6)) aNil)) (gN 4) b_olaw_1)
    (seq (asg (app opTuple (aCons c_olaw_1 aNil)) (gN 6))
    (Pm.ite (orT (notT (tst (callF S__law_right (aCons (loc 6) aNil)))) (orT (notT (tst (callF S__law_right (aCons (cut (loc 6) none (some (con (.int 6)))) aNil)))) (notT (tst (callF S__law_right (aCons (Pm.bin hAdd (loc 3) (loc 6)) aNil)))))) (rtn (con (.bl false))) sNx)))))
noncomputable def d_olaw_1 : M EV := (disp true .lst (aCons (con .non) (aCons (con (.bl true)) (aCons (disp false .tup aNil) (aCons (disp true .lst aNil) (aCons newD (aCons (con (.str "a 1 0")) (aCons (con (.int 0)) (aCons (disp false .tup (aCons (con (.str "a")) (aCons (con (.int 1)) (aCons (con (.int 0)) aNil)))) (aCons (disp false .tup (aCons (disp false .tup (aCons (con (.str "a")) (aCons (con (.int 1)) (aCons (con (.int 0)) aNil)))) (aCons (disp false .tup (aCons (con (.str "a")) (aCons (con (.int 1)) (aCons (con (.int 0)) aNil)))) aNil))) aNil))))))))))
noncomputable def c_olaw_2 : M EV := comp [9] (srcA (loc 7)) (gN 9) (notT (tst (callF S__law_right (aCons (loc 9) aNil)))) (loc 9)
theorem bq_law : b_law = (seq (asg (callF S__law_pen (aCons (loc 0) aNil)) (gN 1))
    (seq (forS (srcR1 (aCons (con (.int 4)) aNil)) (gN 2) b_olaw_2)
    (seq (asg d_olaw_1 (gN 7))
    (seq (drp (appd 7 (disp false .tup (aCons (disp false .tup (aCons (con (.str "b")) (aCons (con (.int 0)) (aCons (con (.int 0)) aNil)))) (aCons (disp false .tup (aCons (con (.str "a")) (aCons (con (.int 0)) (aCons (con (.int 0)) aNil)))) aNil)))))
    (rtn (Pm.bin opEq c_olaw_2 (disp true .lst aNil))))))) := rfl
theorem whole_ok {B : Nat} {d : D} (hp : d.plain = true) (h : Fi B d) : S__law_is_whole [d] = .ret (.bl (numB d)) [d] := by
  have t1 := isi_int h.ty
  have t2 := isi_bl h.ty
  have pw : iPow 10 12 = some (.int 1000000000000) := rfl
  unfold S__law_is_whole
  rw [bq_lis_whole]
  cases d with
  | node o k xs =>
    simp only [D.plain, Bool.and_eq_true, Bool.not_eq_true'] at hp
    obtain ⟨rfl, hp2⟩ := hp
    simp [mkF, reFrz, seq, Pm.ite, rtn, mov, asg, drp, sNx, bnd, Pm.bin, Pm.un, app, aCons, aNil, idx, loc, con, Pm.ret, peek1, peeks, itemOf, on2I, iAdd, iSub, iGt, iGe, iLt, iLe, iDiv, iMod, use1, useL, gI, gN, tst, andT, orT, notT, andE, orE, notE, ifE, ixN, D.frz, D.plain, plainL, argsBack, opLen, opAbs, opInt1, opNeg, disp, cap, callF, takes, puts, selA, sel, aApp, par, gT, gsC, gs0, appF, opDivmod, frzL, plainL, t1, t2, isWhl, isBl, btwB, hp2]
  | int n =>
    have nb : numB (.int n) = (decide (-1000000000000 ≤ n) && decide (n ≤ 1000000000000)) := rfl
    rw [nb]
    generalize hz : (1000000000000 : Int) = Z at *
    by_cases h : -Z ≤ n
    · simp [mkF, reFrz, seq, Pm.ite, rtn, mov, asg, drp, sNx, bnd, Pm.bin, Pm.un, app, aCons, aNil, idx, loc, con, Pm.ret, peek1, peeks, itemOf, on2I, iAdd, iSub, iGt, iGe, iLt, iLe, iDiv, iMod, use1, useL, gI, gN, tst, andT, orT, notT, andE, orE, notE, ifE, ixN, D.frz, D.plain, plainL, argsBack, opLen, opAbs, opInt1, opNeg, disp, cap, callF, takes, puts, selA, sel, aApp, par, gT, gsC, gs0, appF, opDivmod, frzL, plainL, t1, t2, isWhl, isBl, chI, cLe, h, pw]
    · simp [mkF, reFrz, seq, Pm.ite, rtn, mov, asg, drp, sNx, bnd, Pm.bin, Pm.un, app, aCons, aNil, idx, loc, con, Pm.ret, peek1, peeks, itemOf, on2I, iAdd, iSub, iGt, iGe, iLt, iLe, iDiv, iMod, use1, useL, gI, gN, tst, andT, orT, notT, andE, orE, notE, ifE, ixN, D.frz, D.plain, plainL, argsBack, opLen, opAbs, opInt1, opNeg, disp, cap, callF, takes, puts, selA, sel, aApp, par, gT, gsC, gs0, appF, opDivmod, frzL, plainL, t1, t2, isWhl, isBl, chI, cLe, h, pw]
  | _ => simp [mkF, reFrz, seq, Pm.ite, rtn, mov, asg, drp, sNx, bnd, Pm.bin, Pm.un, app, aCons, aNil, idx, loc, con, Pm.ret, peek1, peeks, itemOf, on2I, iAdd, iSub, iGt, iGe, iLt, iLe, iDiv, iMod, use1, useL, gI, gN, tst, andT, orT, notT, andE, orE, notE, ifE, ixN, D.frz, D.plain, plainL, argsBack, opLen, opAbs, opInt1, opNeg, disp, cap, callF, takes, puts, selA, sel, aApp, par, gT, gsC, gs0, appF, opDivmod, frzL, plainL, t1, t2, isWhl, isBl, btwB]
theorem lit {s : String} {l : List Nat} (h : s.toList.map Char.toNat = l) : ((s : String) : Str) = T l := by rw [show ((s : String) : Str) = Str.ofString s from rfl, T_lit, h]
/-! ### one row -/
theorem one_sign {s : Str} (h : s.length = 1) : ∃ c, s = T [c] := by
  have h' : s.cps.toList.length = 1 := by rw [← h]; simp [Str.length]
  match hq : s.cps.toList, h' with
  | [c], _ => exact ⟨c, by rw [← T_of s, hq]⟩
theorem letB_sg (c : Nat) : letB (.str (T [c])) = decide (97 ≤ c ∧ c ≤ 122) := by
  rw [show letB (.str (T [c])) = ((T [c]).length == 1 && subS (T [c]) (T ABC)) from rfl, sub_T, T_len]
  by_cases h : 97 ≤ c ∧ c ≤ 122
  · rw [decide_eq_true h, decide_eq_true]
    · rfl
    · simp [ABC]; omega
  · rw [decide_eq_false h, decide_eq_false]
    · rfl
    · simp [ABC]; omega
theorem le_ss (x y : Str) : opLeA [.str x, .str y] = some (.bl (dLe x y)) := rfl
theorem dLe_lt (x y : Str) : dLe x y = !ltS y x := rfl
theorem a_T : (("a" : String) : Str) = T [97] := lit rfl
theorem z_T : (("z" : String) : Str) = T [122] := lit rfl
theorem le_sg (a c : Nat) : dLe (T [a]) (T [c]) = decide (a ≤ c) := Pg.leS_sg a c
/-- a row looked at -/
theorem row_turn {B : Nat} {r : D} {L : Str} {TD : D} (hp : r.plain = true) (h : Fi B r) :
    b_oldue_1 [some TD, some (.str L), some r] = if (rowB r && ltS L (hdD r)) = true then .ok .nx [some TD, some (.str (hdD r)), some r] else .ok (.rt (.bl false)) [some TD, some (.str L), some r] := by
  have t1 := isi_tup h.ty
  unfold b_oldue_1
  cases r with
  | node o k xs =>
    cases k with
    | tup =>
      have hx := h.tup
      simp only [D.plain, Bool.and_eq_true, Bool.not_eq_true'] at hp
      obtain ⟨rfl, hp⟩ := hp
      match xs, hp, hx with
      | [], _, _ =>
        generalize S__law_is_whole = SW at *
        simp [mkF, reFrz, seq, Pm.ite, rtn, mov, asg, drp, sNx, bnd, Pm.bin, Pm.un, app, aCons, aNil, idx, loc, con, Pm.ret, peek1, peeks, itemOf, on2I, iAdd, iSub, iGt, iGe, iLt, iLe, iDiv, iMod, use1, useL, gI, gN, tst, andT, orT, notT, andE, orE, notE, ifE, ixN, D.frz, D.plain, plainL, argsBack, opLen, opAbs, opInt1, opNeg, disp, cap, callF, takes, puts, selA, sel, aApp, par, gT, gsC, gs0, appF, opDivmod, frzL, plainL, t1, isTup, rowB, Pm.ne_int]
      | [a], hp, _ =>
        generalize S__law_is_whole = SW at *
        simp [mkF, reFrz, seq, Pm.ite, rtn, mov, asg, drp, sNx, bnd, Pm.bin, Pm.un, app, aCons, aNil, idx, loc, con, Pm.ret, peek1, peeks, itemOf, on2I, iAdd, iSub, iGt, iGe, iLt, iLe, iDiv, iMod, use1, useL, gI, gN, tst, andT, orT, notT, andE, orE, notE, ifE, ixN, D.frz, D.plain, plainL, argsBack, opLen, opAbs, opInt1, opNeg, disp, cap, callF, takes, puts, selA, sel, aApp, par, gT, gsC, gs0, appF, opDivmod, frzL, plainL, t1, isTup, rowB, Pm.ne_int] at hp ⊢
      | [a, b], hp, _ =>
        generalize S__law_is_whole = SW at *
        simp [mkF, reFrz, seq, Pm.ite, rtn, mov, asg, drp, sNx, bnd, Pm.bin, Pm.un, app, aCons, aNil, idx, loc, con, Pm.ret, peek1, peeks, itemOf, on2I, iAdd, iSub, iGt, iGe, iLt, iLe, iDiv, iMod, use1, useL, gI, gN, tst, andT, orT, notT, andE, orE, notE, ifE, ixN, D.frz, D.plain, plainL, argsBack, opLen, opAbs, opInt1, opNeg, disp, cap, callF, takes, puts, selA, sel, aApp, par, gT, gsC, gs0, appF, opDivmod, frzL, plainL, t1, isTup, rowB, Pm.ne_int] at hp ⊢
      | [a, b, c], hp, hx =>
        simp only [plainL, Bool.and_eq_true, and_true] at hp
        have e2 := whole_ok hp.2.1 (hx b (by simp))
        have e3 := whole_ok hp.2.2 (hx c (by simp))
        have ts := isi_str (hx a (by simp)).ty
        obtain ⟨pa, pb, pc⟩ := hp
        have rb : rowB (.node false .tup [a, b, c]) = (letB a && (numB b && numB c)) := rfl
        rw [rb]
        generalize numB b = lb at *
        generalize numB c = lc at *
        generalize S__law_is_whole = SW at *
        cases a with
        | str s =>
          have hs := (hx (.str s) (by simp)).str
          have hh : hdD (.node false .tup [.str s, b, c]) = s := rfl
          rw [hh]
          by_cases h1 : s.length = 1
          · obtain ⟨k, rfl⟩ := one_sign h1
            have q1 := le_sg 97 k
            have q2 := le_sg k 122
            have q3 := le_ss (T [k]) L
            rw [dLe_lt] at q3
            rw [letB_sg, a_T, z_T]
            generalize ltS L (T [k]) = lt at *
            generalize T [97] = TA at *
            generalize T [122] = TZ at *
            generalize T [k] = TK at *
            generalize opLeA = LE at *
            by_cases h2 : 97 ≤ k
            · by_cases h3 : k ≤ 122
              · cases lt <;> cases lb <;> cases lc <;> simp [mkF, reFrz, seq, Pm.ite, rtn, mov, asg, drp, sNx, bnd, Pm.bin, Pm.un, app, aCons, aNil, idx, loc, con, Pm.ret, peek1, peeks, itemOf, on2I, iAdd, iSub, iGt, iGe, iLt, iLe, iDiv, iMod, use1, useL, gI, gN, tst, andT, orT, notT, andE, orE, notE, ifE, ixN, D.frz, D.plain, plainL, argsBack, opLen, opAbs, opInt1, opNeg, disp, cap, callF, takes, puts, selA, sel, aApp, par, gT, gsC, gs0, appF, opDivmod, frzL, plainL, t1, isTup, Pm.ne_int, ts, isStr, h1, chS, q1, q2, q3, h2, h3, e2, e3, pb, pc]
              · simp [mkF, reFrz, seq, Pm.ite, rtn, mov, asg, drp, sNx, bnd, Pm.bin, Pm.un, app, aCons, aNil, idx, loc, con, Pm.ret, peek1, peeks, itemOf, on2I, iAdd, iSub, iGt, iGe, iLt, iLe, iDiv, iMod, use1, useL, gI, gN, tst, andT, orT, notT, andE, orE, notE, ifE, ixN, D.frz, D.plain, plainL, argsBack, opLen, opAbs, opInt1, opNeg, disp, cap, callF, takes, puts, selA, sel, aApp, par, gT, gsC, gs0, appF, opDivmod, frzL, plainL, t1, isTup, Pm.ne_int, ts, isStr, h1, chS, q1, q2, q3, h2, h3, e2, e3, pb, pc]
            · simp [mkF, reFrz, seq, Pm.ite, rtn, mov, asg, drp, sNx, bnd, Pm.bin, Pm.un, app, aCons, aNil, idx, loc, con, Pm.ret, peek1, peeks, itemOf, on2I, iAdd, iSub, iGt, iGe, iLt, iLe, iDiv, iMod, use1, useL, gI, gN, tst, andT, orT, notT, andE, orE, notE, ifE, ixN, D.frz, D.plain, plainL, argsBack, opLen, opAbs, opInt1, opNeg, disp, cap, callF, takes, puts, selA, sel, aApp, par, gT, gsC, gs0, appF, opDivmod, frzL, plainL, t1, isTup, Pm.ne_int, ts, isStr, h1, chS, q1, q2, q3, h2, e2, e3, pb, pc]
          · have h2 : ¬ ((s.length : Int) = 1) := by omega
            have lf : letB (.str s) = false := by
              show (s.length == 1 && _) = false
              rw [beq_eq_false_iff_ne.mpr h1]; rfl
            rw [lf]
            simp [mkF, reFrz, seq, Pm.ite, rtn, mov, asg, drp, sNx, bnd, Pm.bin, Pm.un, app, aCons, aNil, idx, loc, con, Pm.ret, peek1, peeks, itemOf, on2I, iAdd, iSub, iGt, iGe, iLt, iLe, iDiv, iMod, use1, useL, gI, gN, tst, andT, orT, notT, andE, orE, notE, ifE, ixN, D.frz, D.plain, plainL, argsBack, opLen, opAbs, opInt1, opNeg, disp, cap, callF, takes, puts, selA, sel, aApp, par, gT, gsC, gs0, appF, opDivmod, frzL, plainL, t1, isTup, Pm.ne_int, ts, isStr, hs, h1, h2, pb, pc]
        | node o k ys =>
          simp only [D.plain, Bool.and_eq_true, Bool.not_eq_true'] at pa
          obtain ⟨rfl, pa⟩ := pa
          simp [mkF, reFrz, seq, Pm.ite, rtn, mov, asg, drp, sNx, bnd, Pm.bin, Pm.un, app, aCons, aNil, idx, loc, con, Pm.ret, peek1, peeks, itemOf, on2I, iAdd, iSub, iGt, iGe, iLt, iLe, iDiv, iMod, use1, useL, gI, gN, tst, andT, orT, notT, andE, orE, notE, ifE, ixN, D.frz, D.plain, plainL, argsBack, opLen, opAbs, opInt1, opNeg, disp, cap, callF, takes, puts, selA, sel, aApp, par, gT, gsC, gs0, appF, opDivmod, frzL, plainL, t1, isTup, Pm.ne_int, ts, isStr, letB, pa, pb, pc]
        | _ => simp [mkF, reFrz, seq, Pm.ite, rtn, mov, asg, drp, sNx, bnd, Pm.bin, Pm.un, app, aCons, aNil, idx, loc, con, Pm.ret, peek1, peeks, itemOf, on2I, iAdd, iSub, iGt, iGe, iLt, iLe, iDiv, iMod, use1, useL, gI, gN, tst, andT, orT, notT, andE, orE, notE, ifE, ixN, D.frz, D.plain, plainL, argsBack, opLen, opAbs, opInt1, opNeg, disp, cap, callF, takes, puts, selA, sel, aApp, par, gT, gsC, gs0, appF, opDivmod, frzL, plainL, t1, isTup, Pm.ne_int, ts, isStr, letB, pb, pc]
      | a :: b :: c :: d :: r, hp, _ =>
        have h3 : ¬ ((r.length : Int) + 1 + 1 + 1 + 1 = 3) := by omega
        generalize S__law_is_whole = SW at *
        simp [mkF, reFrz, seq, Pm.ite, rtn, mov, asg, drp, sNx, bnd, Pm.bin, Pm.un, app, aCons, aNil, idx, loc, con, Pm.ret, peek1, peeks, itemOf, on2I, iAdd, iSub, iGt, iGe, iLt, iLe, iDiv, iMod, use1, useL, gI, gN, tst, andT, orT, notT, andE, orE, notE, ifE, ixN, D.frz, D.plain, plainL, argsBack, opLen, opAbs, opInt1, opNeg, disp, cap, callF, takes, puts, selA, sel, aApp, par, gT, gsC, gs0, appF, opDivmod, frzL, plainL, t1, isTup, rowB, Pm.ne_int, h3] at hp ⊢
    | _ =>
      simp only [D.plain, Bool.and_eq_true, Bool.not_eq_true'] at hp
      obtain ⟨rfl, hp2⟩ := hp
      generalize S__law_is_whole = SW at *
      simp [mkF, reFrz, seq, Pm.ite, rtn, mov, asg, drp, sNx, bnd, Pm.bin, Pm.un, app, aCons, aNil, idx, loc, con, Pm.ret, peek1, peeks, itemOf, on2I, iAdd, iSub, iGt, iGe, iLt, iLe, iDiv, iMod, use1, useL, gI, gN, tst, andT, orT, notT, andE, orE, notE, ifE, ixN, D.frz, D.plain, plainL, argsBack, opLen, opAbs, opInt1, opNeg, disp, cap, callF, takes, puts, selA, sel, aApp, par, gT, gsC, gs0, appF, opDivmod, frzL, plainL, t1, isTup, rowB, hp2]
  | _ =>
    generalize S__law_is_whole = SW at *
    simp [mkF, reFrz, seq, Pm.ite, rtn, mov, asg, drp, sNx, bnd, Pm.bin, Pm.un, app, aCons, aNil, idx, loc, con, Pm.ret, peek1, peeks, itemOf, on2I, iAdd, iSub, iGt, iGe, iLt, iLe, iDiv, iMod, use1, useL, gI, gN, tst, andT, orT, notT, andE, orE, notE, ifE, ixN, D.frz, D.plain, plainL, argsBack, opLen, opAbs, opInt1, opNeg, disp, cap, callF, takes, puts, selA, sel, aApp, par, gT, gsC, gs0, appF, opDivmod, frzL, plainL, t1, isTup, rowB]
/-- rows from a letter on -/
def rowsB : Str → List D → Bool
  | _, [] => true
  | L, r :: rs => (rowB r && ltS L (hdD r)) && rowsB (hdD r) rs
theorem rows_wp {B : Nat} {TD : D} {rs : List D} {ρ0 : Pm.Env} {L0 : Str} {x0 : Option D} (hp : plainL rs = true) (hf : ∀ r ∈ rs, Fi B r) {sr : M (List D)} (hs : sr ρ0 = .ok rs [some TD, some (.str L0), x0]) {Q : Fl → Pm.Env → Prop}
    (q1 : ∀ L x, rowsB L0 rs = true → Q .nx [some TD, some (.str L), x]) (q2 : ∀ L x, rowsB L0 rs = false → Q (.rt (.bl false)) [some TD, some (.str L), x]) : Wp (forS sr (gN 2) b_oldue_1) ρ0 Q := by
  refine wp_for hs (fun j ρ => ∃ L x, ρ = [some TD, some (.str L), x] ∧ rowsB L0 rs = rowsB L (rs.drop j)) ⟨L0, x0, rfl, by simp⟩ ?_ ?_
  · rintro j r ρ hj ⟨L, x, rfl, e⟩
    have hm := List.mem_of_getElem? hj
    have t := row_turn (TD := TD) (L := L) (plain_mem hp r hm) (hf r hm)
    have hd : rs.drop j = r :: rs.drop (j + 1) := by
      obtain ⟨h, rfl⟩ := List.getElem?_eq_some_iff.mp hj
      exact List.drop_eq_getElem_cons h
    rw [hd, rowsB] at e
    refine ⟨[some TD, some (.str L), some r], rfl, ?_⟩
    cases hb : rowB r && ltS L (hdD r) with
    | true =>
      rw [hb, if_pos rfl] at t
      rw [hb, Bool.true_and] at e
      exact Wp.of t ⟨hdD r, some r, rfl, e⟩
    | false =>
      rw [hb, if_neg (by decide)] at t
      rw [hb, Bool.false_and] at e
      exact Wp.of t (q2 L (some r) e)
  · rintro ρ ⟨L, x, rfl, e⟩
    rw [List.drop_length, rowsB] at e
    exact q1 L x e
theorem rowsB_eq : ∀ (r : D) (rs : List D), rowsB (hdD r) rs = (rs.all rowB && ascB (r :: rs))
  | r, [] => rfl
  | r, s :: rs => by
    rw [rowsB, rowsB_eq s rs, List.all_cons, ascB]
    generalize rowB s = a
    generalize ltS (hdD r) (hdD s) = b
    generalize rs.all rowB = c
    generalize ascB (s :: rs) = d
    cases a <;> cases b <;> cases c <;> cases d <;> rfl
theorem empty_lt {d : D} (h : rowB d = true) : ltS (T []) (hdD d) = true := by
  cases d with
  | node o k xs =>
    cases k with
    | tup =>
      match xs, h with
      | [a, b, c], h =>
        rw [rowB, Bool.and_eq_true] at h
        cases a with
        | str s =>
          have h1 : s.length = 1 := by
            have := h.1
            rw [show letB (.str s) = (s.length == 1 && subS s (T ABC)) from rfl, Bool.and_eq_true, beq_iff_eq] at this
            exact this.1
          obtain ⟨c, rfl⟩ := one_sign h1
          exact decide_eq_true (List.nil_lt_cons _ _)
        | _ => simp [letB] at h
    | _ => simp [rowB] at h
  | _ => simp [rowB] at h
theorem rowsB_all (rs : List D) : rowsB (T []) rs = (rs.all rowB && ascB rs) := by
  cases rs with
  | nil => rfl
  | cons r rs =>
    rw [rowsB, rowsB_eq, List.all_cons]
    cases h : rowB r with
    | false => rfl
    | true =>
      rw [empty_lt h]
      generalize rs.all rowB = c
      generalize ascB (r :: rs) = d
      cases c <;> cases d <;> rfl
theorem empty_lit : (("" : String) : Str) = T [] := lit rfl
theorem due_ok {B : Nat} {d : D} (hp : d.plain = true) (h : Fi B d) : S__law_due [d] = .ret (.bl (tabB d)) [d] := by
  have t1 := isi_tup h.ty
  have hw : Wf S__law_due [d] fun r as => r = .bl (tabB d) ∧ as = [d] := by
    unfold S__law_due
    refine wf_mkF ?_
    rw [bq_ldue]
    show Wp _ [some d, none, none] _
    cases d with
    | node o k xs =>
      cases k with
      | tup =>
        have hx := h.tup
        have hpp := hp
        simp only [D.plain, Bool.and_eq_true, Bool.not_eq_true'] at hp
        obtain ⟨rfl, hp⟩ := hp
        have fz := frzL_of_plain xs hp
        have tb : tabB (.node false .tup xs) = (decide (1 ≤ (xs.length : Int)) && decide ((xs.length : Int) ≤ 6) && xs.all rowB && ascB xs) := rfl
        have ra := rowsB_all xs
        have hsrc : srcA (loc 0) [some (.node false .tup xs), some (.str (T [])), none] = .ok xs [some (.node false .tup xs), some (.str (T [])), none] := by simp [srcA, mkF, reFrz, seq, Pm.ite, rtn, mov, asg, drp, sNx, bnd, Pm.bin, Pm.un, app, aCons, aNil, idx, loc, con, Pm.ret, peek1, peeks, itemOf, on2I, iAdd, iSub, iGt, iGe, iLt, iLe, iDiv, iMod, use1, useL, gI, gN, tst, andT, orT, notT, andE, orE, notE, ifE, ixN, D.frz, D.plain, plainL, argsBack, opLen, opAbs, opInt1, opNeg, disp, cap, callF, takes, puts, selA, sel, aApp, par, gT, gsC, gs0, appF, opDivmod, frzL, plainL, fz]
        have lp := fun Q => rows_wp (Q := Q) hp hx hsrc
        have l6 := opGtA_ii (xs.length : Int) 6
        rw [empty_lit]
        rw [tb]
        generalize forS (srcA (loc 0)) (gN 2) b_oldue_1 = FOR at *
        by_cases h1 : xs.length = 0
        · have h1' : ¬ (1 ≤ (xs.length : Int)) := by omega
          refine wp_seq fun K k1 k2 k3 k4 => ?_
          simp [Wp, mkF, reFrz, seq, Pm.ite, rtn, mov, asg, drp, sNx, bnd, Pm.bin, Pm.un, app, aCons, aNil, idx, loc, con, Pm.ret, peek1, peeks, itemOf, on2I, iAdd, iSub, iGt, iGe, iLt, iLe, iDiv, iMod, use1, useL, gI, gN, tst, andT, orT, notT, andE, orE, notE, ifE, ixN, D.frz, D.plain, plainL, argsBack, opLen, opAbs, opInt1, opNeg, disp, cap, callF, takes, puts, selA, sel, aApp, par, gT, gsC, gs0, appF, opDivmod, frzL, plainL, t1, isTup, eq_int', h1]
          refine k2 _ _ ?_
          exact ⟨[.node false .tup xs], by simp [argsBack, reFrz, D.plain, hp], by rw [decide_eq_false h1', Bool.false_and, Bool.false_and, Bool.false_and], rfl⟩
        · have h1' : 1 ≤ (xs.length : Int) := by omega
          by_cases h2 : (xs.length : Int) ≤ 6
          · have h2' : ¬ 6 < (xs.length : Int) := by omega
            refine wp_seq fun K k1 k2 k3 k4 => ?_
            simp [Wp, mkF, reFrz, seq, Pm.ite, rtn, mov, asg, drp, sNx, bnd, Pm.bin, Pm.un, app, aCons, aNil, idx, loc, con, Pm.ret, peek1, peeks, itemOf, on2I, iAdd, iSub, iGt, iGe, iLt, iLe, iDiv, iMod, use1, useL, gI, gN, tst, andT, orT, notT, andE, orE, notE, ifE, ixN, D.frz, D.plain, plainL, argsBack, opLen, opAbs, opInt1, opNeg, disp, cap, callF, takes, puts, selA, sel, aApp, par, gT, gsC, gs0, appF, opDivmod, frzL, plainL, t1, isTup, eq_int', h1, l6, h2']
            refine k1 _ ?_
            clear k1 k2 k3 k4 K
            refine wp_seq fun K k1 k2 k3 k4 => ?_
            simp [Wp, mkF, reFrz, seq, Pm.ite, rtn, mov, asg, drp, sNx, bnd, Pm.bin, Pm.un, app, aCons, aNil, idx, loc, con, Pm.ret, peek1, peeks, itemOf, on2I, iAdd, iSub, iGt, iGe, iLt, iLe, iDiv, iMod, use1, useL, gI, gN, tst, andT, orT, notT, andE, orE, notE, ifE, ixN, D.frz, D.plain, plainL, argsBack, opLen, opAbs, opInt1, opNeg, disp, cap, callF, takes, puts, selA, sel, aApp, par, gT, gsC, gs0, appF, opDivmod, frzL, plainL]
            refine k1 _ ?_
            clear k1 k2 k3 k4 K
            refine wp_seq fun K k1 k2 k3 k4 => lp K (fun L x e => k1 _ ?_) fun L x e => k2 _ _ ?_
            · clear k1 k2 k3 k4 K lp hsrc
              rw [ra] at e
              refine wp_end fun K k1 k2 k3 k4 => ?_
              simp [Wp, mkF, reFrz, seq, Pm.ite, rtn, mov, asg, drp, sNx, bnd, Pm.bin, Pm.un, app, aCons, aNil, idx, loc, con, Pm.ret, peek1, peeks, itemOf, on2I, iAdd, iSub, iGt, iGe, iLt, iLe, iDiv, iMod, use1, useL, gI, gN, tst, andT, orT, notT, andE, orE, notE, ifE, ixN, D.frz, D.plain, plainL, argsBack, opLen, opAbs, opInt1, opNeg, disp, cap, callF, takes, puts, selA, sel, aApp, par, gT, gsC, gs0, appF, opDivmod, frzL, plainL]
              refine k2 _ _ ?_
              simp [Pm.Fin, argsBack, reFrz, D.plain, hp, h1', h2, e]
            · clear k1 k2 k3 k4 K lp hsrc
              rw [ra] at e
              exact ⟨[.node false .tup xs], by simp [argsBack, reFrz, D.plain, hp], by rw [Bool.and_assoc, e, Bool.and_false], rfl⟩
          · have h2' : 6 < (xs.length : Int) := by omega
            refine wp_seq fun K k1 k2 k3 k4 => ?_
            simp [Wp, mkF, reFrz, seq, Pm.ite, rtn, mov, asg, drp, sNx, bnd, Pm.bin, Pm.un, app, aCons, aNil, idx, loc, con, Pm.ret, peek1, peeks, itemOf, on2I, iAdd, iSub, iGt, iGe, iLt, iLe, iDiv, iMod, use1, useL, gI, gN, tst, andT, orT, notT, andE, orE, notE, ifE, ixN, D.frz, D.plain, plainL, argsBack, opLen, opAbs, opInt1, opNeg, disp, cap, callF, takes, puts, selA, sel, aApp, par, gT, gsC, gs0, appF, opDivmod, frzL, plainL, t1, isTup, eq_int', h1, l6, h2']
            refine k2 _ _ ?_
            simp [Pm.Fin, argsBack, reFrz, D.plain, hp, h2]
      | _ =>
        simp only [D.plain, Bool.and_eq_true, Bool.not_eq_true'] at hp
        obtain ⟨rfl, hp2⟩ := hp
        refine wp_seq fun K k1 k2 k3 k4 => ?_
        simp [Wp, mkF, reFrz, seq, Pm.ite, rtn, mov, asg, drp, sNx, bnd, Pm.bin, Pm.un, app, aCons, aNil, idx, loc, con, Pm.ret, peek1, peeks, itemOf, on2I, iAdd, iSub, iGt, iGe, iLt, iLe, iDiv, iMod, use1, useL, gI, gN, tst, andT, orT, notT, andE, orE, notE, ifE, ixN, D.frz, D.plain, plainL, argsBack, opLen, opAbs, opInt1, opNeg, disp, cap, callF, takes, puts, selA, sel, aApp, par, gT, gsC, gs0, appF, opDivmod, frzL, plainL, t1, isTup]
        refine k2 _ _ ?_
        simp [Pm.Fin, argsBack, reFrz, D.plain, hp2, tabB]
    | _ =>
      refine wp_seq fun K k1 k2 k3 k4 => ?_
      simp [Wp, mkF, reFrz, seq, Pm.ite, rtn, mov, asg, drp, sNx, bnd, Pm.bin, Pm.un, app, aCons, aNil, idx, loc, con, Pm.ret, peek1, peeks, itemOf, on2I, iAdd, iSub, iGt, iGe, iLt, iLe, iDiv, iMod, use1, useL, gI, gN, tst, andT, orT, notT, andE, orE, notE, ifE, ixN, D.frz, D.plain, plainL, argsBack, opLen, opAbs, opInt1, opNeg, disp, cap, callF, takes, puts, selA, sel, aApp, par, gT, gsC, gs0, appF, opDivmod, frzL, plainL, t1, isTup]
      refine k2 _ _ ?_
      simp [Pm.Fin, argsBack, reFrz, D.plain, tabB]
  obtain ⟨r, as, e, rfl, rfl⟩ := hw
  exact e
theorem due_lst {xs : List D} : S__law_due [.node true .lst xs] = .ret (.bl false) [.node true .lst xs] := by
  have t1 : opIsi [.node true .lst xs, .op (.ty "tuple")] = some (.bl false) := isi_tup rfl
  unfold S__law_due
  rw [bq_ldue]
  generalize forS (srcA (loc 0)) (gN 2) b_oldue_1 = FOR at *
  simp [mkF, reFrz, seq, Pm.ite, rtn, mov, asg, drp, sNx, bnd, Pm.bin, Pm.un, app, aCons, aNil, idx, loc, con, Pm.ret, peek1, peeks, itemOf, on2I, iAdd, iSub, iGt, iGe, iLt, iLe, iDiv, iMod, use1, useL, gI, gN, tst, andT, orT, notT, andE, orE, notE, ifE, ixN, D.frz, D.plain, plainL, argsBack, opLen, opAbs, opInt1, opNeg, disp, cap, callF, takes, puts, selA, sel, aApp, par, gT, gsC, gs0, appF, opDivmod, frzL, plainL, t1]
/-! ### looked at twice -/
theorem eq_bb (b : Bool) (x : Str) : opEq [.str x, .str x] = some (.bl true) := by rw [eq_ss, beq_self_eq_true]
theorem ne_bb' (x : Str) : opNe [.str x, .str x] = some (.bl false) := by rw [ne_ss, beq_self_eq_true]; rfl
theorem right_go {d : D} {b : Bool} {x y : Str} (hd : d.plain = true ∨ ∃ xs, d = .node true .lst xs) (e1 : S__law_due [d] = .ret (.bl b) [d]) (e2 : S_is_table [d] = .ret (.bl b) [d]) (r1 : opReprC [d] = some (.str x)) (r2 : opReprC [.bl b] = some (.str y)) :
    S__law_right [d] = .ret (.bl true) [d] := by
  have n1 := ne_bb' y
  have q1 := eq_bb true x
  unfold S__law_right
  rw [bq_lright]
  generalize S__law_due = SD at *
  generalize S_is_table = ST at *
  generalize opReprC = OR at *
  generalize opEq = EQ at *
  generalize opNe = NE at *
  rcases hd with hd | ⟨xs, rfl⟩
  · simp [mkF, reFrz, seq, Pm.ite, rtn, mov, asg, drp, sNx, bnd, Pm.bin, Pm.un, app, aCons, aNil, idx, loc, con, Pm.ret, peek1, peeks, itemOf, on2I, iAdd, iSub, iGt, iGe, iLt, iLe, iDiv, iMod, use1, useL, gI, gN, tst, andT, orT, notT, andE, orE, notE, ifE, ixN, D.frz, D.plain, plainL, argsBack, opLen, opAbs, opInt1, opNeg, disp, cap, callF, takes, puts, selA, sel, aApp, par, gT, gsC, gs0, appF, opDivmod, frzL, plainL, e1, e2, r1, r2, n1, q1, hd]
  · simp [mkF, reFrz, seq, Pm.ite, rtn, mov, asg, drp, sNx, bnd, Pm.bin, Pm.un, app, aCons, aNil, idx, loc, con, Pm.ret, peek1, peeks, itemOf, on2I, iAdd, iSub, iGt, iGe, iLt, iLe, iDiv, iMod, use1, useL, gI, gN, tst, andT, orT, notT, andE, orE, notE, ifE, ixN, D.frz, D.plain, plainL, argsBack, opLen, opAbs, opInt1, opNeg, disp, cap, callF, takes, puts, selA, sel, aApp, par, gT, gsC, gs0, appF, opDivmod, frzL, plainL, e1, e2, r1, r2, n1, q1]
theorem right_ok {B : Nat} {d : D} (hB : B < 2 ^ 199) (hp : d.plain = true) (h : Fi B d) (hn : dpD d ≤ 60) : S__law_right [d] = .ret (.bl true) [d] := by
  obtain ⟨x, r1⟩ := reprC_ok hB h.ok hn h.wt
  have e2 := Pg.table_is hp h
  rw [← e_is_table] at e2
  exact right_go (.inl hp) (due_ok hp h) e2 r1 (reprC_bl _)
theorem right_lst {B : Nat} {xs : List D} (hB : B < 2 ^ 199) (h : Fi B (.node true .lst xs)) (hn : dpD (.node true .lst xs) ≤ 60) : S__law_right [.node true .lst xs] = .ret (.bl true) [.node true .lst xs] := by
  obtain ⟨x, r1⟩ := reprC_ok hB h.ok hn h.wt
  have e2 := Pg.table_lst (xs := xs)
  rw [← e_is_table] at e2
  exact right_go (.inr ⟨xs, rfl⟩) due_lst e2 r1 (reprC_bl _)
end Pk01
set_option maxHeartbeats 1000000
/-! Lm01: law k01: things changed. -/
namespace Pk01
open PySem PySem.Spec PyProof.Rows L2 Pm
open Pg (Fi tabB rowB letB numB ascB hdD ABC abc_T btwB dr divS TabOk tabD Tab sg rowD)
/-- a thing: plain, ints up to B, weight up to w, depth up to n -/
structure Bn (B w n : Nat) (d : D) : Prop where
  pl : d.plain = true
  ok : okD B d = true
  wt : wtD d ≤ w
  dp : dpD d ≤ n
theorem Bn.mono {B w n C v m : Nat} {d : D} (h : Bn B w n d) (h1 : B ≤ C) (h2 : w ≤ v) (h3 : n ≤ m) : Bn C v m d := ⟨h.pl, okD_mono h1 d h.ok, Nat.le_trans h.wt h2, Nat.le_trans h.dp h3⟩
theorem Bn.fi {B w n : Nat} {d : D} (h : Bn B w n d) (hw : w ≤ 4000) : Fi B d := ⟨h.ok, Nat.le_trans h.wt hw⟩
abbrev BC : Nat := 100000000000000000000000000000000000000000000000000000000001
def cst (d : D) : Bool := d.plain && (okD BC d && (decide (wtD d ≤ 210) && decide (dpD d ≤ 1)))
theorem Bn.cst {B w n : Nat} {d : D} (h : cst d = true) (hB : BC ≤ B) : Bn B (w + 210) (n + 1) d := by
  simp only [Pk01.cst, Bool.and_eq_true, decide_eq_true_eq] at h
  exact Bn.mono ⟨h.1, h.2.1, h.2.2.1, h.2.2.2⟩ hB (by omega) (by omega)
theorem Bn.int {B w n : Nat} {i : Int} (h : i.natAbs ≤ B) : Bn B w n (.int i) := ⟨rfl, decide_eq_true h, Nat.zero_le _, Nat.zero_le _⟩
theorem Bn.str {B w n : Nat} {l : List Nat} (h : ∀ c ∈ l, c < 128) (hw : l.length ≤ w) : Bn B w n (.str (T l)) :=
  ⟨rfl, by rw [okD, List.all_eq_true]; exact fun c hc => decide_eq_true (h c hc), hw, Nat.zero_le _⟩
def L0 : List D := [.non, .bl true, .bl false, .int 0, .int (-1), .int 1, .int 1000000000000, .int 1000000000001, .int (-1000000000001), .int 100000000000000000000000000000000000000000000000000000000000]
def L1 : List D := [.str "", .str "a", .str "z", .str "A", .str "ab", .str "1", .str "."]
def L2' (d : D) : List D := [.tup [], .node false .lst [], .node false (.dct []) [], .tup [.int 0], .tup [.str "a", .int 1, .int 1], .node false .lst [d], .tup [d], .node false (.dct [.inl 0]) [d]]
theorem L0_cst : L0.all cst = true := by decide +kernel
theorem L1_cst : L1.all cst = true := by decide +kernel
theorem L2_bn {B w n : Nat} {d : D} (hB : BC ≤ B) (h : Bn B w n d) : ∀ x ∈ L2' d, Bn B (w + 210) (n + 1) x := by
  intro x hx
  have hp := h.pl
  have ho := h.ok
  have hw := h.wt
  have hd := h.dp
  simp only [L2', List.mem_cons, List.not_mem_nil, or_false] at hx
  have c : ∀ d : D, cst d = true → Bn B (w + 210) (n + 1) d := fun d h => Bn.cst h hB
  rcases hx with rfl | rfl | rfl | rfl | rfl | rfl | rfl | rfl
  · exact c _ (by decide +kernel)
  · exact c _ (by decide +kernel)
  · exact c _ (by decide +kernel)
  · exact c _ (by decide +kernel)
  · exact c _ (by decide +kernel)
  · exact ⟨by simp [D.plain, plainL, hp], by simp [okD, okL, ho], by simp [wtD, wtL]; omega, by simp [dpD, dpL]; omega⟩
  · exact ⟨by simp [D.plain, plainL, hp], by simp [okD, okL, ho], by simp [wtD, wtL]; omega, by simp [dpD, dpL]; omega⟩
  · exact ⟨by simp [D.plain, plainL, hp], by simp [okD, okL, ho, okK], by simp [wtD, wtL, wtK]; omega, by simp [dpD, dpL]; omega⟩
theorem odd0 {A X2 : Option D} {z : Option D} : d_olodd_1 [z, A, X2] = .ok (.val (.node true .lst L0)) [z, A, X2] := by
  have pw : iPow 10 12 = some (.int 1000000000000) := rfl
  have pv : iPow 10 59 = some (.int 100000000000000000000000000000000000000000000000000000000000) := rfl
  have ad : hAdd [.int 1000000000000, .int 1] = some (.int 1000000000001) := rfl
  have sb : iSub (-1000000000000) 1 = some (.int (-1000000000001)) := rfl
  unfold d_olodd_1
  simp [mkF, reFrz, seq, Pm.ite, rtn, mov, asg, drp, sNx, bnd, Pm.bin, Pm.un, app, aCons, aNil, idx, loc, con, Pm.ret, peek1, peeks, itemOf, on2I, iAdd, iSub, iGt, iGe, iLt, iLe, iDiv, iMod, use1, useL, gI, gN, tst, andT, orT, notT, andE, orE, notE, ifE, ixN, D.frz, D.plain, plainL, argsBack, opLen, opAbs, opInt1, opNeg, disp, cap, callF, takes, puts, selA, sel, aApp, par, gT, gsC, gs0, appF, opDivmod, frzL, plainL, pw, pv, ad, sb, L0]
def LC (d : D) : List D := [.tup [], .node true .lst [], .node true (.dct []) [], .tup [.int 0], .tup [.str "a", .int 1, .int 1], .node true .lst [d], .tup [d], .node true (.dct [.inl 0]) [d]]
theorem LC_frz {d : D} (h : d.plain = true) : frzL (LC d) = L2' d := by simp [LC, L2', frzL, D.frz, D.frz_of_plain d h]
theorem odd2 {d : D} (h : d.plain = true) {z X2 : Option D} : d_olodd_2 [z, some d, X2] = .ok (.val (.node true .lst (LC d))) [z, some d, X2] := by
  have fd := D.frz_of_plain d h
  unfold d_olodd_2
  simp [mkF, reFrz, seq, Pm.ite, rtn, mov, asg, drp, sNx, bnd, Pm.bin, Pm.un, app, aCons, aNil, idx, loc, con, Pm.ret, peek1, peeks, itemOf, on2I, iAdd, iSub, iGt, iGe, iLt, iLe, iDiv, iMod, use1, useL, gI, gN, tst, andT, orT, notT, andE, orE, notE, ifE, ixN, D.frz, D.plain, plainL, argsBack, opLen, opAbs, opInt1, opNeg, disp, cap, callF, takes, puts, selA, sel, aApp, par, gT, gsC, gs0, appF, opDivmod, frzL, plainL, newD, dct1, fd, LC]
theorem LC_shal (d : D) : D.shal (.node true .lst (LC d)) = false := rfl
/-- the things that odd draws one of: those that all have -/
def L3 (d : D) : List D := L0 ++ L1 ++ L2' d
theorem L3_plain {d : D} (h : d.plain = true) : plainL (L3 d) = true := by
  refine plainL_of fun x hx => ?_
  rcases List.mem_append.mp hx with hx | hx
  · rcases List.mem_append.mp hx with hx | hx
    · have := List.all_eq_true.mp L0_cst x hx
      simp only [cst, Bool.and_eq_true] at this
      exact this.1
    · have := List.all_eq_true.mp L1_cst x hx
      simp only [cst, Bool.and_eq_true] at this
      exact this.1
  · simp only [L2', List.mem_cons, List.not_mem_nil, or_false] at hx
    rcases hx with rfl | rfl | rfl | rfl | rfl | rfl | rfl | rfl <;> simp [D.plain, plainL, h]
theorem L3_bn {B w n : Nat} {d : D} (hB : BC ≤ B) (h : Bn B w n d) : ∀ x ∈ L3 d, Bn B (w + 210) (n + 1) x := by
  intro x hx
  rcases List.mem_append.mp hx with hx | hx
  · rcases List.mem_append.mp hx with hx | hx
    · exact Bn.cst (List.all_eq_true.mp L0_cst x hx) hB
    · exact Bn.cst (List.all_eq_true.mp L1_cst x hx) hB
  · exact L2_bn hB h x hx
theorem L01_plain : plainL L0 = true ∧ plainL L1 = true := ⟨by decide +kernel, by decide +kernel⟩
theorem disp1 {z A : Option D} {X2 : D} : disp true .lst (aCons (con (.str "")) (aCons (con (.str "a")) (aCons (con (.str "z")) (aCons (con (.str "A")) (aCons (con (.str "ab")) (aCons (con (.str "1")) (aCons (con (.str ".")) aNil))))))) [z, A, some X2] = .ok (.val (.node true .lst L1)) [z, A, some X2] := by
  simp [mkF, reFrz, seq, Pm.ite, rtn, mov, asg, drp, sNx, bnd, Pm.bin, Pm.un, app, aCons, aNil, idx, loc, con, Pm.ret, peek1, peeks, itemOf, on2I, iAdd, iSub, iGt, iGe, iLt, iLe, iDiv, iMod, use1, useL, gI, gN, tst, andT, orT, notT, andE, orE, notE, ifE, ixN, D.frz, D.plain, plainL, argsBack, opLen, opAbs, opInt1, opNeg, disp, cap, callF, takes, puts, selA, sel, aApp, par, gT, gsC, gs0, appF, opDivmod, frzL, plainL, L1]
/-- two lists put together, frozen -/
theorem binF_ll {fa fb : M EV} {xs ys : List D} {ρ ρ1 ρ2 : Pm.Env} {o p : Bool} {i : Nat} (h1 : fa ρ = .ok (.ref i) ρ1) (h2 : fb ρ1 = .ok (.val (.node p .lst ys)) ρ2) (h3 : ρ2.getD i none = some (.node o .lst xs)) (px : plainL xs = true) (hl : xs.length + ys.length ≤ 1000000) :
    ∃ o', binF hAdd fa fb ρ = .ok (.val (.node true .lst (xs ++ frzL ys))) (ρ2.set i (some (.node o' .lst xs))) := by
  have fx := frzL_of_plain xs px
  have py := plainL_frz ys
  have hs : ρ2.set i (some (.node o .lst xs)) = ρ2 := by
    have := getD_some h3
    obtain ⟨hi, e⟩ := List.getElem?_eq_some_iff.mp this
    rw [← e, List.set_getElem_self]
  have sx : D.shal (.node o .lst xs) = true := by show plainL xs = true; exact px
  have sy : D.shal (.node p .lst ys) = plainL ys := rfl
  rw [List.getD_eq_getElem?_getD] at h3
  cases hy : plainL ys with
  | true =>
    refine ⟨o, ?_⟩
    have fy := frzL_of_plain ys hy
    have a := hAdd_ll (p := o) (q := p) px hy hl
    rw [hs, fy]
    show appF hAdd (aCons fa (aCons fb aNil)) ρ = _
    simp [appF, aCons, aNil, bnd, Pm.ret, h1, h2, peeks, peek1, h3, sx, sy, hy, a]
  | false =>
    refine ⟨false, ?_⟩
    have a := hAdd_ll (p := false) (q := false) px py (by rw [frzL_map, List.length_map]; exact hl)
    show appF hAdd (aCons fa (aCons fb aNil)) ρ = _
    simp [appF, aCons, aNil, bnd, Pm.ret, h1, h2, peeks, peek1, h3, sx, sy, hy, useL, use1, D.frz, frzL, fx, a, frzL_of_plain _ py]
theorem rep4 {xs : List D} (h : plainL xs = true) (hl : xs.length ≤ 100) : hMulT [.node true .lst xs, .int 4] = some (.node true .lst (List.replicate 4 xs).flatten) := by
  show (if plainL xs = true ∧ -(2 ^ 63) ≤ (4 : Int) ∧ (4 : Int) < 2 ^ 63 ∧ xs.length * (4 : Int).toNat ≤ cap then some (D.lst true (List.replicate (4 : Int).toNat xs).flatten) else none) = _
  rw [if_pos ⟨h, by decide, by decide, by show xs.length * 4 ≤ 1000000; omega⟩]
  rfl
theorem rep4_mem {xs : List D} {x : D} (h : x ∈ (List.replicate 4 xs).flatten) : x ∈ xs := by
  obtain ⟨l, hl, hx⟩ := List.mem_flatten.mp h
  rw [(List.mem_replicate.mp hl).2] at hx
  exact hx
theorem rep4_plain {xs : List D} (h : plainL xs = true) : plainL (List.replicate 4 xs).flatten = true := plainL_of fun x hx => plain_mem h x (rep4_mem hx)
theorem rep4_len (xs : List D) : (List.replicate 4 xs).flatten.length = 4 * xs.length := by simp; omega
/-- more things beside an int -/
def LI (i : Int) : List D := [.int (i + 1), .int (i - 1), .int (-i), .str (Str.ofString i.repr), .bl (decide (i = 1))]
theorem LI_len (i : Int) : (LI i).length = 5 := rfl
/-- more things beside a text -/
def LS (l : List Nat) : List D := [.str (T (l ++ [97])), .str (T (l.take (l.length - 1))), .str (T (l.map upN)), .tup [.str (T l)]]
theorem LS_len (l : List Nat) : (LS l).length = 4 := rfl
theorem LI_plain (i : Int) : plainL (LI i) = true := rfl
theorem LS_plain (l : List Nat) : plainL (LS l) = true := rfl
theorem text_int (i : Int) : ∃ l : List Nat, ((toString i : String) : Str) = T l ∧ ∀ c ∈ l, c < 128 := by
  refine ⟨(toString i).toList.map Char.toNat, T_lit _, fun c hc => ?_⟩
  obtain ⟨k, hk, rfl⟩ := List.mem_map.mp hc
  exact PySem.int_ascii i k hk
theorem LI_bn {B w n : Nat} {i : Int} (hB : BC ≤ B) (hB2 : B < 2 ^ 199) (h : i.natAbs ≤ B) : ∀ x ∈ LI i, Bn (B + 1) (2 * w + 210) (n + 1) x := by
  intro x hx
  simp only [LI, List.mem_cons, List.not_mem_nil, or_false] at hx
  rcases hx with rfl | rfl | rfl | rfl | rfl
  · exact Bn.int (by omega)
  · exact Bn.int (by omega)
  · exact Bn.int (by omega)
  · obtain ⟨l, e, hl⟩ := text_int i
    have e : Str.ofString i.repr = T l := e
    have sh := int_short (int_log hB2 h)
    have : (PyData.shown (.int i)).length = l.length := by
      show (Str.ofString i.repr).length = _
      rw [e, T_len]
    rw [e]
    exact Bn.str hl (by omega)
  · exact ⟨rfl, rfl, Nat.zero_le _, Nat.zero_le _⟩
theorem LS_bn {B w n : Nat} {l : List Nat} (hc : ∀ c ∈ l, c < 128) (hw : l.length ≤ w) : ∀ x ∈ LS l, Bn (B + 1) (2 * w + 210) (n + 1) x := by
  intro x hx
  simp only [LS, List.mem_cons, List.not_mem_nil, or_false] at hx
  rcases hx with rfl | rfl | rfl | rfl
  · refine Bn.str (fun c h => ?_) (by simp; omega)
    rcases List.mem_append.mp h with h | h
    · exact hc c h
    · simp at h; omega
  · exact Bn.str (fun c h => hc c (List.mem_of_mem_take h)) (by rw [List.length_take]; omega)
  · refine Bn.str (fun c h => ?_) (by rw [List.length_map]; omega)
    obtain ⟨k, hk, rfl⟩ := List.mem_map.mp h
    exact upN_lt (hc k hk)
  · have b := Bn.str (B := B + 1) (w := 2 * w + 209) (n := n) (l := l) hc (by omega)
    exact ⟨rfl, by simp only [okD, okL, Bool.and_true]; exact b.ok, by have := b.wt; simp only [wtD, wtL] at this ⊢; omega, by simp [dpD, dpL]⟩
theorem sl_last {α : Type} (l : List α) : slL l none (some (-1)) = l.take (l.length - 1) := by
  have h : HT.sIx l.length l.length (some (-1)) = l.length - 1 := by
    unfold HT.sIx
    simp
    omega
  rw [slL, HT.sIx_none, h]
  simp
/-- the end of odd -/
theorem odd_end {ns : List Int} {a : Int} {z XS : List D} {d : D} {P : D → Prop} (hl : ns.length ≤ 63) (hp : Pen ns a (.node true .lst z)) (ha : a + 1 ≤ 1000000) (h0 : 0 < XS.length) (h1 : XS.length ≤ 1000) (hx : ∀ x ∈ XS, P x ∧ x.plain = true) (hd : d.plain = true) :
    ∃ (e : D) (z' : List D), P e ∧ Pen ns (a + 1) (.node true .lst z') ∧ rtn (idx (aCons (loc 2) (aCons (callF S__law_draw (aCons (loc 0) (aCons (app opLen (aCons (loc 2) aNil)) aNil))) aNil))) [some (.node true .lst z), some d, some (.node true .lst XS)] = .ok (.rt e) [some (.node true .lst z'), some d, some (.node true .lst XS)] := by
  obtain ⟨r, z1, e1, r0, r1, p1⟩ := dr hS (m := (XS.length : Int)) hl hp (by omega) (by omega) (divS (by omega) (by omega))
  have pX : plainL XS = true := plainL_of fun x h => (hx x h).2
  obtain ⟨e, xs', e2, ⟨pe, ple⟩, _, e3⟩ := idx_ref (P := fun x => P x ∧ x.plain = true) (fi := callF S__law_draw (aCons (loc 0) (aCons (app opLen (aCons (loc 2) aNil)) aNil))) (ρ := [some (.node true .lst z), some d, some (.node true .lst XS)]) (ρ2 := [some (.node true .lst z1), some d, some (.node true .lst XS)]) (o := true) (k := .lst) (xs := XS) (r := r) (j := 2) (.inl rfl) ⟨rfl, by simp⟩ (by
    generalize S__law_draw = SD at *
    simp [mkF, reFrz, seq, Pm.ite, rtn, mov, asg, drp, sNx, bnd, Pm.bin, Pm.un, app, aCons, aNil, idx, loc, con, Pm.ret, peek1, peeks, itemOf, on2I, iAdd, iSub, iGt, iGe, iLt, iLe, iDiv, iMod, use1, useL, gI, gN, tst, andT, orT, notT, andE, orE, notE, ifE, ixN, D.frz, D.plain, plainL, argsBack, opLen, opAbs, opInt1, opNeg, disp, cap, callF, takes, puts, selA, sel, aApp, par, gT, gsC, gs0, appF, opDivmod, frzL, plainL, e1, show XS.length ≤ 1000000 by omega]) rfl r0 r1 hx
  rw [e3 pX] at e2
  have fe := D.frz_of_plain e ple
  rw [fe] at e2
  refine ⟨e, z1, pe, p1, ?_⟩
  generalize idx (aCons (loc 2) (aCons (callF S__law_draw (aCons (loc 0) (aCons (app opLen (aCons (loc 2) aNil)) aNil))) aNil)) = ID at *
  simp [mkF, reFrz, seq, Pm.ite, rtn, mov, asg, drp, sNx, bnd, Pm.bin, Pm.un, app, aCons, aNil, idx, loc, con, Pm.ret, peek1, peeks, itemOf, on2I, iAdd, iSub, iGt, iGe, iLt, iLe, iDiv, iMod, use1, useL, gI, gN, tst, andT, orT, notT, andE, orE, notE, ifE, ixN, D.frz, D.plain, plainL, argsBack, opLen, opAbs, opInt1, opNeg, disp, cap, callF, takes, puts, selA, sel, aApp, par, gT, gsC, gs0, appF, opDivmod, frzL, plainL, e2]
noncomputable abbrev oddT : M Fl := seq (Pm.ite (andT (tst (app opIsi (aCons (loc 1) (aCons (con (.op (.ty "int"))) aNil)))) (notT (tst (app opIsi (aCons (loc 1) (aCons (con (.op (.ty "bool"))) aNil)))))) (asg (binF hAdd (loc 2) (Pm.bin hMulT (disp true .lst (aCons (Pm.bin hAdd (loc 1) (con (.int 1))) (aCons (Pm.bin (on2I iSub) (loc 1) (con (.int 1))) (aCons (Pm.bin (on2I iSub) (con (.int 0)) (loc 1)) (aCons (app opStrI (aCons (loc 1) aNil)) (aCons (Pm.bin opEq (loc 1) (con (.int 1))) aNil)))))) (con (.int 4)))) (gN 2)) sNx)
    (seq (Pm.ite (tst (app opIsi (aCons (loc 1) (aCons (con (.op (.ty "str"))) aNil)))) (asg (binF hAdd (loc 2) (Pm.bin hMulT (disp true .lst (aCons (Pm.bin hAdd (loc 1) (con (.str "a"))) (aCons (cut (loc 1) none (some (Pm.un opNeg (con (.int 1))))) (aCons (smet0 opUpper (loc 1)) (aCons (disp false .tup (aCons (loc 1) aNil)) aNil))))) (con (.int 4)))) (gN 2)) sNx)
    (rtn (idx (aCons (loc 2) (aCons (callF S__law_draw (aCons (loc 0) (aCons (app opLen (aCons (loc 2) aNil)) aNil))) aNil)))))
theorem odd_len (d : D) : (L3 d).length = 25 := rfl
theorem odd_ok {ns : List Int} {a : Int} {z : List D} {d : D} {B w n : Nat} (hl : ns.length ≤ 63) (hp : Pen ns a (.node true .lst z)) (ha : a + 1 ≤ 1000000) (hB : BC ≤ B) (hB2 : B < 2 ^ 199) (h : Bn B w n d) (hw : w ≤ 4000) :
    ∃ (e : D) (z' : List D), S__law_odd [.node true .lst z, d] = .ret e [.node true .lst z', d] ∧ Bn (B + 1) (2 * w + 210) (n + 1) e ∧ Pen ns (a + 1) (.node true .lst z') := by
  have t1 := isi_int (ok_ty h.ok)
  have t2 := isi_bl (ok_ty h.ok)
  have t3 := isi_str (ok_ty h.ok)
  have dp := h.pl
  have fd := D.frz_of_plain d dp
  have p3 := L3_plain dp
  have b3 : ∀ x ∈ L3 d, Bn (B + 1) (2 * w + 210) (n + 1) x ∧ x.plain = true := fun x hx => by
    have := L3_bn hB h x hx
    exact ⟨this.mono (by omega) (by omega) (by omega), this.pl⟩
  have eb : ∃ (e : D) (z' XS : List D), Bn (B + 1) (2 * w + 210) (n + 1) e ∧ Pen ns (a + 1) (.node true .lst z') ∧ b__law_odd [some (.node true .lst z), some d, none] = .ok (.rt e) [some (.node true .lst z'), some d, some (.node true .lst XS)] := by
    have o0 := odd0 (A := some d) (X2 := none) (z := some (.node true .lst z))
    have o1 := disp1 (z := some (.node true .lst z)) (A := some d) (X2 := .node true .lst L0)
    obtain ⟨b1, s1⟩ := binF_ll (fa := loc 2) (fb := disp true .lst (aCons (con (.str "")) (aCons (con (.str "a")) (aCons (con (.str "z")) (aCons (con (.str "A")) (aCons (con (.str "ab")) (aCons (con (.str "1")) (aCons (con (.str ".")) aNil)))))))) (i := 2) (o := true) (p := true) (ρ := [some (.node true .lst z), some d, some (.node true .lst L0)]) (xs := L0) (ys := L1) rfl o1 rfl L01_plain.1 (by decide)
    rw [frzL_of_plain L1 L01_plain.2] at s1
    have o2 := odd2 dp (z := some (.node true .lst z)) (X2 := some (.node true .lst (L0 ++ L1)))
    obtain ⟨b2, s2⟩ := binF_ll (fa := loc 2) (fb := d_olodd_2) (i := 2) (o := true) (p := true) (ρ := [some (.node true .lst z), some d, some (.node true .lst (L0 ++ L1))]) (xs := L0 ++ L1) (ys := LC d) rfl o2 rfl (by decide +kernel) (by show 17 + 8 ≤ 1000000; decide)
    rw [LC_frz dp] at s2
    rw [bq_lodd]
    generalize d_olodd_1 = D1 at *
    generalize d_olodd_2 = D2 at *
    rw [seq_ok (ρ' := [some (.node true .lst z), some d, some (.node true .lst L0)]) (by simp [mkF, reFrz, seq, Pm.ite, rtn, mov, asg, drp, sNx, bnd, Pm.bin, Pm.un, app, aCons, aNil, idx, loc, con, Pm.ret, peek1, peeks, itemOf, on2I, iAdd, iSub, iGt, iGe, iLt, iLe, iDiv, iMod, use1, useL, gI, gN, tst, andT, orT, notT, andE, orE, notE, ifE, ixN, D.frz, D.plain, plainL, argsBack, opLen, opAbs, opInt1, opNeg, disp, cap, callF, takes, puts, selA, sel, aApp, par, gT, gsC, gs0, appF, opDivmod, frzL, plainL, o0])]
    generalize binF hAdd (loc 2) (disp true .lst (aCons (con (.str "")) (aCons (con (.str "a")) (aCons (con (.str "z")) (aCons (con (.str "A")) (aCons (con (.str "ab")) (aCons (con (.str "1")) (aCons (con (.str ".")) aNil)))))))) = F1 at *
    rw [seq_ok (ρ' := [some (.node true .lst z), some d, some (.node true .lst (L0 ++ L1))]) (by simp [mkF, reFrz, seq, Pm.ite, rtn, mov, asg, drp, sNx, bnd, Pm.bin, Pm.un, app, aCons, aNil, idx, loc, con, Pm.ret, peek1, peeks, itemOf, on2I, iAdd, iSub, iGt, iGe, iLt, iLe, iDiv, iMod, use1, useL, gI, gN, tst, andT, orT, notT, andE, orE, notE, ifE, ixN, D.frz, D.plain, plainL, argsBack, opLen, opAbs, opInt1, opNeg, disp, cap, callF, takes, puts, selA, sel, aApp, par, gT, gsC, gs0, appF, opDivmod, frzL, plainL, s1])]
    generalize binF hAdd (loc 2) D2 = F2 at *
    rw [seq_ok (ρ' := [some (.node true .lst z), some d, some (.node true .lst (L3 d))]) (by simp [mkF, reFrz, seq, Pm.ite, rtn, mov, asg, drp, sNx, bnd, Pm.bin, Pm.un, app, aCons, aNil, idx, loc, con, Pm.ret, peek1, peeks, itemOf, on2I, iAdd, iSub, iGt, iGe, iLt, iLe, iDiv, iMod, use1, useL, gI, gN, tst, andT, orT, notT, andE, orE, notE, ifE, ixN, D.frz, D.plain, plainL, argsBack, opLen, opAbs, opInt1, opNeg, disp, cap, callF, takes, puts, selA, sel, aApp, par, gT, gsC, gs0, appF, opDivmod, frzL, plainL, s2, L3])]
    have l3 := odd_len d
    clear s1 s2 o0 o1 o2
    have oth : (isWhl d = false ∨ isBl d = true) → isStr d = false → ∃ (e : D) (z' XS : List D), Bn (B + 1) (2 * w + 210) (n + 1) e ∧ Pen ns (a + 1) (.node true .lst z') ∧ oddT [some (.node true .lst z), some d, some (.node true .lst (L3 d))] = .ok (.rt e) [some (.node true .lst z'), some d, some (.node true .lst XS)] := by
      intro hA hs
      obtain ⟨e, z', q1, q2, q3⟩ := odd_end (XS := L3 d) (P := Bn (B + 1) (2 * w + 210) (n + 1)) hl hp ha (by rw [l3]; decide) (by rw [l3]; decide) b3 dp
      refine ⟨e, z', L3 d, q1, q2, ?_⟩
      have tt : (isWhl d && !isBl d) = false := by rcases hA with hA | hA <;> rw [hA] <;> simp
      unfold oddT
      generalize isWhl d = W1 at *
      generalize isBl d = W2 at *
      rw [seq_ok (ρ' := [some (.node true .lst z), some d, some (.node true .lst (L3 d))]) (by
        generalize asg (binF hAdd (loc 2) _) (gN 2) = F3 at *
        cases W1 <;> cases W2 <;> simp [mkF, reFrz, seq, Pm.ite, rtn, mov, asg, drp, sNx, bnd, Pm.bin, Pm.un, app, aCons, aNil, idx, loc, con, Pm.ret, peek1, peeks, itemOf, on2I, iAdd, iSub, iGt, iGe, iLt, iLe, iDiv, iMod, use1, useL, gI, gN, tst, andT, orT, notT, andE, orE, notE, ifE, ixN, D.frz, D.plain, plainL, argsBack, opLen, opAbs, opInt1, opNeg, disp, cap, callF, takes, puts, selA, sel, aApp, par, gT, gsC, gs0, appF, opDivmod, frzL, plainL, t1, t2] at tt ⊢)]
      rw [seq_ok (ρ' := [some (.node true .lst z), some d, some (.node true .lst (L3 d))]) (by
        generalize asg (binF hAdd (loc 2) _) (gN 2) = F3 at *
        simp [mkF, reFrz, seq, Pm.ite, rtn, mov, asg, drp, sNx, bnd, Pm.bin, Pm.un, app, aCons, aNil, idx, loc, con, Pm.ret, peek1, peeks, itemOf, on2I, iAdd, iSub, iGt, iGe, iLt, iLe, iDiv, iMod, use1, useL, gI, gN, tst, andT, orT, notT, andE, orE, notE, ifE, ixN, D.frz, D.plain, plainL, argsBack, opLen, opAbs, opInt1, opNeg, disp, cap, callF, takes, puts, selA, sel, aApp, par, gT, gsC, gs0, appF, opDivmod, frzL, plainL, t3, hs])]
      exact q3
    cases d with
    | int i =>
      have hi : i.natAbs ≤ B := by simpa [okD] using h.ok
      have a1 := hAdd_ii i 1
      have si : opStrI [.int i] = some (.str (Str.ofString i.repr)) := by
        show (if i.natAbs.log2 < 1920 then some (D.str (Str.ofString i.repr)) else none) = _
        rw [if_pos (Nat.lt_trans (int_log hB2 hi) (by decide))]
      have ei : opEq [.int i, .int 1] = some (.bl (decide (i = 1))) := eq_int' i 1
      have r4 := rep4 (LI_plain i) (by rw [LI_len]; decide)
      obtain ⟨b4, s4⟩ := binF_ll (fa := loc 2) (fb := Pm.bin hMulT (disp true .lst (aCons (Pm.bin hAdd (loc 1) (con (.int 1))) (aCons (Pm.bin (on2I iSub) (loc 1) (con (.int 1))) (aCons (Pm.bin (on2I iSub) (con (.int 0)) (loc 1)) (aCons (app opStrI (aCons (loc 1) aNil)) (aCons (Pm.bin opEq (loc 1) (con (.int 1))) aNil)))))) (con (.int 4))) (i := 2) (o := true) (p := true) (ρ := [some (.node true .lst z), some (.int i), some (.node true .lst (L3 (.int i)))])
        (ρ1 := [some (.node true .lst z), some (.int i), some (.node true .lst (L3 (.int i)))]) (ρ2 := [some (.node true .lst z), some (.int i), some (.node true .lst (L3 (.int i)))]) (xs := L3 (.int i)) (ys := (List.replicate 4 (LI i)).flatten) rfl (by
          generalize (List.replicate 4 (LI i)).flatten = R4 at *
          rw [LI] at r4
          generalize hMulT = HM at *
          generalize opEq = EQ at *
          generalize opStrI = OS at *
          generalize hAdd = HA at *
          simp [mkF, reFrz, seq, Pm.ite, rtn, mov, asg, drp, sNx, bnd, Pm.bin, Pm.un, app, aCons, aNil, idx, loc, con, Pm.ret, peek1, peeks, itemOf, on2I, iAdd, iSub, iGt, iGe, iLt, iLe, iDiv, iMod, use1, useL, gI, gN, tst, andT, orT, notT, andE, orE, notE, ifE, ixN, D.frz, D.plain, plainL, argsBack, opLen, opAbs, opInt1, opNeg, disp, cap, callF, takes, puts, selA, sel, aApp, par, gT, gsC, gs0, appF, opDivmod, frzL, plainL, a1, si, ei, r4]) rfl p3 (by rw [rep4_len, l3]; show 25 + 4 * 5 ≤ 1000000; decide)
      rw [frzL_of_plain _ (rep4_plain (LI_plain i))] at s4
      obtain ⟨e, z', q1, q2, q3⟩ := odd_end (XS := L3 (.int i) ++ (List.replicate 4 (LI i)).flatten) (P := Bn (B + 1) (2 * w + 210) (n + 1)) hl hp ha (by rw [List.length_append, l3]; omega) (by rw [List.length_append, rep4_len, l3]; show 25 + 4 * 5 ≤ 1000; decide) (fun x hx => by
        rcases List.mem_append.mp hx with hx | hx
        · exact b3 x hx
        · have := LI_bn (w := w) (n := n) hB hB2 hi x (rep4_mem hx)
          exact ⟨this, this.pl⟩) dp
      refine ⟨e, z', L3 (.int i) ++ (List.replicate 4 (LI i)).flatten, q1, q2, ?_⟩
      rw [seq_ok (ρ' := [some (.node true .lst z), some (.int i), some (.node true .lst (L3 (.int i) ++ (List.replicate 4 (LI i)).flatten))]) (by
        generalize binF hAdd (loc 2) (Pm.bin hMulT (disp true .lst (aCons (Pm.bin hAdd (loc 1) (con (.int 1))) (aCons (Pm.bin (on2I iSub) (loc 1) (con (.int 1))) (aCons (Pm.bin (on2I iSub) (con (.int 0)) (loc 1)) (aCons (app opStrI (aCons (loc 1) aNil)) (aCons (Pm.bin opEq (loc 1) (con (.int 1))) aNil)))))) (con (.int 4))) = F3 at *
        simp [mkF, reFrz, seq, Pm.ite, rtn, mov, asg, drp, sNx, bnd, Pm.bin, Pm.un, app, aCons, aNil, idx, loc, con, Pm.ret, peek1, peeks, itemOf, on2I, iAdd, iSub, iGt, iGe, iLt, iLe, iDiv, iMod, use1, useL, gI, gN, tst, andT, orT, notT, andE, orE, notE, ifE, ixN, D.frz, D.plain, plainL, argsBack, opLen, opAbs, opInt1, opNeg, disp, cap, callF, takes, puts, selA, sel, aApp, par, gT, gsC, gs0, appF, opDivmod, frzL, plainL, t1, t2, isWhl, isBl, s4])]
      rw [seq_ok (ρ' := [some (.node true .lst z), some (.int i), some (.node true .lst (L3 (.int i) ++ (List.replicate 4 (LI i)).flatten))]) (by
        generalize binF hAdd (loc 2) _ = F3 at *
        simp [mkF, reFrz, seq, Pm.ite, rtn, mov, asg, drp, sNx, bnd, Pm.bin, Pm.un, app, aCons, aNil, idx, loc, con, Pm.ret, peek1, peeks, itemOf, on2I, iAdd, iSub, iGt, iGe, iLt, iLe, iDiv, iMod, use1, useL, gI, gN, tst, andT, orT, notT, andE, orE, notE, ifE, ixN, D.frz, D.plain, plainL, argsBack, opLen, opAbs, opInt1, opNeg, disp, cap, callF, takes, puts, selA, sel, aApp, par, gT, gsC, gs0, appF, opDivmod, frzL, plainL, t3, isStr])]
      exact q3
    | str s =>
      obtain ⟨l, rfl⟩ : ∃ l, s = T l := ⟨s.cps.toList, (T_of s).symm⟩
      have hc : ∀ c ∈ l, c < 128 := fun c hc => by
        have := h.ok
        rw [okD, List.all_eq_true] at this
        exact of_decide_eq_true (this c hc)
      have hlw : l.length ≤ w := h.wt
      have a1 : hAdd [.str (T l), .str (T [97])] = some (.str (T (l ++ [97]))) := add_T (by show l.length + 1 ≤ 1000000; omega)
      have u1 := upper_T hc (by omega)
      have c1 : gCut none (some (-1)) (.str (T l)) = some (.str (T (l.take (l.length - 1)))) := by
        rw [gCut_T (by show _ ≤ 1000000; omega)]
        rw [sl_last]
      have r4 := rep4 (LS_plain l) (by rw [LS_len]; decide)
      have la := a_T
      obtain ⟨b4, s4⟩ := binF_ll (fa := loc 2) (fb := Pm.bin hMulT (disp true .lst (aCons (Pm.bin hAdd (loc 1) (con (.str "a"))) (aCons (cut (loc 1) none (some (Pm.un opNeg (con (.int 1))))) (aCons (smet0 opUpper (loc 1)) (aCons (disp false .tup (aCons (loc 1) aNil)) aNil))))) (con (.int 4))) (i := 2) (o := true) (p := true) (ρ := [some (.node true .lst z), some (.str (T l)), some (.node true .lst (L3 (.str (T l))))])
        (ρ1 := [some (.node true .lst z), some (.str (T l)), some (.node true .lst (L3 (.str (T l))))]) (ρ2 := [some (.node true .lst z), some (.str (T l)), some (.node true .lst (L3 (.str (T l))))]) (xs := L3 (.str (T l))) (ys := (List.replicate 4 (LS l)).flatten) rfl (by
          generalize (List.replicate 4 (LS l)).flatten = R4 at *
          rw [LS] at r4
          rw [la]
          generalize hMulT = HM at *
          generalize opUpper = OU at *
          generalize hAdd = HA at *
          simp [mkF, reFrz, seq, Pm.ite, rtn, mov, asg, drp, sNx, bnd, Pm.bin, Pm.un, app, aCons, aNil, idx, loc, con, Pm.ret, peek1, peeks, itemOf, on2I, iAdd, iSub, iGt, iGe, iLt, iLe, iDiv, iMod, use1, useL, gI, gN, tst, andT, orT, notT, andE, orE, notE, ifE, ixN, D.frz, D.plain, plainL, argsBack, opLen, opAbs, opInt1, opNeg, disp, cap, callF, takes, puts, selA, sel, aApp, par, gT, gsC, gs0, appF, opDivmod, frzL, plainL, a1, u1, c1, cut, smet0, r4]) rfl p3 (by rw [rep4_len, l3]; show 25 + 4 * 4 ≤ 1000000; decide)
      rw [frzL_of_plain _ (rep4_plain (LS_plain l))] at s4
      obtain ⟨e, z', q1, q2, q3⟩ := odd_end (XS := L3 (.str (T l)) ++ (List.replicate 4 (LS l)).flatten) (P := Bn (B + 1) (2 * w + 210) (n + 1)) hl hp ha (by rw [List.length_append, l3]; omega) (by rw [List.length_append, rep4_len, l3]; show 25 + 4 * 4 ≤ 1000; decide) (fun x hx => by
        rcases List.mem_append.mp hx with hx | hx
        · exact b3 x hx
        · have := LS_bn (B := B) (w := w) (n := n) hc hlw x (rep4_mem hx)
          exact ⟨this, this.pl⟩) dp
      refine ⟨e, z', L3 (.str (T l)) ++ (List.replicate 4 (LS l)).flatten, q1, q2, ?_⟩
      rw [seq_ok (ρ' := [some (.node true .lst z), some (.str (T l)), some (.node true .lst (L3 (.str (T l))))]) (by
        generalize binF hAdd (loc 2) _ = F3 at *
        simp [mkF, reFrz, seq, Pm.ite, rtn, mov, asg, drp, sNx, bnd, Pm.bin, Pm.un, app, aCons, aNil, idx, loc, con, Pm.ret, peek1, peeks, itemOf, on2I, iAdd, iSub, iGt, iGe, iLt, iLe, iDiv, iMod, use1, useL, gI, gN, tst, andT, orT, notT, andE, orE, notE, ifE, ixN, D.frz, D.plain, plainL, argsBack, opLen, opAbs, opInt1, opNeg, disp, cap, callF, takes, puts, selA, sel, aApp, par, gT, gsC, gs0, appF, opDivmod, frzL, plainL, t1, isWhl])]
      rw [seq_ok (ρ' := [some (.node true .lst z), some (.str (T l)), some (.node true .lst (L3 (.str (T l)) ++ (List.replicate 4 (LS l)).flatten))]) (by
        generalize binF hAdd (loc 2) (Pm.bin hMulT (disp true .lst (aCons (Pm.bin hAdd (loc 1) (con (.str "a"))) (aCons (cut (loc 1) none (some (Pm.un opNeg (con (.int 1))))) (aCons (smet0 opUpper (loc 1)) (aCons (disp false .tup (aCons (loc 1) aNil)) aNil))))) (con (.int 4))) = F3 at *
        simp [mkF, reFrz, seq, Pm.ite, rtn, mov, asg, drp, sNx, bnd, Pm.bin, Pm.un, app, aCons, aNil, idx, loc, con, Pm.ret, peek1, peeks, itemOf, on2I, iAdd, iSub, iGt, iGe, iLt, iLe, iDiv, iMod, use1, useL, gI, gN, tst, andT, orT, notT, andE, orE, notE, ifE, ixN, D.frz, D.plain, plainL, argsBack, opLen, opAbs, opInt1, opNeg, disp, cap, callF, takes, puts, selA, sel, aApp, par, gT, gsC, gs0, appF, opDivmod, frzL, plainL, t3, isStr, s4])]
      exact q3
    | non => exact oth (.inl rfl) rfl
    | bl b => exact oth (.inr rfl) rfl
    | node o k xs => exact oth (.inl rfl) rfl
    | op v => have := h.ok; simp [okD] at this
  obtain ⟨e, z', XS, q1, q2, q3⟩ := eb
  refine ⟨e, z', mkF_rt (as := [.node true .lst z', d]) q3 ?_, q1, q2⟩
  simp [reFrz, argsBack, D.plain, dp]
/-! ### bent -/
theorem fi_len {B w n : Nat} {o : Bool} {xs : List D} (h : Bn B w n (.node o .tup xs)) (hw : w ≤ 4000) : xs.length ≤ 4000 := (h.fi hw).len
theorem wt_tup (o : Bool) (xs : List D) : wtD (.node o .tup xs) = wtL xs := by simp [wtD]
theorem ok_tup (B : Nat) (o : Bool) (xs : List D) : okD B (.node o .tup xs) = okL B xs := by simp [okD]
theorem dp_tup (o : Bool) (k : Kd) (xs : List D) : dpD (.node o k xs) = dpL xs + 1 := by simp [dpD]
theorem get_split {xs : List D} {k : Nat} (h : k < xs.length) : xs = xs.take k ++ xs[k] :: xs.drop (k + 1) := by
  conv => lhs; rw [← List.take_append_drop k xs, List.drop_eq_getElem_cons h]
theorem bn_part {B w n : Nat} {xs : List D} (h : Bn B w (n + 1) (.tup xs)) : ∀ x ∈ xs, x.plain = true ∧ okD B x = true ∧ dpD x ≤ n := fun x hx => by
  have h1 := h.pl
  have h2 := h.ok
  have h3 := h.dp
  rw [ok_tup] at h2
  rw [dp_tup] at h3
  simp only [D.plain, Bool.and_eq_true] at h1
  exact ⟨plain_mem h1.2 x hx, okL_all.mp h2 x hx, dpL_le.mp (show dpL xs ≤ n by omega) x hx⟩
theorem bn_of {B w n : Nat} {xs : List D} (h : ∀ x ∈ xs, x.plain = true ∧ okD B x = true ∧ dpD x ≤ n) (hw : wtL xs ≤ w) : Bn B w (n + 1) (.tup xs) := by
  refine ⟨?_, ?_, by rw [wt_tup]; exact hw, ?_⟩
  · simp only [D.plain, Bool.not_false, Bool.true_and]
    exact plainL_of fun x hx => (h x hx).1
  · rw [ok_tup]; exact okL_all.mpr fun x hx => (h x hx).2.1
  · rw [dp_tup]
    have := dpL_le.mpr fun x hx => (h x hx).2.2
    omega
/-- one item put for another -/
theorem bn_put {B w n : Nat} {xs : List D} {k : Nat} {e : D} (hk : k < xs.length) (h : Bn B w (n + 1) (.tup xs)) (he : Bn (B + 1) (2 * wtD xs[k] + 210) (n + 1) e) : Bn (B + 1) (2 * w + 210) (n + 1 + 1) (.tup (xs.take k ++ [e] ++ xs.drop (k + 1))) := by
  have hp := bn_part h
  refine bn_of (fun x hx => ?_) ?_
  · rcases List.mem_append.mp hx with hx | hx
    · rcases List.mem_append.mp hx with hx | hx
      · obtain ⟨a, b, c⟩ := hp x (List.mem_of_mem_take hx)
        exact ⟨a, okD_mono (by omega) x b, by omega⟩
      · obtain rfl := List.mem_singleton.mp hx
        exact ⟨he.pl, he.ok, he.dp⟩
    · obtain ⟨a, b, c⟩ := hp x (List.mem_of_mem_drop hx)
      exact ⟨a, okD_mono (by omega) x b, by omega⟩
  · have hw := h.wt
    rw [wt_tup] at hw
    have e1 : wtL xs = wtL (xs.take k) + (wtD xs[k] + 1 + wtL (xs.drop (k + 1))) := by
      conv => lhs; rw [get_split hk, wtL_app, wtL]
    rw [wtL_app, wtL_app, wtL, wtL]
    have := he.wt
    omega
theorem draw_two {xs : List D} {k : Nat} (hk : k < xs.length) : xs.take (k + 1) ++ xs.drop k = xs.take k ++ (xs[k] :: xs.drop k) := by
  rw [List.take_add_one, List.getElem?_eq_getElem hk, List.append_assoc]
  rfl
theorem wt_drop {B w n : Nat} {xs : List D} (h : Bn B w n (.tup xs)) (k : Nat) : wtL (xs.take k) + wtL (xs.drop k) ≤ w := by
  have := h.wt
  rw [wt_tup] at this
  rw [wtL_take]
  exact this
/-- the four ways to change a row of things -/
theorem bn_four {B w n : Nat} {xs : List D} {k : Nat} (hk : k ≤ xs.length) (h : Bn B w (n + 1) (.tup xs)) :
    ∀ x ∈ [D.tup (xs.take k ++ xs.drop (k + 1)), .tup (xs.take (k + 1) ++ xs.drop k), .node true .lst xs, .tup (xs.take k ++ ((xs.drop k).take 2).reverse ++ xs.drop (k + 2))], Bn (B + 1) (2 * w + 210) (n + 1 + 1) x.frz := by
  have hp := bn_part h
  have hw := wt_drop h
  have hm : ∀ x ∈ xs, x.plain = true ∧ okD (B + 1) x = true ∧ dpD x ≤ n + 1 := fun x hx => by
    obtain ⟨a, b, c⟩ := hp x hx
    exact ⟨a, okD_mono (by omega) x b, by omega⟩
  have mt : ∀ j x, x ∈ xs.take j → x ∈ xs := fun _ _ h => List.mem_of_mem_take h
  have md : ∀ j x, x ∈ xs.drop j → x ∈ xs := fun _ _ h => List.mem_of_mem_drop h
  have of : ∀ {ys : List D}, (∀ x ∈ ys, x ∈ xs) → wtL ys ≤ 2 * w + 210 → Bn (B + 1) (2 * w + 210) (n + 1 + 1) (D.tup ys).frz := fun {ys} h1 h2 => by
    have b := bn_of (B := B + 1) (w := 2 * w + 210) (n := n + 1) (xs := ys) (fun x hx => hm x (h1 x hx)) h2
    rw [D.frz_of_plain _ b.pl]
    exact b
  have d1 : ∀ i j, i ≤ j → wtL (xs.drop j) ≤ wtL (xs.drop i) := fun i j hij => by
    have e : xs.drop j = (xs.drop i).drop (j - i) := by rw [List.drop_drop]; congr 1; omega
    have := wtL_take (xs.drop i) (j - i)
    rw [e]; omega
  have d2 : ∀ i j, i ≤ j → wtL (xs.take i) ≤ wtL (xs.take j) := fun i j hij => by
    have e : xs.take i = (xs.take j).take i := by rw [List.take_take]; congr 1; omega
    have := wtL_take (xs.take j) i
    rw [e]; omega
  intro x hx
  simp only [List.mem_cons, List.not_mem_nil, or_false] at hx
  rcases hx with rfl | rfl | rfl | rfl
  · refine of (fun x hx => (List.mem_append.mp hx).elim (mt _ x) (md _ x)) ?_
    rw [wtL_app]
    have := hw k
    have := d1 k (k + 1) (by omega)
    omega
  · refine of (fun x hx => (List.mem_append.mp hx).elim (mt _ x) (md _ x)) ?_
    rw [wtL_app]
    have := hw k
    have := hw (k + 1)
    omega
  · have pl : plainL xs = true := plainL_of fun x hx => (hp x hx).1
    rw [D.frz, frzL_of_plain xs pl]
    have b := bn_of (B := B + 1) (w := 2 * w + 210) (n := n + 1) (xs := xs) hm (by have := h.wt; rw [wt_tup] at this; omega)
    have hw' := h.wt
    rw [wt_tup] at hw'
    refine ⟨b.pl, ?_, by simp only [wtD]; omega, by rw [dp_tup]; have := b.dp; rw [dp_tup] at this; exact this⟩
    have := b.ok
    rw [ok_tup] at this
    simp only [okD]
    exact this
  · refine of (fun x hx => ?_) ?_
    · rcases List.mem_append.mp hx with hx | hx
      · rcases List.mem_append.mp hx with hx | hx
        · exact mt _ x hx
        · exact md _ x (List.mem_of_mem_take (List.mem_reverse.mp hx))
      · exact md _ x hx
    · rw [wtL_app, wtL_app, wtL_rev]
      have := hw k
      have e := wtL_take (xs.drop k) 2
      rw [List.drop_drop] at e
      omega
theorem neE {xs : List D} : opNeE [.node false .tup xs, .node false .tup []] = some (.bl (!xs.isEmpty)) := rfl
theorem neE_o {o : Bool} {xs : List D} : opNeE [.node o .tup xs, .node false .tup []] = some (.bl (!xs.isEmpty)) := rfl
theorem bent_odd {ns : List Int} {a : Int} {z : List D} {d : D} {B w n : Nat} {R : FSem} {r : Int} (hl : ns.length ≤ 63) (hp : Pen ns a (.node true .lst z)) (ha : a + 10 ≤ 1000000) (hB : BC ≤ B) (hB2 : B < 2 ^ 199) (h : Bn B w n d) (hw : w ≤ 4000) {z1 : List D}
    (e1 : S__law_draw [.node true .lst z, .int 9] = .ret (.int r) [.node true .lst z1, .int 9]) (p1 : Pen ns (a + 1) (.node true .lst z1)) (ho : isTup d = false ∨ ∃ o, d = .node o .tup [] ∧ 3 < r) :
    ∃ (e : D) (z' : List D), mkF 2 5 [] (b__law_bent R) [.node true .lst z, d] = .ret e [.node true .lst z', d] ∧ Bn (B + 1) (2 * w + 210) (n + 1) e ∧ Pen ns (a + 2) (.node true .lst z') := by
  obtain ⟨e, z2, e2, be, p2⟩ := odd_ok hl p1 (by omega) hB hB2 h hw
  have t1 := isi_tup (ok_ty h.ok)
  have dp := h.pl
  refine ⟨e, z2, ?_, be, p2.mono (by omega)⟩
  unfold b__law_bent
  have g1 := opGtA_ii r 3
  have g2 := opLtA_ii r 4
  rcases ho with ho | ⟨o, rfl, hr⟩
  · generalize S__law_draw = SD at *
    generalize S__law_odd = SO at *
    simp [mkF, reFrz, seq, Pm.ite, rtn, mov, asg, drp, sNx, bnd, Pm.bin, Pm.un, app, aCons, aNil, idx, loc, con, Pm.ret, peek1, peeks, itemOf, on2I, iAdd, iSub, iGt, iGe, iLt, iLe, iDiv, iMod, use1, useL, gI, gN, tst, andT, orT, notT, andE, orE, notE, ifE, ixN, D.frz, D.plain, plainL, argsBack, opLen, opAbs, opInt1, opNeg, disp, cap, callF, takes, puts, selA, sel, aApp, par, gT, gsC, gs0, appF, opDivmod, frzL, plainL, e1, t1, ho, e2, dp]
  · have ne := neE_o (o := o) (xs := [])
    have hr2 : ¬ r < 4 := by omega
    have t2 : isTup (.node o .tup []) = true := rfl
    generalize hD : (D.node o .tup []) = d at *
    generalize S__law_draw = SD at *
    generalize S__law_odd = SO at *
    generalize opNeE = NE at *
    simp [mkF, reFrz, seq, Pm.ite, rtn, mov, asg, drp, sNx, bnd, Pm.bin, Pm.un, app, aCons, aNil, idx, loc, con, Pm.ret, peek1, peeks, itemOf, on2I, iAdd, iSub, iGt, iGe, iLt, iLe, iDiv, iMod, use1, useL, gI, gN, tst, andT, orT, notT, andE, orE, notE, ifE, ixN, D.frz, D.plain, plainL, argsBack, opLen, opAbs, opInt1, opNeg, disp, cap, callF, takes, puts, selA, sel, aApp, par, gT, gsC, gs0, appF, opDivmod, frzL, plainL, e1, t1, t2, ne, g2, hr2, e2, dp]
theorem bent_in {xs : List D} {z z1 z2 z3 : List D} {R : FSem} {r : Int} {k : Nat} {e : D} (pl : plainL xs = true) (he : e.plain = true) (hl : xs.length ≤ 4000) (hr : 3 < r) (hk : k < xs.length)
    (e1 : S__law_draw [.node true .lst z, .int 9] = .ret (.int r) [.node true .lst z1, .int 9]) (e2 : S__law_draw [.node true .lst z1, .int (xs.length : Int)] = .ret (.int (k : Int)) [.node true .lst z2, .int (xs.length : Int)])
    (e3 : R [.node true .lst z2, xs[k]] = .ret e [.node true .lst z3, xs[k]]) :
    mkF 2 5 [] (b__law_bent R) [.node true .lst z, .tup xs] = .ret (.tup (xs.take k ++ [e] ++ xs.drop (k + 1))) [.node true .lst z3, .tup xs] := by
  have t1 : opIsi [.tup xs, .op (.ty "tuple")] = some (.bl true) := isi_tup rfl
  have ne : opNeE [.tup xs, .node false .tup []] = some (.bl true) := by
    rw [neE]
    cases xs with
    | nil => simp at hk
    | cons x xs => rfl
  have g1 := opGtA_ii r 3
  have c1 : gCut none (some (k : Int)) (.tup xs) = some (.tup (xs.take k)) := by rw [gCut_P pl, slL_to]
  have c2 : gCut (some ((k : Int) + 1)) none (.tup xs) = some (.tup (xs.drop (k + 1))) := by
    rw [gCut_P pl, show ((k : Int) + 1) = ((k + 1 : Nat) : Int) from rfl, slL_from]
  have a1 := hAdd_ii (k : Int) 1
  have fe := D.frz_of_plain e he
  have pk : plainL (xs.take k) = true := plainL_of fun x hx => plain_mem pl x (List.mem_of_mem_take hx)
  have pd : plainL (xs.drop (k + 1)) = true := plainL_of fun x hx => plain_mem pl x (List.mem_of_mem_drop hx)
  have h1 : hAdd [.tup (xs.take k), .tup [e]] = some (.tup (xs.take k ++ [e])) := hAdd_tt pk (by simp [plainL, he]) (by rw [List.length_take]; show _ + 1 ≤ 1000000; omega)
  have h2 : hAdd [.tup (xs.take k ++ [e]), .tup (xs.drop (k + 1))] = some (.tup (xs.take k ++ [e] ++ xs.drop (k + 1))) := hAdd_tt (plainL_of fun x hx => by
    rcases List.mem_append.mp hx with hx | hx
    · exact plain_mem pk x hx
    · obtain rfl := List.mem_singleton.mp hx; exact he) pd (by rw [List.length_append, List.length_take, List.length_drop]; show _ + 1 + _ ≤ 1000000; omega)
  have i1 : ixN xs.length (k : Int) = some k := by unfold ixN; rw [if_pos (by omega), if_pos (by omega), Int.toNat_natCast]
  have g : xs[k]? = some xs[k] := List.getElem?_eq_getElem hk
  have px := plain_mem pl _ (List.getElem_mem hk)
  unfold b__law_bent
  have tp : (D.tup xs).plain = true := by simp [D.plain, pl]
  generalize xs[k] = y at *
  generalize xs.take k ++ [e] ++ xs.drop (k + 1) = W at *
  generalize xs.take k ++ [e] = V at *
  generalize xs.take k = XK at *
  generalize xs.drop (k + 1) = XD at *
  generalize S__law_draw = SD at *
  generalize S__law_odd = SO at *
  generalize opNeE = NE at *
  generalize hAdd = HA at *
  have l4 : xs.length ≤ 1000000 := by omega
  simp [mkF, reFrz, seq, Pm.ite, rtn, mov, asg, drp, sNx, bnd, Pm.bin, Pm.un, app, aCons, aNil, idx, loc, con, Pm.ret, peek1, peeks, itemOf, on2I, iAdd, iSub, iGt, iGe, iLt, iLe, iDiv, iMod, use1, useL, gI, gN, tst, andT, orT, notT, andE, orE, notE, ifE, D.frz, D.plain, plainL, argsBack, opLen, opAbs, opInt1, opNeg, disp, cap, callF, takes, puts, selA, sel, aApp, par, gT, gsC, gs0, appF, opDivmod, frzL, plainL, e1, t1, ne, g1, hr, e2, l4, c1, i1, g, px, e3, he, fe, h1, a1, cut, c2, h2, pl]
theorem bent_way {xs : List D} {z z1 z2 : List D} {R : FSem} {r : Int} {k : Nat} {P : D → Prop} (pl : plainL xs = true) (hl : xs.length ≤ 4000) (h0 : 0 ≤ r) (hr : r < 4) (hk : k ≤ xs.length)
    (e1 : S__law_draw [.node true .lst z, .int 9] = .ret (.int r) [.node true .lst z1, .int 9]) (e2 : S__law_draw [.node true .lst z1, .int ((xs.length : Int) + 1)] = .ret (.int (k : Int)) [.node true .lst z2, .int ((xs.length : Int) + 1)])
    (hP : ∀ x ∈ [D.tup (xs.take k ++ xs.drop (k + 1)), .tup (xs.take (k + 1) ++ xs.drop k), .node true .lst xs, .tup (xs.take k ++ ((xs.drop k).take 2).reverse ++ xs.drop (k + 2))], P x.frz) :
    ∃ e, mkF 2 5 [] (b__law_bent R) [.node true .lst z, .tup xs] = .ret e [.node true .lst z2, .tup xs] ∧ P e := by
  have t1 : opIsi [.tup xs, .op (.ty "tuple")] = some (.bl true) := isi_tup rfl
  have hr' : ¬ 3 < r := by omega
  have g1 := opGtA_ii r 3
  have g2 := opLtA_ii r 4
  have ne := neE (xs := xs)
  generalize (!xs.isEmpty) = nb at *
  have c1 : gCut none (some (k : Int)) (.tup xs) = some (.tup (xs.take k)) := by rw [gCut_P pl, slL_to]
  have c1' : gCut none (some ((k : Int) + 1)) (.tup xs) = some (.tup (xs.take (k + 1))) := by
    rw [gCut_P pl, show ((k : Int) + 1) = ((k + 1 : Nat) : Int) from rfl, slL_to]
  have c2 : gCut (some ((k : Int) + 1)) none (.tup xs) = some (.tup (xs.drop (k + 1))) := by
    rw [gCut_P pl, show ((k : Int) + 1) = ((k + 1 : Nat) : Int) from rfl, slL_from]
  have c2' : gCut (some (k : Int)) none (.tup xs) = some (.tup (xs.drop k)) := by rw [gCut_P pl, slL_from]
  have c3 : gCut (some ((k : Int) + 2)) none (.tup xs) = some (.tup (xs.drop (k + 2))) := by
    rw [gCut_P pl, show ((k : Int) + 2) = ((k + 2 : Nat) : Int) from rfl, slL_from]
  have c4 : gCut (some (k : Int)) (some ((k : Int) + 2)) (.tup xs) = some (.tup ((xs.drop k).take 2)) := by
    rw [gCut_P pl, show ((k : Int) + 2) = ((k + 2 : Nat) : Int) from rfl, slL_mid]
    congr 4; omega
  have mt : ∀ j, plainL (xs.take j) = true := fun j => plainL_of fun x hx => plain_mem pl x (List.mem_of_mem_take hx)
  have md : ∀ j, plainL (xs.drop j) = true := fun j => plainL_of fun x hx => plain_mem pl x (List.mem_of_mem_drop hx)
  have mm : plainL ((xs.drop k).take 2) = true := plainL_of fun x hx => plain_mem (md k) x (List.mem_of_mem_take hx)
  have mr : plainL ((xs.drop k).take 2).reverse = true := plainL_of fun x hx => plain_mem mm x (List.mem_reverse.mp hx)
  have rv : opRev [.tup ((xs.drop k).take 2)] = some (.tup ((xs.drop k).take 2).reverse) := by
    show (if plainL ((xs.drop k).take 2) = true then some (D.tup ((xs.drop k).take 2).reverse) else none) = _
    rw [if_pos mm]
  have h1 : hAdd [.tup (xs.take k), .tup (xs.drop (k + 1))] = some (.tup (xs.take k ++ xs.drop (k + 1))) := hAdd_tt (mt _) (md _) (by rw [List.length_take, List.length_drop]; show _ ≤ 1000000; omega)
  have h2 : hAdd [.tup (xs.take (k + 1)), .tup (xs.drop k)] = some (.tup (xs.take (k + 1) ++ xs.drop k)) := hAdd_tt (mt _) (md _) (by rw [List.length_take, List.length_drop]; show _ ≤ 1000000; omega)
  have h3 : hAdd [.tup (xs.take k), .tup ((xs.drop k).take 2).reverse] = some (.tup (xs.take k ++ ((xs.drop k).take 2).reverse)) := hAdd_tt (mt _) mr (by rw [List.length_take, List.length_reverse, List.length_take]; show _ ≤ 1000000; omega)
  have h4 : hAdd [.tup (xs.take k ++ ((xs.drop k).take 2).reverse), .tup (xs.drop (k + 2))] = some (.tup (xs.take k ++ ((xs.drop k).take 2).reverse ++ xs.drop (k + 2))) := hAdd_tt (plainL_of fun x hx => by
    rcases List.mem_append.mp hx with hx | hx
    · exact plain_mem (mt _) x hx
    · exact plain_mem mr x hx) (md _) (by simp only [List.length_append, List.length_take, List.length_reverse, List.length_drop]; show _ ≤ 1000000; omega)
  have pq : ∀ {ys zs : List D}, plainL ys = true → plainL zs = true → plainL (ys ++ zs) = true := fun {ys zs} h1 h2 => plainL_of fun x hx => (List.mem_append.mp hx).elim (plain_mem h1 x) (plain_mem h2 x)
  have f1 := frzL_of_plain _ (pq (mt k) (md (k + 1)))
  have f2 := frzL_of_plain _ (pq (mt (k + 1)) (md k))
  have f4 := frzL_of_plain _ (pq (pq (mt k) mr) (md (k + 2)))
  have a1 := hAdd_ii (k : Int) 1
  have a2 := hAdd_ii (k : Int) 2
  have a3 := hAdd_ii (xs.length : Int) 1
  have ll : opListA [.tup xs] = some (.node true .lst xs) := by
    show opList [.tup xs] = _
    simp [opList, pl]
  generalize hY : [D.tup (xs.take k ++ xs.drop (k + 1)), .tup (xs.take (k + 1) ++ xs.drop k), .node true .lst xs, .tup (xs.take k ++ ((xs.drop k).take 2).reverse ++ xs.drop (k + 2))] = Y at hP
  have hY4 : Y.length = 4 := by rw [← hY]; rfl
  obtain ⟨m, rfl⟩ := Int.eq_ofNat_of_zero_le h0
  have hm : m < Y.length := by omega
  have gm : Y[m]? = some Y[m] := List.getElem?_eq_getElem hm
  have i1 : ixN Y.length (m : Int) = some m := by unfold ixN; rw [if_pos (by omega), if_pos (by omega), Int.toNat_natCast]
  have pe := hP _ (List.getElem_mem hm)
  generalize Y[m] = y at *
  have ix : ∃ Y', idx (aCons (loc 4) (aCons (loc 2) aNil)) [some (.node true .lst z2), some (.tup xs), some (.int (m : Int)), some (.int (k : Int)), some (.node true .lst Y)] = .ok (.val y.frz) [some (.node true .lst z2), some (.tup xs), some (.int (m : Int)), some (.int (k : Int)), some (.node true .lst Y')] := by
    cases hy : y.plain with
    | true => exact ⟨Y, by have fy := D.frz_of_plain y hy; simp [mkF, reFrz, seq, Pm.ite, rtn, mov, asg, drp, sNx, bnd, Pm.bin, Pm.un, app, aCons, aNil, idx, loc, con, Pm.ret, peek1, peeks, itemOf, on2I, iAdd, iSub, iGt, iGe, iLt, iLe, iDiv, iMod, use1, useL, gI, gN, tst, andT, orT, notT, andE, orE, notE, ifE, D.frz, D.plain, plainL, argsBack, opLen, opAbs, opInt1, opNeg, disp, cap, callF, takes, puts, selA, sel, aApp, par, gT, gsC, gs0, appF, opDivmod, frzL, plainL, i1, gm, hy, fy]⟩
    | false => exact ⟨Y.set m y.frz, by simp [mkF, reFrz, seq, Pm.ite, rtn, mov, asg, drp, sNx, bnd, Pm.bin, Pm.un, app, aCons, aNil, idx, loc, con, Pm.ret, peek1, peeks, itemOf, on2I, iAdd, iSub, iGt, iGe, iLt, iLe, iDiv, iMod, use1, useL, gI, gN, tst, andT, orT, notT, andE, orE, notE, ifE, D.frz, D.plain, plainL, argsBack, opLen, opAbs, opInt1, opNeg, disp, cap, callF, takes, puts, selA, sel, aApp, par, gT, gsC, gs0, appF, opDivmod, frzL, plainL, i1, gm, hy]⟩
  obtain ⟨Y', ix⟩ := ix
  refine ⟨y.frz, ?_, pe⟩
  have lY : Y.length < 1000000 := by omega
  unfold b__law_bent
  have ap : appd 4 (Pm.bin hAdd (Pm.bin hAdd (cut (loc 1) none (some (loc 3))) (un opRev (cut (loc 1) (some (loc 3)) (some (Pm.bin hAdd (loc 3) (con (.int 2))))))) (cut (loc 1) (some (Pm.bin hAdd (loc 3) (con (.int 2)))) none)) [some (.node true .lst z2), some (.tup xs), some (.int (m : Int)), some (.int (k : Int)), some (.node true .lst [D.tup (xs.take k ++ xs.drop (k + 1)), .tup (xs.take (k + 1) ++ xs.drop k), .node true .lst xs])] = .ok (.val .non) [some (.node true .lst z2), some (.tup xs), some (.int (m : Int)), some (.int (k : Int)), some (.node true .lst Y)] := by
    rw [← hY]
    generalize xs.take k ++ ((xs.drop k).take 2).reverse ++ xs.drop (k + 2) = W at *
    generalize xs.take k ++ ((xs.drop k).take 2).reverse = V at *
    generalize ((xs.drop k).take 2).reverse = U at *
    generalize xs.take k ++ xs.drop (k + 1) = W1 at *
    generalize xs.take (k + 1) ++ xs.drop k = W2 at *
    generalize (xs.drop k).take 2 = XM at *
    generalize xs.take k = XK at *
    generalize xs.drop (k + 2) = XD at *
    generalize opRev = OR at *
    generalize hAdd = HA at *
    simp [mkF, reFrz, seq, Pm.ite, rtn, mov, asg, drp, sNx, bnd, Pm.bin, Pm.un, app, aCons, aNil, idx, loc, con, Pm.ret, peek1, peeks, itemOf, on2I, iAdd, iSub, iGt, iGe, iLt, iLe, iDiv, iMod, use1, useL, gI, gN, tst, andT, orT, notT, andE, orE, notE, ifE, ixN, D.frz, D.plain, plainL, argsBack, opLen, opAbs, opInt1, opNeg, disp, cap, callF, takes, puts, selA, sel, aApp, par, gT, gsC, gs0, appF, opDivmod, frzL, plainL, appd, cut, c1, c3, c4, a2, rv, h3, h4, f4]
  generalize appd 4 (Pm.bin hAdd (Pm.bin hAdd (cut (loc 1) none (some (loc 3))) (un opRev (cut (loc 1) (some (loc 3)) (some (Pm.bin hAdd (loc 3) (con (.int 2))))))) (cut (loc 1) (some (Pm.bin hAdd (loc 3) (con (.int 2)))) none)) = AP at *
  generalize idx (aCons (loc 4) (aCons (loc 2) aNil)) = ID at *
  clear hY
  generalize xs.take k ++ xs.drop (k + 1) = W1 at *
  generalize xs.take (k + 1) ++ xs.drop k = W2 at *
  generalize xs.take k = XK at *
  generalize xs.take (k + 1) = XK1 at *
  generalize xs.drop (k + 1) = XD1 at *
  generalize xs.drop k = XD at *
  generalize S__law_draw = SD at *
  generalize S__law_odd = SO at *
  generalize opNeE = NE at *
  generalize hAdd = HA at *
  generalize opListA = OL at *
  have l4 : xs.length ≤ 1000000 := by omega
  have fx := frzL_of_plain xs pl
  cases nb <;> simp [mkF, reFrz, seq, Pm.ite, rtn, mov, asg, drp, sNx, bnd, Pm.bin, Pm.un, app, aCons, aNil, idx, loc, con, Pm.ret, peek1, peeks, itemOf, on2I, iAdd, iSub, iGt, iGe, iLt, iLe, iDiv, iMod, use1, useL, gI, gN, tst, andT, orT, notT, andE, orE, notE, ifE, ixN, D.frz, D.plain, plainL, argsBack, opLen, opAbs, opInt1, opNeg, disp, cap, callF, takes, puts, selA, sel, aApp, par, gT, gsC, gs0, appF, opDivmod, frzL, plainL, e1, t1, g1, hr', g2, hr, a3, e2, l4, c1, c1', c2, c2', a1, cut, h1, h2, ll, pl, f1, f2, fx, ap, ix, ne]

theorem bent_ok {ns : List Int} {B : Nat} (hl : ns.length ≤ 63) (hB : BC ≤ B) (hB2 : B < 2 ^ 199) : ∀ (f : Nat) {a : Int} {z : List D} {d : D} {w n : Nat}, n < f → Pen ns a (.node true .lst z) → a + 2 * (n : Int) + 20 ≤ 1000000 → Bn B w n d → w ≤ 4000 →
    ∃ (e : D) (z' : List D), S__law_bent f [.node true .lst z, d] = .ret e [.node true .lst z', d] ∧ Bn (B + 1) (2 * w + 210) (n + 1) e ∧ Pen ns (a + 2 * (n : Int) + 3) (.node true .lst z')
  | 0, _, _, _, _, _, h, _, _, _, _ => absurd h (Nat.not_lt_zero _)
  | f + 1, a, z, d, w, n, hf, hp, ha, h, hw => by
    show ∃ (e : D) (z' : List D), mkF 2 5 [] (b__law_bent (S__law_bent f)) [.node true .lst z, d] = .ret e [.node true .lst z', d] ∧ _ ∧ _
    obtain ⟨r, z1, e1, r0, r1, p1⟩ := dr hS (m := 9) hl hp (by omega) (by decide) (by decide)
    by_cases hx : isTup d = false ∨ ∃ o, d = .node o .tup [] ∧ 3 < r
    · obtain ⟨e, z2, e2, be, p2⟩ := bent_odd (R := S__law_bent f) hl hp (by omega) hB hB2 h hw e1 p1 hx
      exact ⟨e, z2, e2, be, p2.mono (by omega)⟩
    · obtain ⟨o, xs, rfl⟩ : ∃ o xs, d = .node o .tup xs := by
        cases d with
        | node o k xs =>
          cases k with
          | tup => exact ⟨o, xs, rfl⟩
          | _ => exact absurd (.inl rfl) hx
        | _ => exact absurd (.inl rfl) hx
      have hpl := h.pl
      simp only [D.plain, Bool.and_eq_true, Bool.not_eq_true'] at hpl
      obtain ⟨rfl, pl⟩ := hpl
      have hlen := (h.fi hw).len
      have dpn := h.dp
      rw [dp_tup] at dpn
      obtain ⟨n, rfl⟩ : ∃ m, n = m + 1 := ⟨n - 1, by omega⟩
      by_cases hr : 3 < r
      · have h0 : 0 < xs.length := by
          cases xs with
          | nil => exact absurd (.inr ⟨false, rfl, hr⟩) hx
          | cons _ _ => simp
        obtain ⟨k, z2, e2, k0, k1, p2⟩ := dr hS (m := (xs.length : Int)) hl p1 (by omega) (by omega) (divS (by omega) (by omega))
        obtain ⟨k, rfl⟩ := Int.eq_ofNat_of_zero_le k0
        have hk : k < xs.length := by omega
        obtain ⟨q1, q2, q3⟩ := bn_part h xs[k] (List.getElem_mem hk)
        have wk : wtD xs[k] + 1 ≤ w := by
          have := h.wt
          rw [wt_tup] at this
          exact Nat.le_trans (wtL_mem (List.getElem_mem hk)) this
        obtain ⟨e, z3, e3, be, p3⟩ := bent_ok hl hB hB2 f (n := n) (w := wtD xs[k]) (by omega) p2 (by omega) ⟨q1, q2, Nat.le_refl _, q3⟩ (by omega)
        exact ⟨_, z3, bent_in pl be.pl hlen hr hk e1 e2 e3, bn_put hk h be, p3.mono (by omega)⟩
      · obtain ⟨k, z2, e2, k0, k1, p2⟩ := dr hS (m := (xs.length : Int) + 1) hl p1 (by omega) (by omega) (divS (by omega) (by omega))
        obtain ⟨k, rfl⟩ := Int.eq_ofNat_of_zero_le k0
        obtain ⟨e, e3, be⟩ := bent_way (R := S__law_bent f) pl hlen r0 (by omega) (by omega) e1 e2 (bn_four (by omega) h)
        exact ⟨e, z2, e3, be, p2.mono (by omega)⟩
end Pk01
set_option maxHeartbeats 1000000
/-! Lk01: law k01. -/
namespace Pk01
open PySem PySem.Spec PyProof.Rows L2 Pm
open Pg (Fi tabB rowB letB numB ascB hdD ABC abc_T btwB dr divS TabOk tabD Tab sg rowD rules_ok tabD_plain rows_plain)
theorem row_bn {r : Nat × Int × Int} {w n : Nat} (h1 : r.1 < 128) (h2 : r.2.1.natAbs ≤ BC) (h3 : r.2.2.natAbs ≤ BC) : Bn BC (w + 4) (n + 1) (rowD r) := by
  have b := Bn.str (B := BC) (w := 1) (n := 0) (l := [r.1]) (fun c hc => by simp at hc; omega) (by simp)
  have b1 := b.ok
  exact ⟨rfl, by
    rw [show rowD r = .tup [sg r.1, .int r.2.1, .int r.2.2] from rfl, ok_tup]
    simp only [okL, Bool.and_true, Bool.and_eq_true]
    exact ⟨b1, decide_eq_true h2, decide_eq_true h3⟩, by simp only [rowD, wtD, wtL, T_size, List.length_singleton]; omega, by simp only [rowD, dpD, dpL]; omega⟩
theorem rows_bn {t : Tab} (h : ∀ r ∈ t, r.1 < 128 ∧ r.2.1.natAbs ≤ BC ∧ r.2.2.natAbs ≤ BC) (hl : t.length ≤ 13) : Bn BC 70 2 (tabD t) := by
  have hb : ∀ x ∈ t.map rowD, Bn BC 4 1 x := fun x hx => by
    obtain ⟨r, hr, rfl⟩ := List.mem_map.mp hx
    obtain ⟨a, b, c⟩ := h r hr
    exact row_bn (w := 0) (n := 0) a b c
  refine bn_of (n := 1) (fun x hx => ⟨(hb x hx).pl, (hb x hx).ok, (hb x hx).dp⟩) ?_
  have := wtL_le (c := 4) fun x hx => (hb x hx).wt
  rw [List.length_map] at this
  omega
theorem tab_bn {t : Tab} (h : TabOk t) : ∀ r ∈ t, r.1 < 128 ∧ r.2.1.natAbs ≤ BC ∧ r.2.2.natAbs ≤ BC := fun r hr => by
  have h1 := h.let1 r hr
  have h2 := h.num r hr
  simp only [Pg.GR] at h2
  exact ⟨by omega, by simp only [BC]; omega, by simp only [BC]; omega⟩
def many : Tab := [97, 98, 99, 100, 101, 102, 103].map fun c => (c, 1, 0)
theorem many_bn : ∀ r ∈ many, r.1 < 128 ∧ r.2.1.natAbs ≤ BC ∧ r.2.2.natAbs ≤ BC := by decide
theorem look {d : D} {B w n : Nat} (h : Bn B w n d) (hB : B < 2 ^ 199) (hw : w ≤ 4000) (hn : n ≤ 60) : S__law_right [d] = .ret (.bl true) [d] :=
  right_ok hB h.pl (h.fi hw) (Nat.le_trans h.dp hn)
theorem tab_rows {t : Tab} (h : TabOk t) : tabB (tabD t) = true := by
  have hr : (t.map rowD).all rowB = true := by
    rw [List.all_eq_true]
    intro x hx
    obtain ⟨r, hr, rfl⟩ := List.mem_map.mp hx
    have h1 := h.let1 r hr
    have h2 := h.num r hr
    simp only [Pg.GR] at h2
    show (letB (.str (T [r.1])) && (numB (.int r.2.1) && numB (.int r.2.2))) = true
    rw [letB_sg, decide_eq_true h1]
    show (true && ((decide (-1000000000000 ≤ r.2.1) && decide (r.2.1 ≤ 1000000000000)) && (decide (-1000000000000 ≤ r.2.2) && decide (r.2.2 ≤ 1000000000000)))) = true
    simp only [Bool.true_and, Bool.and_eq_true, decide_eq_true_eq]
    omega
  have ha : ∀ t : Tab, (t.map (·.1)).Pairwise (· < ·) → ascB (t.map rowD) = true := by
    intro t
    induction t with
    | nil => intro _; rfl
    | cons r t ih =>
      intro hp
      cases t with
      | nil => rfl
      | cons s t =>
        rw [List.map_cons, List.map_cons, List.pairwise_cons] at hp
        rw [List.map_cons, List.map_cons, ascB]
        have q := hp.1 s.1 List.mem_cons_self
        have e : ltS (hdD (rowD r)) (hdD (rowD s)) = true := decide_eq_true (List.cons_lt_cons_iff.mpr (.inl q))
        have ih' := ih (by rw [List.map_cons]; exact hp.2)
        rw [List.map_cons] at ih'
        rw [e, ih']
        rfl
  have h1 := h.len1
  have h6 := h.len6
  show (decide (1 ≤ ((t.map rowD).length : Int)) && decide (((t.map rowD).length : Int) ≤ 6) && (t.map rowD).all rowB && ascB (t.map rowD)) = true
  rw [hr, ha t h.asc, List.length_map, decide_eq_true (by omega : 1 ≤ (t.length : Int)), decide_eq_true (by omega : (t.length : Int) ≤ 6)]
  rfl
/-! ### a turn -/
theorem turn1 {ns : List Int} {a : Int} {z : List D} {TD : D} {x0 x2 x4 x5 x6 x7 : Option D} (hl : ns.length ≤ 63) (hp : Pen ns a (.node true .lst z)) (ha : a + 100 ≤ 1000000) (h : Bn BC 70 2 TD) {Q : Fl → Pm.Env → Prop}
    (hQ : ∀ z' x5, Pen ns (a + 20) (.node true .lst z') → Q .nx [x0, some (.node true .lst z'), x2, some TD, x4, x5, x6, x7, none, none]) :
    Wp b_olaw_1 [x0, some (.node true .lst z), x2, some TD, x4, x5, x6, x7, none, none] Q := by
  obtain ⟨e, z1, e1, b1, p1⟩ := bent_ok hl (Nat.le_refl _) (by decide) 60 (a := a) (n := 2) (by decide) hp (by omega) h (by decide)
  obtain ⟨f, z2, e2, b2, p2⟩ := bent_ok (B := BC + 1) hl (by decide) (by decide) 60 (a := a + 7) (n := 3) (by decide) (p1.mono (by omega)) (by omega) b1 (by decide)
  have r1 := look b1 (by decide) (by decide) (by decide)
  have r2 := look b2 (by decide) (by decide) (by decide)
  have pe := b1.pl
  have pf := b2.pl
  have pt := h.pl
  have fin := hQ z2 (some e) (p2.mono (by omega))
  unfold b_olaw_1
  generalize S__law_bent 60 = SB at *
  generalize S__law_right = SR at *
  clear b1 b2 p1 p2 h hp hQ
  refine wp_seq fun K k1 k2 k3 k4 => ?_
  simp [Wp, mkF, reFrz, seq, Pm.ite, rtn, mov, asg, drp, sNx, bnd, Pm.bin, Pm.un, app, aCons, aNil, idx, loc, con, Pm.ret, peek1, peeks, itemOf, on2I, iAdd, iSub, iGt, iGe, iLt, iLe, iDiv, iMod, use1, useL, gI, gN, tst, andT, orT, notT, andE, orE, notE, ifE, ixN, D.frz, D.plain, plainL, argsBack, opLen, opAbs, opInt1, opNeg, disp, cap, callF, takes, puts, selA, sel, aApp, par, gT, gsC, gs0, appF, opDivmod, frzL, plainL, e1, pt]
  refine k1 _ ?_
  clear k1 k2 k3 k4 K
  refine wp_end fun K k1 k2 k3 k4 => ?_
  simp [Wp, mkF, reFrz, seq, Pm.ite, rtn, mov, asg, drp, sNx, bnd, Pm.bin, Pm.un, app, aCons, aNil, idx, loc, con, Pm.ret, peek1, peeks, itemOf, on2I, iAdd, iSub, iGt, iGe, iLt, iLe, iDiv, iMod, use1, useL, gI, gN, tst, andT, orT, notT, andE, orE, notE, ifE, ixN, D.frz, D.plain, plainL, argsBack, opLen, opAbs, opInt1, opNeg, disp, cap, callF, takes, puts, selA, sel, aApp, par, gT, gsC, gs0, appF, opDivmod, frzL, plainL, r1, pe, e2, r2]
  exact k1 _ fin
theorem many_comp {x0 x1 x2 x3 x4 x5 x6 x7 : Option D} : c_olaw_1 [x0, x1, x2, x3, x4, x5, x6, x7, none, none] = .ok (.val (.node true .lst (many.map rowD))) [x0, x1, x2, x3, x4, x5, x6, x7, none, none] := by
  have hs : srcA (con (.str "abcdefg")) [x0, x1, x2, x3, x4, x5, x6, x7, none, none] = .ok ([97, 98, 99, 100, 101, 102, 103].map sg) [x0, x1, x2, x3, x4, x5, x6, x7, none, none] := by
    rw [show ((("abcdefg" : String) : Str)) = T [97, 98, 99, 100, 101, 102, 103] from lit rfl]
    simp [srcA, mkF, reFrz, seq, Pm.ite, rtn, mov, asg, drp, sNx, bnd, Pm.bin, Pm.un, app, aCons, aNil, idx, loc, con, Pm.ret, peek1, peeks, itemOf, on2I, iAdd, iSub, iGt, iGe, iLt, iLe, iDiv, iMod, use1, useL, gI, gN, tst, andT, orT, notT, andE, orE, notE, ifE, ixN, D.frz, D.plain, plainL, argsBack, opLen, opAbs, opInt1, opNeg, disp, cap, callF, takes, puts, selA, sel, aApp, par, gT, gsC, gs0, appF, opDivmod, frzL, plainL, signs_T, T_len]
  unfold c_olaw_1
  rw [comp_map (fun d => .tup [d, .int 1, .int 0]) hs rfl rfl (by decide) fun d hd => ?_]
  · rfl
  · obtain ⟨c, hc, rfl⟩ := List.mem_map.mp hd
    refine ⟨[x0, x1, x2, x3, x4, x5, x6, x7, some (sg c), none], rfl, Wp.of (a := true) rfl ⟨rfl, ?_⟩⟩
    exact Wp.of (a := .val (.tup [sg c, .int 1, .int 0])) (ρ' := [x0, x1, x2, x3, x4, x5, x6, x7, some (sg c), none]) (by simp [mkF, reFrz, seq, Pm.ite, rtn, mov, asg, drp, sNx, bnd, Pm.bin, Pm.un, app, aCons, aNil, idx, loc, con, Pm.ret, peek1, peeks, itemOf, on2I, iAdd, iSub, iGt, iGe, iLt, iLe, iDiv, iMod, use1, useL, gI, gN, tst, andT, orT, notT, andE, orE, notE, ifE, ixN, D.frz, D.plain, plainL, argsBack, opLen, opAbs, opInt1, opNeg, disp, cap, callF, takes, puts, selA, sel, aApp, par, gT, gsC, gs0, appF, opDivmod, frzL, plainL]) ⟨_, rfl, rfl⟩
theorem turn2 {ns : List Int} {a : Int} {z : List D} {x0 x2 x3 x4 x5 x6 x7 : Option D} (hl : ns.length ≤ 63) (hp : Pen ns a (.node true .lst z)) (ha : a + 1000 ≤ 1000000) {Q : Fl → Pm.Env → Prop}
    (hQ : ∀ z' x3 x4 x5 x6, Pen ns (a + 400) (.node true .lst z') → Q .nx [x0, some (.node true .lst z'), x2, x3, x4, x5, x6, x7, none, none]) :
    Wp b_olaw_2 [x0, some (.node true .lst z), x2, x3, x4, x5, x6, x7, none, none] Q := by
  obtain ⟨z1, t, e1, ht, p1⟩ := rules_ok hS hl hp (by omega)
  rw [← e_lrules] at e1
  have tb := rows_bn (tab_bn ht) (by have := ht.len6; omega)
  have it := Pg.table_is (tabD_plain t) (tb.fi (by decide))
  rw [tab_rows ht, ← e_is_table] at it
  have tp := tabD_plain t
  have rp := rows_plain t
  have r1 : S__law_right [.node true .lst (t.map rowD)] = .ret (.bl true) [.node true .lst (t.map rowD)] := by
    refine right_lst (B := BC) (by decide) ⟨?_, ?_⟩ ?_
    · have := tb.ok
      rw [show tabD t = .tup (t.map rowD) from rfl, ok_tup] at this
      simp only [okD]; exact this
    · have := tb.wt
      rw [show tabD t = .tup (t.map rowD) from rfl, wt_tup] at this
      simp only [wtD]; omega
    · have := tb.dp
      rw [show tabD t = .tup (t.map rowD) from rfl, dp_tup] at this
      rw [dp_tup]; omega
  have r2 : S__law_right [tabD t.reverse] = .ret (.bl true) [tabD t.reverse] := look (rows_bn (fun r hr => tab_bn ht r (List.mem_reverse.mp hr)) (by rw [List.length_reverse]; have := ht.len6; omega)) (by decide) (by decide) (by decide)
  have r3 : S__law_right [tabD many] = .ret (.bl true) [tabD many] := look (rows_bn many_bn (by decide)) (by decide) (by decide) (by decide)
  have r4 : S__law_right [tabD (many.take 6)] = .ret (.bl true) [tabD (many.take 6)] := look (rows_bn (fun r hr => many_bn r (List.mem_of_mem_take hr)) (by decide)) (by decide) (by decide) (by decide)
  have r5 : S__law_right [tabD (t ++ many)] = .ret (.bl true) [tabD (t ++ many)] := look (rows_bn (fun r hr => (List.mem_append.mp hr).elim (tab_bn ht r) (many_bn r)) (by rw [List.length_append]; have := ht.len6; show _ + 7 ≤ 13; omega)) (by decide) (by decide) (by decide)
  have ol : opListA [tabD t] = some (.node true .lst (t.map rowD)) := by
    show opList [.tup (t.map rowD)] = _
    simp [opList, rp]
  have ov : opRev [tabD t] = some (tabD t.reverse) := by
    show (if plainL (t.map rowD) = true then some (D.tup (t.map rowD).reverse) else none) = _
    rw [if_pos rp, ← List.map_reverse]
    rfl
  have cm : gCut none (some 6) (tabD many) = some (tabD (many.take 6)) := by
    show gCut none (some ((6 : Nat) : Int)) (.tup (many.map rowD)) = _
    rw [gCut_P (rows_plain many), slL_to, ← List.map_take]
    rfl
  have am : hAdd [tabD t, tabD many] = some (tabD (t ++ many)) := by
    show hAdd [.tup (t.map rowD), .tup (many.map rowD)] = some (.tup ((t ++ many).map rowD))
    rw [hAdd_tt rp (rows_plain many) (by rw [List.length_map, List.length_map]; have := ht.len6; show _ + 7 ≤ 1000000; omega), List.map_append]
  have ot : opTuple [.node true .lst (many.map rowD)] = some (tabD many) := by
    show (if plainL (many.map rowD) = true then some (D.tup (many.map rowD)) else none) = _
    rw [if_pos (rows_plain many)]
    rfl
  have nb : opNotB [.bl true, .bl true] = some (.bl false) := rfl
  have mc := fun x4 x5 z => many_comp (x0 := x0) (x1 := some (.node true .lst z)) (x2 := x2) (x3 := some (tabD t)) (x4 := x4) (x5 := x5) (x6 := x6) (x7 := x7)
  have mp := tabD_plain many
  have mp6 := tabD_plain (many.take 6)
  have mpt := tabD_plain (t ++ many)
  have rvp := tabD_plain t.reverse
  have hfor : ∀ {K : Fl → Pm.Env → Prop}, (∀ z' x4 x5, Pen ns (a + 50 + 20 * 6) (.node true .lst z') → K .nx [x0, some (.node true .lst z'), x2, some (tabD t), x4, x5, x6, x7, none, none]) → Wp (forS (srcR1 (aCons (con (.int 6)) aNil)) (gN 4) b_olaw_1) [x0, some (.node true .lst z1), x2, some (tabD t), x4, x5, x6, x7, none, none] K := fun {K} hK => by
    have hsrc : srcR1 (aCons (con (.int 6)) aNil) [x0, some (.node true .lst z1), x2, some (tabD t), x4, x5, x6, x7, none, none] = .ok (rangeD 0 6) [x0, some (.node true .lst z1), x2, some (tabD t), x4, x5, x6, x7, none, none] := src_r1 (es := [.val (.int 6)]) (n := 6) rfl rfl (by decide)
    refine wp_for hsrc (fun j ρ => ∃ z' x4 x5, ρ = [x0, some (.node true .lst z'), x2, some (tabD t), x4, x5, x6, x7, none, none] ∧ Pen ns (a + 50 + 20 * (j : Int)) (.node true .lst z')) ⟨z1, x4, x5, rfl, p1.mono (by omega)⟩ ?_ ?_
    · rintro j d ρ hd ⟨z', x4, x5, rfl, p'⟩
      obtain ⟨hj, rfl⟩ := range_get hd
      exact ⟨_, rfl, turn1 hl p' (by omega) tb fun z2 x5 p2 => ⟨z2, _, x5, rfl, p2.mono (by omega)⟩⟩
    · rintro ρ ⟨z', x4, x5, rfl, p'⟩
      exact hK z' x4 x5 (p'.mono (by simp [rangeD]))
  unfold b_olaw_2
  generalize forS (srcR1 (aCons (con (.int 6)) aNil)) (gN 4) b_olaw_1 = FOR at *
  generalize c_olaw_1 = C1 at *
  generalize S__law_right = SR at *
  generalize S_is_table = ST at *
  generalize S__law_rules = SL at *
  generalize many.map rowD = MR at *
  generalize tabD (many.take 6) = TM6 at *
  generalize tabD (t ++ many) = TTM at *
  generalize tabD many = TM at *
  generalize tabD t.reverse = TR at *
  generalize t.map rowD = TRW at *
  generalize tabD t = TD at *
  generalize opTuple = OT at *
  generalize hAdd = HA at *
  generalize opRev = OR at *
  generalize opListA = OL at *
  generalize opNotB = NB at *
  refine wp_seq fun K k1 k2 k3 k4 => ?_
  simp [Wp, mkF, reFrz, seq, Pm.ite, rtn, mov, asg, drp, sNx, bnd, Pm.bin, Pm.un, app, aCons, aNil, idx, loc, con, Pm.ret, peek1, peeks, itemOf, on2I, iAdd, iSub, iGt, iGe, iLt, iLe, iDiv, iMod, use1, useL, gI, gN, tst, andT, orT, notT, andE, orE, notE, ifE, ixN, D.frz, D.plain, plainL, argsBack, opLen, opAbs, opInt1, opNeg, disp, cap, callF, takes, puts, selA, sel, aApp, par, gT, gsC, gs0, appF, opDivmod, frzL, plainL, e1]
  refine k1 _ ?_
  clear k1 k2 k3 k4 K
  refine wp_seq fun K k1 k2 k3 k4 => ?_
  simp [Wp, mkF, reFrz, seq, Pm.ite, rtn, mov, asg, drp, sNx, bnd, Pm.bin, Pm.un, app, aCons, aNil, idx, loc, con, Pm.ret, peek1, peeks, itemOf, on2I, iAdd, iSub, iGt, iGe, iLt, iLe, iDiv, iMod, use1, useL, gI, gN, tst, andT, orT, notT, andE, orE, notE, ifE, ixN, D.frz, D.plain, plainL, argsBack, opLen, opAbs, opInt1, opNeg, disp, cap, callF, takes, puts, selA, sel, aApp, par, gT, gsC, gs0, appF, opDivmod, frzL, plainL, it, nb, ol, r1, ov, r2, tp]
  refine k1 _ ?_
  clear k1 k2 k3 k4 K
  refine wp_seq fun K k1 k2 k3 k4 => hfor fun z' x4 x5 p' => k1 _ ?_
  have mc := mc x4 x5 z'
  have fin := hQ z' (some TD) x4 x5 (some TM) (p'.mono (by omega))
  clear k1 k2 k3 k4 K hfor hQ
  refine wp_seq fun K k1 k2 k3 k4 => ?_
  simp [Wp, mkF, reFrz, seq, Pm.ite, rtn, mov, asg, drp, sNx, bnd, Pm.bin, Pm.un, app, aCons, aNil, idx, loc, con, Pm.ret, peek1, peeks, itemOf, on2I, iAdd, iSub, iGt, iGe, iLt, iLe, iDiv, iMod, use1, useL, gI, gN, tst, andT, orT, notT, andE, orE, notE, ifE, ixN, D.frz, D.plain, plainL, argsBack, opLen, opAbs, opInt1, opNeg, disp, cap, callF, takes, puts, selA, sel, aApp, par, gT, gsC, gs0, appF, opDivmod, frzL, plainL, mc, ot]
  refine k1 _ ?_
  clear k1 k2 k3 k4 K
  refine wp_end fun K k1 k2 k3 k4 => ?_
  simp [Wp, mkF, reFrz, seq, Pm.ite, rtn, mov, asg, drp, sNx, bnd, Pm.bin, Pm.un, app, aCons, aNil, idx, loc, con, Pm.ret, peek1, peeks, itemOf, on2I, iAdd, iSub, iGt, iGe, iLt, iLe, iDiv, iMod, use1, useL, gI, gN, tst, andT, orT, notT, andE, orE, notE, ifE, ixN, D.frz, D.plain, plainL, argsBack, opLen, opAbs, opInt1, opNeg, disp, cap, callF, takes, puts, selA, sel, aApp, par, gT, gsC, gs0, appF, opDivmod, frzL, plainL, r3, mp, cut, cm, r4, am, r5, tp]
  exact k1 _ fin
/-! ### the law -/
def things : List D := [.non, .bl true, .tup [], .node false .lst [], .node false (.dct []) [], .str "a 1 0", .int 0, .tup [.str "a", .int 1, .int 0], .tup [.tup [.str "a", .int 1, .int 0], .tup [.str "a", .int 1, .int 0]], .tup [.tup [.str "b", .int 0, .int 0], .tup [.str "a", .int 0, .int 0]]]
def thingsO : List D := [.non, .bl true, .tup [], .node true .lst [], .node true (.dct []) [], .str "a 1 0", .int 0, .tup [.str "a", .int 1, .int 0], .tup [.tup [.str "a", .int 1, .int 0], .tup [.str "a", .int 1, .int 0]]]
def lastT : D := .tup [.tup [.str "b", .int 0, .int 0], .tup [.str "a", .int 0, .int 0]]
theorem things_frz : frzL (thingsO ++ [lastT]) = things := rfl
def cst2 (d : D) : Bool := d.plain && (okD BC d && (decide (wtD d ≤ 210) && decide (dpD d ≤ 3)))
theorem things_cst : things.all cst2 = true := by decide +kernel
theorem things_right : ∀ d ∈ things, d.plain = true ∧ S__law_right [d] = .ret (.bl true) [d] := fun d hd => by
  have h := List.all_eq_true.mp things_cst d hd
  simp only [cst2, Bool.and_eq_true, decide_eq_true_eq] at h
  exact ⟨h.1, look ⟨h.1, h.2.1, h.2.2.1, h.2.2.2⟩ (by decide) (by decide) (by decide)⟩
theorem d_things {ρ : Pm.Env} : d_olaw_1 ρ = .ok (.val (.node true .lst thingsO)) ρ := by
  unfold d_olaw_1
  simp [mkF, reFrz, seq, Pm.ite, rtn, mov, asg, drp, sNx, bnd, Pm.bin, Pm.un, app, aCons, aNil, idx, loc, con, Pm.ret, peek1, peeks, itemOf, on2I, iAdd, iSub, iGt, iGe, iLt, iLe, iDiv, iMod, use1, useL, gI, gN, tst, andT, orT, notT, andE, orE, notE, ifE, ixN, D.frz, D.plain, plainL, argsBack, opLen, opAbs, opInt1, opNeg, disp, cap, callF, takes, puts, selA, sel, aApp, par, gT, gsC, gs0, appF, opDivmod, frzL, plainL, newD, thingsO]
theorem end_comp {x0 x1 x2 x3 x4 x5 x6 : Option D} : c_olaw_2 [x0, x1, x2, x3, x4, x5, x6, some (.node true .lst (thingsO ++ [lastT])), none, none] = .ok (.val (.node true .lst [])) [x0, x1, x2, x3, x4, x5, x6, some (.node false .lst things), none, none] := by
  have hs : srcA (loc 7) [x0, x1, x2, x3, x4, x5, x6, some (.node true .lst (thingsO ++ [lastT])), none, none] = .ok things [x0, x1, x2, x3, x4, x5, x6, some (.node false .lst things), none, none] := by
    have f := things_frz
    have f2 : frzL things = things := rfl
    generalize thingsO ++ [lastT] = TO at *
    generalize things = TS at *
    simp [srcA, mkF, reFrz, seq, Pm.ite, rtn, mov, asg, drp, sNx, bnd, Pm.bin, Pm.un, app, aCons, aNil, idx, loc, con, Pm.ret, peek1, peeks, itemOf, on2I, iAdd, iSub, iGt, iGe, iLt, iLe, iDiv, iMod, use1, useL, gI, gN, tst, andT, orT, notT, andE, orE, notE, ifE, ixN, D.frz, D.plain, plainL, argsBack, opLen, opAbs, opInt1, opNeg, disp, cap, callF, takes, puts, selA, sel, aApp, par, gT, gsC, gs0, appF, opDivmod, frzL, plainL, f, f2]
  unfold c_olaw_2
  rw [comp_fm (fun _ => none) hs rfl rfl (by decide) fun d hd => ?_]
  · rw [List.filterMap_eq_nil_iff.mpr fun _ _ => rfl]
  · obtain ⟨hp, hr⟩ := things_right d hd
    refine ⟨[x0, x1, x2, x3, x4, x5, x6, some (.node false .lst things), none, some d], rfl, ?_⟩
    generalize S__law_right = SR at *
    generalize things = TS at *
    refine Wp.of (a := false) (ρ' := [x0, x1, x2, x3, x4, x5, x6, some (.node false .lst TS), none, some d]) ?_ ⟨fun h => (nomatch h), fun _ => ⟨rfl, rfl⟩⟩
    simp [mkF, reFrz, seq, Pm.ite, rtn, mov, asg, drp, sNx, bnd, Pm.bin, Pm.un, app, aCons, aNil, idx, loc, con, Pm.ret, peek1, peeks, itemOf, on2I, iAdd, iSub, iGt, iGe, iLt, iLe, iDiv, iMod, use1, useL, gI, gN, tst, andT, orT, notT, andE, orE, notE, ifE, ixN, D.frz, D.plain, plainL, argsBack, opLen, opAbs, opInt1, opNeg, disp, cap, callF, takes, puts, selA, sel, aApp, par, gT, gsC, gs0, appF, opDivmod, frzL, plainL, hr, hp]
theorem law_ok (ns : List Int) (hl : ns.length ≤ 63) : ∃ as, S_law [.scr (ns.map D.int)] = .ret (.bl true) as := by
  obtain ⟨d0, ep, p0⟩ := pen_ok hl
  obtain ⟨z0, rfl⟩ := p0.owned
  have hw : Wf S_law [.scr (ns.map D.int)] fun d as => d = .bl true := by
    unfold S_law
    refine wf_mkF ?_
    rw [bq_law]
    show Wp _ [some (.scr (ns.map D.int)), none, none, none, none, none, none, none, none, none] _
    have pl := plain_ints ns
    refine wp_seq fun K k1 k2 k3 k4 => ?_
    simp [Wp, mkF, reFrz, seq, Pm.ite, rtn, mov, asg, drp, sNx, bnd, Pm.bin, Pm.un, app, aCons, aNil, idx, loc, con, Pm.ret, peek1, peeks, itemOf, on2I, iAdd, iSub, iGt, iGe, iLt, iLe, iDiv, iMod, use1, useL, gI, gN, tst, andT, orT, notT, andE, orE, notE, ifE, ixN, D.frz, D.plain, plainL, argsBack, opLen, opAbs, opInt1, opNeg, disp, cap, callF, takes, puts, selA, sel, aApp, par, gT, gsC, gs0, appF, opDivmod, frzL, plainL, e_pen, ep, pl]
    refine k1 _ ?_
    clear k1 k2 k3 k4 K
    refine wp_seq fun K0 j1 j2 j3 j4 => ?_
    have hsrc : srcR1 (aCons (con (.int 4)) aNil) [some (.scr (ns.map D.int)), some (.node true .lst z0), none, none, none, none, none, none, none, none] = .ok (rangeD 0 4) [some (.scr (ns.map D.int)), some (.node true .lst z0), none, none, none, none, none, none, none, none] := src_r1 (es := [.val (.int 4)]) (n := 4) rfl rfl (by decide)
    refine wp_for hsrc (fun j ρ => ∃ (z : List D) (x2 x3 x4 x5 x6 : Option D), ρ = [some (.scr (ns.map D.int)), some (.node true .lst z), x2, x3, x4, x5, x6, none, none, none] ∧ Pen ns (400 * (j : Int)) (.node true .lst z)) ⟨z0, none, none, none, none, none, rfl, p0.mono (by omega)⟩ ?_ ?_
    · rintro j d ρ hd ⟨z, x2, x3, x4, x5, x6, rfl, hp⟩
      obtain ⟨hj, rfl⟩ := range_get hd
      exact ⟨_, rfl, turn2 hl hp (by omega) fun z' x3 x4 x5 x6 p' => ⟨z', _, x3, x4, x5, x6, rfl, p'.mono (by omega)⟩⟩
    · rintro ρ ⟨z, x2, x3, x4, x5, x6, rfl, hp⟩
      refine j1 _ ?_
      clear j1 j2 j3 j4 K0
      have dt := fun ρ => d_things (ρ := ρ)
      have ec := end_comp (x0 := some (.scr (ns.map D.int))) (x1 := some (.node true .lst z)) (x2 := x2) (x3 := x3) (x4 := x4) (x5 := x5) (x6 := x6)
      have q0 : opEq [.node true .lst [], .node true .lst []] = some (.bl true) := rfl
      have lt : thingsO.length < 1000000 := by decide
      generalize hT : lastT = LT at ec
      unfold lastT at hT
      generalize d_olaw_1 = D1 at *
      generalize c_olaw_2 = C2 at *
      generalize thingsO = TO at *
      generalize opEq = EQ at *
      refine wp_seq fun K k1 k2 k3 k4 => ?_
      simp [Wp, mkF, reFrz, seq, Pm.ite, rtn, mov, asg, drp, sNx, bnd, Pm.bin, Pm.un, app, aCons, aNil, idx, loc, con, Pm.ret, peek1, peeks, itemOf, on2I, iAdd, iSub, iGt, iGe, iLt, iLe, iDiv, iMod, use1, useL, gI, gN, tst, andT, orT, notT, andE, orE, notE, ifE, ixN, D.frz, D.plain, plainL, argsBack, opLen, opAbs, opInt1, opNeg, disp, cap, callF, takes, puts, selA, sel, aApp, par, gT, gsC, gs0, appF, opDivmod, frzL, plainL, dt]
      refine k1 _ ?_
      clear k1 k2 k3 k4 K
      refine wp_seq fun K k1 k2 k3 k4 => ?_
      simp [Wp, mkF, reFrz, seq, Pm.ite, rtn, mov, asg, drp, sNx, bnd, Pm.bin, Pm.un, app, aCons, aNil, idx, loc, con, Pm.ret, peek1, peeks, itemOf, on2I, iAdd, iSub, iGt, iGe, iLt, iLe, iDiv, iMod, use1, useL, gI, gN, tst, andT, orT, notT, andE, orE, notE, ifE, ixN, D.frz, D.plain, plainL, argsBack, opLen, opAbs, opInt1, opNeg, disp, cap, callF, takes, puts, selA, sel, aApp, par, gT, gsC, gs0, appF, opDivmod, frzL, plainL, appd, lt, hT]
      refine k1 _ ?_
      clear k1 k2 k3 k4 K
      refine wp_end fun K k1 k2 k3 k4 => ?_
      simp [Wp, mkF, reFrz, seq, Pm.ite, rtn, mov, asg, drp, sNx, bnd, Pm.bin, Pm.un, app, aCons, aNil, idx, loc, con, Pm.ret, peek1, peeks, itemOf, on2I, iAdd, iSub, iGt, iGe, iLt, iLe, iDiv, iMod, use1, useL, gI, gN, tst, andT, orT, notT, andE, orE, notE, ifE, ixN, D.frz, D.plain, plainL, argsBack, opLen, opAbs, opInt1, opNeg, disp, cap, callF, takes, puts, selA, sel, aApp, par, gT, gsC, gs0, appF, opDivmod, frzL, plainL, ec, q0]
      exact k2 _ _ ⟨[.scr (ns.map D.int)], by simp [argsBack, reFrz, D.plain, pl], rfl⟩
  obtain ⟨d, as, e, rfl⟩ := hw
  exact ⟨as, e⟩
end Pk01
open PySem PySem.W PyProof.Rows
set_option maxHeartbeats 0 in
theorem PySem.Challenge.cw_wearbinds_k01_tables_recognized_holds : PySem.Challenge.rw_wearbinds_k01_tables_recognized.Holds := by
  w_on; o_law; k_head; (case hw => w_witness2)
  k_fill
  refine Pm.walkT (l := PySem.Challenge.rw_wearbinds_k01_tables_recognized) (n := 63) (k := 64) (x := "_law_script") (g := Pk01.S_law) rfl (by decide) rfl ⟨rfl, by decide, by decide⟩ (by intro w h Y; first | exact PySem.W.kIn_of Y | exact PySem.W.km_in_of Y) (fun w => by kernel_rfl) ?F Pk01.law_ok
  case F =>
    intro w mg fa h KX G hmg
    refine' Pk01.all_mk KX G hmg ?a0 ?l0 ?c0 ?k0 ?a1 ?l1 ?c1 ?k1 ?a2 ?l2 ?c2 ?k2 ?a3 ?l3 ?c3 ?k3 ?a4 ?l4 ?c4 ?k4 ?a5 ?l5 ?c5 ?k5 ?a6 ?l6 ?c6 ?k6 ?a7 ?l7 ?c7 ?k7 ?a8 ?l8 ?c8 ?k8 ?a9 ?l9 ?c9 ?k9 ?a10 ?l10 ?c10 ?k10 ?a11 ?l11 ?c11 ?k11 ?a12 ?l12 ?c12 ?k12 ?a13 ?l13 ?c13 ?k13 ?a14 ?l14 ?c14 ?k14 ?z_abs ?z_all ?z_bool ?z_int ?z_isinstance ?z_len ?z_list ?z_range ?z_repr ?z_sorted ?z_str ?z_tuple ?z_zip ?g_GREATEST ?g_LETTERS ?g_MOST_LETTERS
    (case a0 => k_is); (case l0 => k_is); (case c0 => k_is); (case k0 => k_is); (case a1 => k_is); (case l1 => k_is); (case c1 => k_is); (case k1 => k_is); (case a2 => k_is); (case l2 => k_is); (case c2 => k_is); (case k2 => k_is); (case a3 => k_is); (case l3 => k_is); (case c3 => k_is); (case k3 => k_is); (case a4 => k_is); (case l4 => k_is); (case c4 => k_is); (case k4 => k_is); (case a5 => k_is); (case l5 => k_is); (case c5 => k_is); (case k5 => k_is); (case a6 => k_is); (case l6 => k_is); (case c6 => k_is); (case k6 => k_is); (case a7 => k_is); (case l7 => k_is); (case c7 => k_is); (case k7 => k_is); (case a8 => k_is); (case l8 => k_is); (case c8 => k_is); (case k8 => k_is); (case a9 => k_is); (case l9 => k_is); (case c9 => k_is); (case k9 => k_is); (case a10 => k_is); (case l10 => k_is); (case c10 => k_is); (case k10 => k_is); (case a11 => k_is); (case l11 => k_is); (case c11 => k_is); (case k11 => k_is); (case a12 => k_is); (case l12 => k_is); (case c12 => k_is); (case k12 => k_is); (case a13 => k_is); (case l13 => k_is); (case c13 => k_is); (case k13 => k_is); (case a14 => k_is); (case l14 => k_is); (case c14 => k_is); (case k14 => k_is); (case z_abs => k_is); (case z_all => k_is); (case z_bool => k_is); (case z_int => k_is); (case z_isinstance => k_is); (case z_len => k_is); (case z_list => k_is); (case z_range => k_is); (case z_repr => k_is); (case z_sorted => k_is); (case z_str => k_is); (case z_tuple => k_is); (case z_zip => k_is); (case g_GREATEST => k_is); (case g_LETTERS => k_is); (case g_MOST_LETTERS => k_is)


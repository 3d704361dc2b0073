import PyProof.Rows.All
import Wide.All
import OpenK.AllK
import Wide.FinOn
import HandS.ForMost
import HandS.Exc
import HandS.ExcOwn
import HandS.Wide
import HandS.IsInst
import HandS.TupAny
import HandS.SortInts
import HandS.Zip
import HandS.Flow
import HandS.Style
import HandS.Star
import HandS.Set
import HandS.SetFor
import HandS.Strs
import HandS.Replace
import HandS.ReplaceLit
import HandS.Iter
import HandS.Text
import HandS.Lambda
import KE.KNest
import PyProof.EqKinds
import PyProof.FactsAll.dict_1
import HandS.ReplaceList
import HandS.TupMul
import HandS.Conv
import PyProof.ListStr
import PyProof.EqAt
import PyProof.TupleCall
import HandS.ExcInit
import PyProof.ExcBaseAll.OverflowError
import PyProof.ExcBaseAll.IndexError
import PyProof.ExcBaseAll.LookupError
import PyProof.ExcBaseAll.ValueError
import HandS.Words
import HandS.ExcValue
import HandS.ExcField
import KE.KExcIs
import HandS.More
import HandS.Zip0
import PyProof.EnumMake
import PyProof.Draws
import HandS.SortRule
import HandS.FStr
import HandS.ExcIs
import KE.IntTextLaws
import KE.IntTextText
import HandS.EndTab
import KE.KNestM
import PySem.Challenge.RW_wearbinds_k79_trees_as_texts
set_option Elab.async false
set_option linter.all false
set_option maxRecDepth 100000
namespace Pm
open PySem PySem.Spec PyProof.Rows L2
abbrev Sl := List (Option V)
/-- no table of code objects -/
def NT (o : HO) : Prop := ∀ ps, o ≠ .tbl ps
theorem nt_lst {ys : List V} : NT (.lst ys) := fun _ e => nomatch e
theorem nt_tup {ys : List V} : NT (.tup ys) := fun _ e => nomatch e
theorem nt_frz {o : Obj} {u : HO} : NT (.frz o u) := fun _ e => nomatch e
theorem nt_dK {es : List (Key × V)} : NT (.dK es) := fun _ e => nomatch e
theorem nt_xd {es : List (Str × V)} : NT (.xd es) := fun _ e => nomatch e
theorem nt_ins {C dx : Addr} {fs : List (Str × V)} : NT (.ins C dx fs) := fun _ e => nomatch e
theorem nt_ext {p : Heap → Prop} : NT (.ext p) := fun _ e => by cases e
/-- what may be owned -/
def NW (o : HO) : Prop := NT o ∧ ∀ φ, o ≠ .ext φ
theorem nt_or (o : HO) : (∃ ps, o = .tbl ps) ∨ NT o := by
  by_cases h : ∃ ps, o = .tbl ps
  · exact .inl h
  · exact .inr fun ps e => h ⟨ps, e⟩
/-- all that is known stays, tables apart -/
structure Sam (Z H : Hp) : Prop where
  get : ∀ a o, Z a = some o → NT o → H a = some o
theorem _root_.L2.Same.sam {Z H : Hp} (h : L2.Same Z H) : Sam Z H := ⟨fun a o e _ => h a o e⟩
instance {Z H : Hp} : Coe (L2.Same Z H) (Sam Z H) := ⟨L2.Same.sam⟩
theorem Sam.refl (Z : Hp) : Sam Z Z := ⟨fun _ _ e _ => e⟩
theorem Sam.trans {Z Z1 Z2 : Hp} (a : Sam Z Z1) (b : Sam Z1 Z2) : Sam Z Z2 := ⟨fun x o e n => b.get x o (a.get x o e n) n⟩
theorem Sam.seq {K : PySem.W.Frag} {H H' : Hp} {a : Addr} {xs : List V} (e : Sam H H') (h : SqL K H a xs) : SqL K H' a xs := by
  rcases h with (h | ⟨o, h⟩) | h
  · exact .inl (.inl (e.get _ _ h nt_lst))
  · exact .inl (.inr ⟨o, e.get _ _ h nt_frz⟩)
  · exact .inr h
/-- the kind of a compound thing -/
inductive Kd where
  | tup | lst | scr | dct (ks : List Key) | obj (C : Str) (fs : List Str) | ins (C : Str) (fs : List Str)
  deriving DecidableEq
/-- data: an owned node (true) may be changed in place, a frozen one is shared and stays -/
inductive D where
  | non | bl (b : Bool) | int (i : Int) | str (x : Str) | op (v : V)
  | node (o : Bool) (k : Kd) (xs : List D)
abbrev D.tup (xs : List D) : D := .node false .tup xs
abbrev D.lst (o : Bool) (xs : List D) : D := .node o .lst xs
abbrev D.scr (xs : List D) : D := .node false .scr xs
abbrev D.dct (o : Bool) (ks : List Key) (xs : List D) : D := .node o (.dct ks) xs
mutual
def D.plain : D → Bool
  | .node _ .tup xs => plainL xs
  | .node o _ xs => !o && plainL xs
  | _ => true
def plainL : List D → Bool
  | [] => true
  | d :: ds => d.plain && plainL ds
end
mutual
def D.frz : D → D
  | .node o .tup xs => .node o .tup (frzL xs)
  | .node _ k xs => .node false k (frzL xs)
  | d => d
def frzL : List D → List D
  | [] => []
  | d :: ds => d.frz :: frzL ds
end
theorem plainL_all : ∀ ds : List D, plainL ds = ds.all D.plain
  | [] => rfl
  | d :: ds => by rw [plainL, plainL_all ds, List.all_cons]
mutual
theorem D.frz_of_plain : ∀ d : D, d.plain = true → d.frz = d
  | .non, _ => rfl
  | .bl _, _ => rfl
  | .int _, _ => rfl
  | .str _, _ => rfl
  | .op _, _ => rfl
  | .node o .tup xs, h => by
    rw [D.plain] at h
    rw [D.frz, frzL_of_plain xs h]
  | .node o .lst xs, h => by
    rw [D.plain, Bool.and_eq_true, Bool.not_eq_true'] at h
    · rw [D.frz, frzL_of_plain xs h.2, h.1]; simp
    · simp
  | .node o .scr xs, h => by
    rw [D.plain, Bool.and_eq_true, Bool.not_eq_true'] at h
    · rw [D.frz, frzL_of_plain xs h.2, h.1]; simp
    · simp
  | .node o (.dct _) xs, h => by
    rw [D.plain, Bool.and_eq_true, Bool.not_eq_true'] at h
    · rw [D.frz, frzL_of_plain xs h.2, h.1]; simp
    · simp
  | .node o (.obj _ _) xs, h => by
    rw [D.plain, Bool.and_eq_true, Bool.not_eq_true'] at h
    · rw [D.frz, frzL_of_plain xs h.2, h.1]; simp
    · simp
  | .node o (.ins _ _) xs, h => by
    rw [D.plain, Bool.and_eq_true, Bool.not_eq_true'] at h
    · rw [D.frz, frzL_of_plain xs h.2, h.1]; simp
    · simp
theorem frzL_of_plain : ∀ ds : List D, plainL ds = true → frzL ds = ds
  | [], _ => rfl
  | d :: ds, h => by
    rw [plainL, Bool.and_eq_true] at h
    rw [frzL, D.frz_of_plain d h.1, frzL_of_plain ds h.2]
end
mutual
theorem D.plain_frz : ∀ d : D, d.frz.plain = true
  | .non => rfl
  | .bl _ => rfl
  | .int _ => rfl
  | .str _ => rfl
  | .op _ => rfl
  | .node o .tup xs => by rw [D.frz, D.plain, plainL_frz xs]
  | .node o .lst xs => by simp [D.frz, D.plain, plainL_frz xs]
  | .node o .scr xs => by simp [D.frz, D.plain, plainL_frz xs]
  | .node o (.dct _) xs => by simp [D.frz, D.plain, plainL_frz xs]
  | .node o (.obj _ _) xs => by simp [D.frz, D.plain, plainL_frz xs]
  | .node o (.ins _ _) xs => by simp [D.frz, D.plain, plainL_frz xs]
theorem plainL_frz : ∀ ds : List D, plainL (frzL ds) = true
  | [] => rfl
  | d :: ds => by
    rw [frzL, plainL, D.plain_frz d, plainL_frz ds]
    rfl
end
abbrev Fp := Addr → Prop
abbrev Fp0 : Fp := fun _ => False
/-- the class of a name of the module -/
def reg (K : PySem.W.Frag) (n : Str) : Option Addr := match PySem.W.nsIn K PySem.mainGlobals n with
  | some (some (.ref C)) => some C
  | _ => none
theorem reg_of {K : PySem.W.Frag} {n : Str} {C : Addr} (h : PySem.W.nsIn K PySem.mainGlobals n = some (some (.ref C))) : reg K n = some C := by
  unfold reg
  rw [h]
/-- a thing at its address, as tracked -/
def Cell (K : PySem.W.Frag) (H : Hp) (a : Addr) (ys : List V) : Kd → Prop
  | .tup => H a = some (.tup ys)
  | .lst => H a = some (.lst ys)
  | .scr => False
  | .dct ks => ks.length = ys.length ∧ H a = some (.dK (ks.zip ys))
  | .obj _ _ => False
  | .ins n fs => ∃ C dx : Addr, reg K n = some C ∧ fs.length = ys.length ∧ H a = some (.ins C dx (fs.zip ys))
/-- at a: an exception of the class at C, its dict at dd -/
def XoP (a C : Addr) (dd : Option Addr) : Heap → Prop := fun h => ∃ (oe : Obj) (vs : Array Value), h.get? a = some oe ∧ oe.cls = .ref C ∧ oe.dict = dd ∧ oe.data = .fields vs
/-- an exception that was caught: its class by name, its fields -/
def ObjAt (K : PySem.W.Frag) (Z : Hp) (a : Addr) (ys : List V) (n : Str) (fs : List Str) : Prop :=
  ∃ (C : Addr) (dd : Option Addr), reg K n = some C ∧ Z a = some (.ext (XoP a C dd)) ∧ ((dd = none ∧ fs = [] ∧ ys = []) ∨ ∃ d, dd = some d ∧ fs.length = ys.length ∧ Z d = some (.xd (fs.zip ys)))
/-- it has no dict of its own -/
def DN (K : PySem.W.Frag) (Z : Hp) (a : Addr) : Prop := (∃ o u, o.dict = none ∧ Z a = some (.frz o u)) ∨ ∃ o, K.lookup a = some o ∧ o.dict = none
theorem DN.sam {K : PySem.W.Frag} {Z Z' : Hp} {a : Addr} (h : DN K Z a) (e : Sam Z Z') : DN K Z' a := by
  rcases h with ⟨o, u, h1, h2⟩ | h
  · exact .inl ⟨o, u, h1, e.get _ _ h2 nt_frz⟩
  · exact .inr h
theorem DN.same {K : PySem.W.Frag} {Z Z' : Hp} {a : Addr} (h : DN K Z a) (e : L2.Same Z Z') : DN K Z' a := h.sam e.sam
/-- a frozen thing as it is read -/
def Frd (K : PySem.W.Frag) (Z : Hp) (a : Addr) (ys : List V) : Kd → Prop
  | .tup => SqT K Z a ys
  | .scr => SqL K Z a ys
  | .obj n fs => ObjAt K Z a ys n fs
  | k => Cell K Z a ys k
mutual
def Rep (K : PySem.W.Frag) (Z H : Hp) : D → V → Fp → Prop
  | .non, v, _ => v = .non
  | .bl b, v, _ => v = .bl b
  | .int i, v, _ => v = .int i
  | .str x, v, _ => v = .str x
  | .op u, v, _ => v = u
  | .node false k ds, v, S => ∃ a ys, v = .ref a ∧ Frd K Z a ys k ∧ RepL K Z H ds ys S
  | .node true .tup ds, v, S => ∃ a ys, v = .ref a ∧ (SqT K Z a ys ∧ DN K Z a) ∧ RepL K Z H ds ys S
  | .node true k ds, v, S => ∃ a ys S', v = .ref a ∧ Cell K H a ys k ∧ S a ∧ ¬ S' a ∧ (∀ b, S' b → S b) ∧ RepL K Z H ds ys S'
def RepL (K : PySem.W.Frag) (Z H : Hp) : List D → List V → Fp → Prop
  | [], [], _ => True
  | d :: ds, v :: vs, S => ∃ S1 S2 : Fp, (∀ a, S1 a → S a) ∧ (∀ a, S2 a → S a) ∧ (∀ a, S1 a → S2 a → False) ∧ Rep K Z H d v S1 ∧ RepL K Z H ds vs S2
  | _, _, _ => False
end
section
variable {K : PySem.W.Frag} {Z Z' H H' : Hp} {S S' : Fp}
theorem Cell.sam {a : Addr} {ys : List V} {k : Kd} (h : Cell K H a ys k) (e : ∀ o, H a = some o → NT o → H' a = some o) : Cell K H' a ys k := by
  cases k with
  | tup => exact e _ h nt_tup
  | lst => exact e _ h nt_lst
  | scr => exact h
  | dct ks => exact ⟨h.1, e _ h.2 nt_dK⟩
  | obj C fs => exact h
  | ins n fs => obtain ⟨C, dx, h1, h2, h3⟩ := h; exact ⟨C, dx, h1, h2, e _ h3 nt_ins⟩
theorem SqT.sam {a : Addr} {ys : List V} (h : SqT K Z a ys) (e : Sam Z Z') : SqT K Z' a ys := by
  rcases h with (h | ⟨o, h⟩) | h
  · exact .inl (.inl (e.get _ _ h nt_tup))
  · exact .inl (.inr ⟨o, e.get _ _ h nt_frz⟩)
  · exact .inr h
theorem Frd.sam {a : Addr} {ys : List V} {k : Kd} (h : Frd K Z a ys k) (e : Sam Z Z') : Frd K Z' a ys k := by
  cases k with
  | tup => exact SqT.sam h e
  | lst => exact e.get _ _ h nt_lst
  | scr => exact Sam.seq e h
  | dct ks => exact ⟨h.1, e.get _ _ h.2 nt_dK⟩
  | obj n fs =>
    obtain ⟨C, dd, h1, h2, h3⟩ := h
    refine ⟨C, dd, h1, e.get _ _ h2 nt_ext, ?_⟩
    rcases h3 with h3 | ⟨d, r1, r2, r3⟩
    · exact .inl h3
    · exact .inr ⟨d, r1, r2, e.get _ _ r3 nt_xd⟩
  | ins n fs => obtain ⟨C, dx, h1, h2, h3⟩ := h; exact ⟨C, dx, h1, h2, e.get _ _ h3 nt_ins⟩
theorem Cell.same {a : Addr} {ys : List V} {k : Kd} (h : Cell K H a ys k) (e : ∀ o, H a = some o → H' a = some o) : Cell K H' a ys k := by
  cases k with
  | tup => exact e _ h
  | lst => exact e _ h
  | scr => exact h
  | dct ks => exact ⟨h.1, e _ h.2⟩
  | obj C fs => exact h
  | ins n fs => obtain ⟨C, dx, h1, h2, h3⟩ := h; exact ⟨C, dx, h1, h2, e _ h3⟩
theorem SqT.same {a : Addr} {ys : List V} (h : SqT K Z a ys) (e : Same Z Z') : SqT K Z' a ys := by
  rcases h with (h | ⟨o, h⟩) | h
  · exact .inl (.inl (e _ _ h))
  · exact .inl (.inr ⟨o, e _ _ h⟩)
  · exact .inr h
theorem Frd.same {a : Addr} {ys : List V} {k : Kd} (h : Frd K Z a ys k) (e : Same Z Z') : Frd K Z' a ys k := by
  cases k with
  | tup => exact SqT.same h e
  | lst => exact e _ _ h
  | scr => exact Same.seq e h
  | dct ks => exact ⟨h.1, e _ _ h.2⟩
  | obj n fs =>
    obtain ⟨C, dd, h1, h2, h3⟩ := h
    refine ⟨C, dd, h1, e _ _ h2, ?_⟩
    rcases h3 with h3 | ⟨d, r1, r2, r3⟩
    · exact .inl h3
    · exact .inr ⟨d, r1, r2, e _ _ r3⟩
  | ins n fs => obtain ⟨C, dx, h1, h2, h3⟩ := h; exact ⟨C, dx, h1, h2, e _ _ h3⟩
theorem rep_own {k : Kd} {ds : List D} {v : V} (hk : k ≠ .tup) : Rep K Z H (.node true k ds) v S = (∃ a ys S', v = .ref a ∧ Cell K H a ys k ∧ S a ∧ ¬ S' a ∧ (∀ b, S' b → S b) ∧ RepL K Z H ds ys S') := by
  cases k <;> first | exact absurd rfl hk | rfl
theorem plain_own {k : Kd} {ds : List D} (hk : k ≠ .tup) : D.plain (.node true k ds) = false := by
  cases k <;> first | exact absurd rfl hk | rfl
theorem plain_shr {k : Kd} {ds : List D} : D.plain (.node false k ds) = plainL ds := by
  cases k <;> simp [D.plain]
theorem frz_own {o : Bool} {k : Kd} {ds : List D} (hk : k ≠ .tup) : D.frz (.node o k ds) = .node false k (frzL ds) := by
  cases k <;> first | exact absurd rfl hk | rfl
theorem frz_shr {k : Kd} {ds : List D} : D.frz (.node false k ds) = .node false k (frzL ds) := by
  cases k <;> rfl
theorem Cell.frd {a : Addr} {ys : List V} {k : Kd} (h : Cell K Z a ys k) : Frd K Z a ys k := by
  cases k with
  | tup => exact SqT.of h
  | lst => exact h
  | scr => exact h.elim
  | dct ks => exact h
  | obj C fs => exact h.elim
  | ins n fs => exact h
mutual
/-- the data stay where what they lean on stays -/
theorem Rep.mv : ∀ {d : D} {v : V} {S S' : Fp}, Rep K Z H d v S → Same Z Z' → (∀ a o, S a → H a = some o → NT o → H' a = some o) → (∀ a, S a → S' a) → Rep K Z' H' d v S'
  | .non, _, _, _, h, _, _, _ => h
  | .bl _, _, _, _, h, _, _, _ => h
  | .int _, _, _, _, h, _, _, _ => h
  | .str _, _, _, _, h, _, _, _ => h
  | .op _, _, _, _, h, _, _, _ => h
  | .node false k ds, v, S, S', h, z, k1, m => by
    obtain ⟨a, ys, e, c, r⟩ := h
    exact ⟨a, ys, e, c.same z, RepL.mv r z k1 m⟩
  | .node true k ds, v, S, S', h, z, k1, m => by
    by_cases hk : k = .tup
    · subst hk
      obtain ⟨a, ys, e, c, r⟩ := h
      exact ⟨a, ys, e, ⟨Pm.SqT.same c.1 z, c.2.same z⟩, RepL.mv r z k1 m⟩
    rw [rep_own hk] at h ⊢
    obtain ⟨a, ys, T, e, c, sa, na, sub, r⟩ := h
    exact ⟨a, ys, T, e, c.sam fun o q => k1 a o sa q, m a sa, na, fun b hb => m b (sub b hb), RepL.mv r z (fun b o hb => k1 b o (sub b hb)) fun _ x => x⟩
theorem RepL.mv : ∀ {ds : List D} {vs : List V} {S S' : Fp}, RepL K Z H ds vs S → Same Z Z' → (∀ a o, S a → H a = some o → NT o → H' a = some o) → (∀ a, S a → S' a) → RepL K Z' H' ds vs S'
  | [], [], _, _, _, _, _, _ => trivial
  | [], _ :: _, _, _, h, _, _, _ => h.elim
  | _ :: _, [], _, _, h, _, _, _ => h.elim
  | d :: ds, v :: vs, S, S', h, z, k1, m => by
    obtain ⟨S1, S2, s1, s2, dj, r, q⟩ := h
    exact ⟨S1, S2, fun b hb => m b (s1 b hb), fun b hb => m b (s2 b hb), dj, Rep.mv r z (fun b o hb => k1 b o (s1 b hb)) fun _ x => x, RepL.mv q z (fun b o hb => k1 b o (s2 b hb)) fun _ x => x⟩
end
theorem Rep.move {d : D} {v : V} {S S' : Fp} (h : Rep K Z H d v S) (z : Same Z Z') (k : ∀ a o, S a → H a = some o → H' a = some o) (m : ∀ a, S a → S' a) : Rep K Z' H' d v S' := Rep.mv h z (fun a o s e _ => k a o s e) m
theorem RepL.move {ds : List D} {vs : List V} {S S' : Fp} (h : RepL K Z H ds vs S) (z : Same Z Z') (k : ∀ a o, S a → H a = some o → H' a = some o) (m : ∀ a, S a → S' a) : RepL K Z' H' ds vs S' := RepL.mv h z (fun a o s e _ => k a o s e) m
mutual
theorem Rep.plain : ∀ {d : D} {v : V} {S : Fp}, Rep K Z H d v S → d.plain = true → Rep K Z H' d v Fp0
  | .non, _, _, h, _ => h
  | .bl _, _, _, h, _ => h
  | .int _, _, _, h, _ => h
  | .str _, _, _, h, _ => h
  | .op _, _, _, h, _ => h
  | .node false k ds, v, S, h, p => by
    obtain ⟨a, ys, e, c, r⟩ := h
    rw [plain_shr] at p
    exact ⟨a, ys, e, c, RepL.plain r p⟩
  | .node true k ds, v, S, h, p => by
    by_cases hk : k = .tup
    · subst hk
      obtain ⟨a, ys, e, c, r⟩ := h
      rw [D.plain] at p
      exact ⟨a, ys, e, c, RepL.plain r p⟩
    rw [plain_own hk] at p
    exact absurd p (by decide)
theorem RepL.plain : ∀ {ds : List D} {vs : List V} {S : Fp}, RepL K Z H ds vs S → plainL ds = true → RepL K Z H' ds vs Fp0
  | [], [], _, _, _ => trivial
  | [], _ :: _, _, h, _ => h.elim
  | _ :: _, [], _, h, _ => h.elim
  | d :: ds, v :: vs, S, h, p => by
    obtain ⟨S1, S2, s1, s2, dj, r, q⟩ := h
    rw [plainL, Bool.and_eq_true] at p
    exact ⟨Fp0, Fp0, fun _ x => x, fun _ x => x, fun _ x _ => x, Rep.plain r p.1, RepL.plain q p.2⟩
end
/-- Z with what stands at S -/
noncomputable def thaw (Z H : Hp) (S : Fp) : Hp := fun a => open Classical in if S a then H a else Z a
theorem thaw_in {a : Addr} (h : S a) : thaw Z H S a = H a := by unfold thaw; rw [if_pos h]
theorem thaw_out {a : Addr} (h : ¬ S a) : thaw Z H S a = Z a := by unfold thaw; rw [if_neg h]
theorem thaw_same (sep : ∀ a, S a → Z a = none) : Same Z (thaw Z H S) := fun a o e => by
  by_cases h : S a
  · rw [sep a h] at e; cases e
  · rw [thaw_out h]; exact e
theorem thaw_le (s : Sam Z H) : Sam (thaw Z H S) H := ⟨fun a o e n => by
  by_cases h : S a
  · rw [thaw_in h] at e; exact e
  · rw [thaw_out h] at e; exact s.get _ _ e n⟩
mutual
theorem Rep.frz : ∀ {d : D} {v : V} {T : Fp}, Rep K Z H d v T → (∀ a, S a → Z a = none) → (∀ a, T a → S a) → Rep K (thaw Z H S) H' d.frz v Fp0
  | .non, _, _, h, _, _ => h
  | .bl _, _, _, h, _, _ => h
  | .int _, _, _, h, _, _ => h
  | .str _, _, _, h, _, _ => h
  | .op _, _, _, h, _, _ => h
  | .node false k ds, v, T, h, sep, m => by
    obtain ⟨a, ys, e, c, r⟩ := h
    rw [frz_shr]
    exact ⟨a, ys, e, c.same (thaw_same sep), RepL.frz r sep m⟩
  | .node true k ds, v, T, h, sep, m => by
    by_cases hk : k = .tup
    · subst hk
      obtain ⟨a, ys, e, c, r⟩ := h
      rw [D.frz]
      exact ⟨a, ys, e, ⟨Pm.SqT.same c.1 (thaw_same sep), c.2.same (thaw_same sep)⟩, RepL.frz r sep m⟩
    rw [rep_own hk] at h
    rw [frz_own hk]
    obtain ⟨a, ys, T', e, c, sa, na, sub, r⟩ := h
    exact ⟨a, ys, e, (c.same fun o q => by rw [thaw_in (m a sa)]; exact q).frd, RepL.frz r sep fun b hb => m b (sub b hb)⟩
theorem RepL.frz : ∀ {ds : List D} {vs : List V} {T : Fp}, RepL K Z H ds vs T → (∀ a, S a → Z a = none) → (∀ a, T a → S a) → RepL K (thaw Z H S) H' (frzL ds) vs Fp0
  | [], [], _, _, _, _ => trivial
  | [], _ :: _, _, h, _, _ => h.elim
  | _ :: _, [], _, h, _, _ => h.elim
  | d :: ds, v :: vs, T, h, sep, m => by
    obtain ⟨S1, S2, s1, s2, dj, r, q⟩ := h
    exact ⟨Fp0, Fp0, fun _ x => x, fun _ x => x, fun _ x _ => x, Rep.frz r sep fun b hb => m b (s1 b hb), RepL.frz q sep fun b hb => m b (s2 b hb)⟩
end
theorem rep_frd {b : Bool} {k : Kd} {ds : List D} {v : V} (h : Rep K Z H (D.frz (.node b k ds)) v S) : ∃ a ys, v = .ref a ∧ Frd K Z a ys k ∧ RepL K Z H (frzL ds) ys S := by
  by_cases hk : k = .tup
  · subst hk
    cases b with
    | false => exact h
    | true =>
      obtain ⟨a, ys, e, c, r⟩ := h
      exact ⟨a, ys, e, c.1, r⟩
  · rw [frz_own hk] at h
    exact h
/-- a tuple, no matter what is known of it -/
theorem rep_wk {b : Bool} {ds : List D} {v : V} (h : Rep K Z H (.node b .tup ds) v S) : Rep K Z H (.tup ds) v S := by
  cases b with
  | false => exact h
  | true =>
    obtain ⟨a, ys, e, c, r⟩ := h
    exact ⟨a, ys, e, c.1, r⟩
theorem rep_ref {b : Bool} {k : Kd} {ds : List D} {v : V} (h : Rep K Z H (.node b k ds) v S) : ∃ a, v = .ref a := by
  cases b with
  | false => obtain ⟨a, _, e, _⟩ := h; exact ⟨a, e⟩
  | true =>
    by_cases hk : k = .tup
    · subst hk
      obtain ⟨a, _, e, _⟩ := h; exact ⟨a, e⟩
    · rw [rep_own hk] at h
      obtain ⟨a, _, _, e, _⟩ := h; exact ⟨a, e⟩
theorem RepL.length : ∀ {ds : List D} {vs : List V} {S : Fp}, RepL K Z H ds vs S → ds.length = vs.length
  | [], [], _, _ => rfl
  | [], _ :: _, _, h => h.elim
  | _ :: _, [], _, h => h.elim
  | _ :: ds, _ :: vs, _, ⟨_, _, _, _, _, _, q⟩ => by rw [List.length_cons, List.length_cons, RepL.length q]
theorem RepL.get : ∀ {ds : List D} {vs : List V} {S : Fp} {i : Nat} {d : D}, RepL K Z H ds vs S → ds[i]? = some d → ∃ v, vs[i]? = some v ∧ Rep K Z H d v S
  | [], _, _, _, _, _, e => by simp at e
  | _ :: _, [], _, _, _, h, _ => h.elim
  | d :: ds, v :: vs, S, 0, d', h, e => by
    obtain ⟨S1, S2, s1, s2, dj, r, q⟩ := h
    simp only [List.getElem?_cons_zero, Option.some.injEq] at e
    subst e
    exact ⟨v, rfl, Rep.move r (Same.refl Z) (fun _ _ _ x => x) s1⟩
  | d :: ds, v :: vs, S, i + 1, d', h, e => by
    obtain ⟨S1, S2, s1, s2, dj, r, q⟩ := h
    simp only [List.getElem?_cons_succ] at e
    obtain ⟨u, hu, ru⟩ := RepL.get q e
    exact ⟨u, by simpa using hu, Rep.move ru (Same.refl Z) (fun _ _ _ x => x) s2⟩
theorem RepL.append : ∀ {ds es : List D} {vs ws : List V} {S1 S2 T : Fp}, RepL K Z H ds vs S1 → RepL K Z H es ws S2 → (∀ a, S1 a → T a) → (∀ a, S2 a → T a) → (∀ a, S1 a → S2 a → False) → RepL K Z H (ds ++ es) (vs ++ ws) T
  | [], es, [], ws, S1, S2, T, _, h2, _, m2, _ => RepL.move h2 (Same.refl Z) (fun _ _ _ x => x) m2
  | [], _, _ :: _, _, _, _, _, h, _, _, _, _ => h.elim
  | _ :: _, _, [], _, _, _, _, h, _, _, _, _ => h.elim
  | d :: ds, es, v :: vs, ws, S1, S2, T, h, h2, m1, m2, dj => by
    obtain ⟨T1, T2, t1, t2, tj, r, q⟩ := h
    refine ⟨T1, fun a => T2 a ∨ S2 a, fun a x => m1 a (t1 a x), fun a x => x.elim (fun y => m1 a (t2 a y)) (m2 a), fun a x y => y.elim (tj a x) (dj a (t1 a x)), r, ?_⟩
    exact RepL.append (T := fun a => T2 a ∨ S2 a) q h2 (fun a x => Or.inl x) (fun a x => Or.inr x) fun a x y => dj a (t2 a x) y
/-- one item taken out of its place (an int stands there), the rest apart from it -/
theorem RepL.take : ∀ {ds : List D} {vs : List V} {S : Fp} {i : Nat} {d : D}, RepL K Z H ds vs S → ds[i]? = some d →
    ∃ v, ∃ S1 S2 : Fp, vs[i]? = some v ∧ (∀ a, S1 a → S a) ∧ (∀ a, S2 a → S a) ∧ (∀ a, S1 a → S2 a → False) ∧ Rep K Z H d v S1 ∧
      ∀ (Z' H' : Hp) (e : D) (w : V) (T1 T : Fp), Same Z Z' → (∀ a o, S2 a → H a = some o → H' a = some o) → Rep K Z' H' e w T1 → (∀ a, T1 a → T a) → (∀ a, S2 a → T a) → (∀ a, T1 a → S2 a → False) → RepL K Z' H' (ds.set i e) (vs.set i w) T
  | [], _, _, _, _, _, e => by simp at e
  | _ :: _, [], _, _, _, h, _ => h.elim
  | d :: ds, v :: vs, S, 0, d', h, e => by
    obtain ⟨S1, S2, s1, s2, dj, r, q⟩ := h
    simp only [List.getElem?_cons_zero, Option.some.injEq] at e
    subst e
    exact ⟨v, S1, S2, rfl, s1, s2, dj, r, fun Z' H' e w T1 T z k r' m1 m2 dj' => ⟨T1, S2, m1, m2, dj', r', RepL.move q z k fun _ x => x⟩⟩
  | d :: ds, v :: vs, S, i + 1, d', h, e => by
    obtain ⟨S1, S2, s1, s2, dj, r, q⟩ := h
    simp only [List.getElem?_cons_succ] at e
    obtain ⟨u, U1, U2, hu, u1, u2, uj, ru, f⟩ := RepL.take q e
    refine ⟨u, U1, fun a => S1 a ∨ U2 a, by simpa using hu, fun a x => s2 a (u1 a x), fun a x => x.elim (s1 a) fun y => s2 a (u2 a y), fun a x y => y.elim (fun z => dj a z (u1 a x)) (uj a x), ru, ?_⟩
    intro Z' H' e w T1 T z k r' m1 m2 dj'
    refine ⟨S1, fun a => T1 a ∨ U2 a, fun a x => m2 a (.inl x), fun a x => x.elim (m1 a) fun y => m2 a (.inr y), fun a x y => y.elim (fun t => dj' a t (.inl x)) fun t => dj a x (u2 a t), Rep.move r z (fun a o x => k a o (.inl x)) fun _ x => x, ?_⟩
    exact f Z' H' e w T1 _ z (fun a o x => k a o (.inr x)) r' (fun a x => .inl x) (fun a x => .inr x) fun a x y => dj' a x (.inr y)
end
/-- the mark that a table of code objects of the name q stands somewhere -/
def mark (q : Str) : HO := .tbl #[.str q 0]
/-- the names of the module that K tells -/
def topNames (K : PySem.W.Frag) : List Str := match K.lookup mainGlobals with
  | some ⟨_, _, .dict es _, _⟩ => es.toList.filterMap fun e => match e.key with
    | .str s _ => some s
    | _ => none
  | _ => []
/-- defs with their code objects and the tables of these -/
def tabN (K : PySem.W.Frag) (x : Str) : Option (Addr × Addr) := if x == ("walk" : Str) then none else match PySem.W.tabIn K x with
  | some cp => if (K.lookup cp.2).isNone then some cp else none
  | none => none
theorem tabN_in {K : PySem.W.Frag} {x : Str} {cp : Addr × Addr} (h : tabN K x = some cp) : PySem.W.tabIn K x = some cp := by
  unfold tabN at h
  split at h
  · cases h
  · split at h
    · rename_i e
      split at h
      · cases h
        exact e
      · cases h
    · cases h
def tabsK (K : PySem.W.Frag) : List (Str × Addr × Addr) := (topNames K).filterMap fun x => (tabN K x).map fun cp => (x, cp.1, cp.2)
def lamName (x : Str) : Str := (x ++ ".<locals>.") ++ "<lambda>"
/-- the tables are marked -/
def Marks (K : PySem.W.Frag) (Z : Hp) : Prop := ∀ t ∈ tabsK K, Z t.2.2 = some (mark (lamName t.1))
theorem Marks.same {K : PySem.W.Frag} {Z Z' : Hp} (m : Marks K Z) (s : Same Z Z') : Marks K Z' := fun t ht => s _ _ (m t ht)
abbrev Env := List (Option D)
def EnvR (K : PySem.W.Frag) (Z H : Hp) : Env → Sl → Fp → Prop
  | [], [], _ => Marks K Z
  | none :: ρ, _ :: σ, S => EnvR K Z H ρ σ S
  | some d :: ρ, some v :: σ, S => ∃ S1 S2 : Fp, (∀ a, S1 a → S a) ∧ (∀ a, S2 a → S a) ∧ (∀ a, S1 a → S2 a → False) ∧ Rep K Z H d v S1 ∧ EnvR K Z H ρ σ S2
  | _, _, _ => False
section
variable {K : PySem.W.Frag} {Z Z' H H' : Hp} {S S' : Fp}
theorem EnvR.marks : ∀ {ρ : Env} {σ : Sl} {S : Fp}, EnvR K Z H ρ σ S → Marks K Z
  | [], [], _, h => h
  | [], _ :: _, _, h => h.elim
  | none :: _, [], _, h => h.elim
  | some _ :: _, [], _, h => h.elim
  | none :: ρ, _ :: σ, S, h => EnvR.marks (ρ := ρ) (σ := σ) h
  | some _ :: ρ, none :: σ, S, h => h.elim
  | some _ :: ρ, some _ :: σ, S, ⟨_, _, _, _, _, _, q⟩ => q.marks
theorem EnvR.length : ∀ {ρ : Env} {σ : Sl} {S : Fp}, EnvR K Z H ρ σ S → ρ.length = σ.length
  | [], [], _, _ => rfl
  | [], _ :: _, _, h => h.elim
  | none :: _, [], _, h => h.elim
  | some _ :: _, [], _, h => h.elim
  | none :: ρ, _ :: σ, S, h => by rw [List.length_cons, List.length_cons, EnvR.length (ρ := ρ) (σ := σ) h]
  | some _ :: ρ, none :: σ, S, h => h.elim
  | some _ :: ρ, some _ :: σ, S, ⟨_, _, _, _, _, _, q⟩ => by rw [List.length_cons, List.length_cons, EnvR.length q]
theorem EnvR.mv : ∀ {ρ : Env} {σ : Sl} {S S' : Fp}, EnvR K Z H ρ σ S → Same Z Z' → (∀ a o, S a → H a = some o → NT o → H' a = some o) → (∀ a, S a → S' a) → EnvR K Z' H' ρ σ S'
  | [], [], _, _, h, z, _, _ => h.same z
  | [], _ :: _, _, _, h, _, _, _ => h.elim
  | none :: _, [], _, _, h, _, _, _ => h.elim
  | some _ :: _, [], _, _, h, _, _, _ => h.elim
  | none :: ρ, _ :: σ, S, S', h, z, k, m => EnvR.mv (ρ := ρ) (σ := σ) h z k m
  | some _ :: _, none :: _, _, _, h, _, _, _ => h.elim
  | some d :: ρ, some v :: σ, S, S', h, z, k, m => by
    obtain ⟨S1, S2, s1, s2, dj, r, q⟩ := h
    exact ⟨S1, S2, fun b hb => m b (s1 b hb), fun b hb => m b (s2 b hb), dj, Rep.mv r z (fun b o hb => k b o (s1 b hb)) fun _ x => x, EnvR.mv q z (fun b o hb => k b o (s2 b hb)) fun _ x => x⟩
theorem EnvR.move {ρ : Env} {σ : Sl} {S S' : Fp} (h : EnvR K Z H ρ σ S) (z : Same Z Z') (k : ∀ a o, S a → H a = some o → H' a = some o) (m : ∀ a, S a → S' a) : EnvR K Z' H' ρ σ S' := EnvR.mv h z (fun a o s e _ => k a o s e) m
/-- a slot is taken -/
theorem EnvR.take : ∀ {ρ : Env} {σ : Sl} {S : Fp} {i : Nat} {d : D}, EnvR K Z H ρ σ S → ρ[i]? = some (some d) →
    ∃ v, ∃ S1 S2 : Fp, σ[i]? = some (some v) ∧ (∀ a, S1 a → S a) ∧ (∀ a, S2 a → S a) ∧ (∀ a, S1 a → S2 a → False) ∧ Rep K Z H d v S1 ∧ EnvR K Z H (ρ.set i none) σ S2
  | [], _, _, _, _, _, e => by simp at e
  | none :: _, [], _, _, _, h, _ => h.elim
  | some _ :: _, [], _, _, _, h, _ => h.elim
  | none :: ρ, y :: σ, S, 0, d, h, e => by simp at e
  | none :: ρ, y :: σ, S, i + 1, d, h, e => by
    simp only [List.getElem?_cons_succ] at e
    obtain ⟨v, S1, S2, hv, s1, s2, dj, r, q⟩ := EnvR.take (ρ := ρ) (σ := σ) h e
    exact ⟨v, S1, S2, by simpa using hv, s1, s2, dj, r, q⟩
  | some _ :: _, none :: _, _, _, _, h, _ => h.elim
  | some d' :: ρ, some v :: σ, S, 0, d, h, e => by
    obtain ⟨S1, S2, s1, s2, dj, r, q⟩ := h
    simp only [List.getElem?_cons_zero, Option.some.injEq] at e
    subst e
    exact ⟨v, S1, S2, rfl, s1, s2, dj, r, q⟩
  | some d' :: ρ, some v' :: σ, S, i + 1, d, h, e => by
    obtain ⟨T1, T2, t1, t2, tj, tr, tq⟩ := h
    simp only [List.getElem?_cons_succ] at e
    obtain ⟨v, S1, S2, hv, s1, s2, dj, r, q⟩ := EnvR.take tq e
    refine ⟨v, S1, fun a => T1 a ∨ S2 a, by simpa using hv, fun a x => t2 a (s1 a x), fun a x => x.elim (t1 a) fun y => t2 a (s2 a y), fun a x y => y.elim (fun z => tj a z (s1 a x)) (dj a x), r, ?_⟩
    exact ⟨T1, S2, fun a x => .inl x, fun a x => .inr x, fun a x y => tj a x (s2 a y), tr, q⟩
/-- a slot is filled -/
theorem EnvR.put : ∀ {ρ : Env} {σ : Sl} {S1 S2 S : Fp} {i : Nat} {d : D} {v : V}, EnvR K Z H (ρ.set i none) σ S2 → i < ρ.length → Rep K Z H d v S1 → (∀ a, S1 a → S a) → (∀ a, S2 a → S a) → (∀ a, S1 a → S2 a → False) →
    EnvR K Z H (ρ.set i (some d)) (σ.set i (some v)) S
  | [], _, _, _, _, _, _, _, _, l, _, _, _, _ => by simp at l
  | _ :: _, [], _, _, _, 0, _, _, h, _, _, _, _, _ => h.elim
  | none :: _, [], _, _, _, _ + 1, _, _, h, _, _, _, _, _ => h.elim
  | some _ :: _, [], _, _, _, _ + 1, _, _, h, _, _, _, _, _ => h.elim
  | x :: ρ, y :: σ, S1, S2, S, 0, d, v, h, _, r, m1, m2, dj => ⟨S1, S2, m1, m2, dj, r, h⟩
  | none :: ρ, y :: σ, S1, S2, S, i + 1, d, v, h, l, r, m1, m2, dj => EnvR.put (ρ := ρ) (σ := σ) h (by simpa using l) r m1 m2 dj
  | some _ :: _, none :: _, _, _, _, _ + 1, _, _, h, _, _, _, _, _ => h.elim
  | some d' :: ρ, some v' :: σ, S1, S2, S, i + 1, d, v, h, l, r, m1, m2, dj => by
    obtain ⟨T1, T2, t1, t2, tj, tr, tq⟩ := h
    refine ⟨T1, fun a => S1 a ∨ T2 a, fun a x => m2 a (t1 a x), fun a x => x.elim (m1 a) fun y => m2 a (t2 a y), fun a x y => y.elim (fun z => dj a z (t1 a x)) (tj a x), tr, ?_⟩
    exact EnvR.put tq (by simpa using l) r (fun a x => .inl x) (fun a x => .inr x) fun a x y => dj a x (t2 a y)
/-- a slot forgotten -/
theorem EnvR.drop : ∀ {ρ : Env} {σ : Sl} {S : Fp} (i : Nat), EnvR K Z H ρ σ S → EnvR K Z H (ρ.set i none) σ S
  | [], [], _, _, h => h
  | [], _ :: _, _, _, h => h.elim
  | none :: _, [], _, _, h => h.elim
  | some _ :: _, [], _, _, h => h.elim
  | none :: ρ, _ :: σ, S, 0, h => h
  | none :: ρ, _ :: σ, S, i + 1, h => EnvR.drop (ρ := ρ) (σ := σ) i h
  | some _ :: _, none :: _, _, _, h => h.elim
  | some d :: ρ, some v :: σ, S, 0, ⟨S1, S2, s1, s2, dj, r, q⟩ => EnvR.move q (Same.refl Z) (fun _ _ _ x => x) s2
  | some d :: ρ, some v :: σ, S, i + 1, ⟨S1, S2, s1, s2, dj, r, q⟩ => ⟨S1, S2, s1, s2, dj, r, EnvR.drop i q⟩
/-- what stands in a slot that is not known does not matter -/
theorem EnvR.any : ∀ {ρ : Env} {σ : Sl} {S : Fp} {i : Nat} (y : Option V), EnvR K Z H ρ σ S → ρ[i]? = some none → EnvR K Z H ρ (σ.set i y) S
  | [], _, _, _, _, _, e => by simp at e
  | none :: _, [], _, _, _, h, _ => h.elim
  | some _ :: _, [], _, _, _, h, _ => h.elim
  | none :: ρ, _ :: σ, S, 0, y, h, _ => h
  | none :: ρ, _ :: σ, S, i + 1, y, h, e => EnvR.any (ρ := ρ) (σ := σ) (i := i) y h (by simpa using e)
  | some _ :: _, none :: _, _, _, _, h, _ => h.elim
  | some d :: ρ, some v :: σ, S, 0, y, h, e => by simp at e
  | some d :: ρ, some v :: σ, S, i + 1, y, ⟨S1, S2, s1, s2, dj, r, q⟩, e => ⟨S1, S2, s1, s2, dj, r, EnvR.any y q (by simpa using e)⟩
end
/-- the tables that Z marks are tables in H; each code object that they tell bears its name -/
def Tb (Z H : Hp) : Prop := ∃ L : List (Addr × Str), (∀ P ps, Z P = some (.tbl ps) → ∃ q, HO.tbl ps = mark q ∧ (P, q) ∈ L) ∧ ∀ p ∈ L, Z p.1 = some (mark p.2) ∧ LamX.TabS H p.1 p.2
structure Wd (Z H : Hp) (S : Fp) : Prop where
  same : Sam Z H
  sep : ∀ a, S a → Z a = none
  own : ∀ a, S a → ∃ o, H a = some o ∧ NW o
  tabs : Tb Z H
theorem Wd.dom {Z H : Hp} {S : Fp} (w : Wd Z H S) (a : Addr) (x : S a) : H a ≠ none := by
  obtain ⟨o, e, _⟩ := w.own a x
  rw [e]
  exact fun q => nomatch q
/-- nothing but a table may stand there -/
def Fre (H : Hp) (a : Addr) : Prop := ∀ o, H a = some o → ¬ NT o
theorem Fre.of {H : Hp} {a : Addr} (n : H a = none) : Fre H a := fun o e => by rw [n] at e; cases e
theorem Wd.live {Z H : Hp} {S : Fp} (w : Wd Z H S) (a : Addr) (x : S a) : ¬ Fre H a := fun f => by
  obtain ⟨o, e, n⟩ := w.own a x
  exact f o e n.1
structure Step (Z H : Hp) (S : Fp) (Z' H' : Hp) (S' : Fp) : Prop where
  wd : Wd Z' H' S'
  zz : Same Z Z'
  fr : ∀ a o, ¬ S a → H a = some o → NT o → H' a = some o
  new : ∀ a, S' a → S a ∨ Fre H a
  znew : ∀ a o, Z' a = some o → Z a = some o ∨ S a ∨ Fre H a
section
variable {Z Z1 Z2 H H1 H2 : Hp} {S S1 S2 T : Fp}
theorem Step.free (a : Step Z H S Z1 H1 S1) {x : Addr} (n : ¬ S x) (e : Fre H1 x) : Fre H x := fun o q t => e o (a.fr x o n q t) t
theorem Tb.isT {P : Addr} {ps : Array Value} (t : Tb Z H) (e : Z P = some (.tbl ps)) : ∃ ps', H P = some (.tbl ps') := by
  obtain ⟨L, h1, h2⟩ := t
  obtain ⟨q, _, m⟩ := h1 P ps e
  obtain ⟨_, ps', e2, _⟩ := h2 _ m
  exact ⟨ps', e2⟩
theorem Tb.ext (t : Tb Z H) (z1 : ∀ P ps, Z1 P = some (.tbl ps) → Z P = some (.tbl ps)) (z2 : Same Z Z1) (k : ∀ b o, H b = some o → ((∃ ps, o = .tbl ps) ∨ ∃ φ, o = .ext φ) → H1 b = some o) : Tb Z1 H1 := by
  obtain ⟨L, h1, h2⟩ := t
  refine ⟨L, fun P ps e => h1 P ps (z1 P ps e), fun p hp => ?_⟩
  obtain ⟨e1, ps, e2, e3, e4⟩ := h2 p hp
  refine ⟨z2 _ _ e1, ps, k _ _ e2 (.inl ⟨ps, rfl⟩), e3, fun pos cv hc => ?_⟩
  obtain ⟨c, r1, r2⟩ := e4 pos cv hc
  exact ⟨c, r1, k _ _ r2 (.inr ⟨_, rfl⟩)⟩
theorem Step.refl (w : Wd Z H S) : Step Z H S Z H S := ⟨w, Same.refl Z, fun _ _ _ e _ => e, fun _ x => .inl x, fun _ _ e => .inl e⟩
theorem Step.trans (a : Step Z H S Z1 H1 S1) (b : Step Z1 H1 S1 Z2 H2 S2) : Step Z H S Z2 H2 S2 where
  wd := b.wd
  zz := a.zz.trans b.zz
  fr := fun x o n e t => b.fr x o (fun q => (a.new x q).elim n fun z => z o e t) (a.fr x o n e t) t
  new := fun x q => by
    rcases b.new x q with h | h
    · exact a.new x h
    · by_cases hs : S x
      · exact .inl hs
      · exact .inr (a.free hs h)
  znew := fun x o q => by
    rcases b.znew x o q with h | h | h
    · exact a.znew x o h
    · rcases a.new x h with h | h
      · exact .inr (.inl h)
      · exact .inr (.inr h)
    · by_cases hs : S x
      · exact .inr (.inl hs)
      · exact .inr (.inr (a.free hs h))
theorem Wd.less (w : Wd Z H S) (m : ∀ a, S1 a → S a) : Wd Z H S1 := ⟨w.same, fun a x => w.sep a (m a x), fun a x => w.own a (m a x), w.tabs⟩
/-- a part of what is owned is put aside -/
theorem Step.less (a : Step Z H S Z1 H1 S1) (m : ∀ a, S2 a → S1 a) : Step Z H S Z1 H1 S2 := ⟨a.wd.less m, a.zz, a.fr, fun x q => a.new x (m x q), a.znew⟩
/-- a step of a part is a step of the whole: T is put aside -/
theorem Step.frame (a : Step Z H S Z1 H1 S1) (w : Wd Z H (fun x => S x ∨ T x)) (dj : ∀ x, S x → T x → False) : Step Z H (fun x => S x ∨ T x) Z1 H1 (fun x => S1 x ∨ T x) where
  wd := ⟨a.wd.same, fun x q => q.elim (a.wd.sep x) fun t => by
      cases e : Z1 x with
      | none => rfl
      | some o =>
        rcases a.znew x o e with h | h | h
        · rw [w.sep x (.inr t)] at h; cases h
        · exact (dj x h t).elim
        · exact (w.live x (.inr t) h).elim, fun x q => q.elim (a.wd.own x) fun t => by
      obtain ⟨o, e, n⟩ := w.own x (.inr t)
      exact ⟨o, a.fr x o (fun h => dj x h t) e n.1, n⟩, a.wd.tabs⟩
  zz := a.zz
  fr := fun x o n e => a.fr x o (fun q => n (.inl q)) e
  new := fun x q => q.elim (fun h => (a.new x h).elim (fun z => .inl (.inl z)) .inr) fun t => .inl (.inr t)
  znew := fun x o e => (a.znew x o e).elim .inl fun h => h.elim (fun z => .inr (.inl (.inl z))) fun z => .inr (.inr z)
theorem Step.apart (a : Step Z H S Z1 H1 S1) (w : ∀ x, T x → ¬ Fre H x) (dj : ∀ x, S x → T x → False) : ∀ x, S1 x → T x → False := fun x q t => (a.new x q).elim (fun h => dj x h t) fun h => w x t h
/-- what is put aside stays -/
theorem Step.stay {K : PySem.W.Frag} {d : D} {v : V} (a : Step Z H S Z1 H1 S1) (dj : ∀ x, S x → T x → False) (r : Rep K Z H d v T) : Rep K Z1 H1 d v T := r.mv a.zz (fun x o t e n => a.fr x o (fun h => dj x h t) e n) fun _ x => x
theorem Step.stayL {K : PySem.W.Frag} {ds : List D} {vs : List V} (a : Step Z H S Z1 H1 S1) (dj : ∀ x, S x → T x → False) (r : RepL K Z H ds vs T) : RepL K Z1 H1 ds vs T := r.mv a.zz (fun x o t e n => a.fr x o (fun h => dj x h t) e n) fun _ x => x
theorem Step.stayE {K : PySem.W.Frag} {ρ : Env} {σ : Sl} (a : Step Z H S Z1 H1 S1) (dj : ∀ x, S x → T x → False) (r : EnvR K Z H ρ σ T) : EnvR K Z1 H1 ρ σ T := r.mv a.zz (fun x o t e n => a.fr x o (fun h => dj x h t) e n) fun _ x => x
/-- a new object, owned -/
theorem Step.alloc {p : Addr} {o : HO} (w : Wd Z H S) (n : H p = none) (hn : NW o := by constructor <;> (intro ps e; cases e)) : Step Z H S Z (upd H p o) (fun a => S a ∨ a = p) where
  wd := ⟨⟨fun a u e t => by rw [upd_ne (ne_of_none (w.same.get a u e t) n)]; exact w.same.get a u e t⟩, fun a q => q.elim (w.sep a) fun e => by
      subst e
      cases e : Z a with
      | none => rfl
      | some u =>
        rcases nt_or u with ⟨ps, rfl⟩ | t
        · obtain ⟨ps', h1⟩ := w.tabs.isT e
          rw [n] at h1
          cases h1
        · exact absurd ((w.same.get a u e t).symm.trans n) (fun z => nomatch z), fun a q => by
      by_cases h : a = p
      · subst h; exact ⟨o, upd_same, hn⟩
      · obtain ⟨u, e, t⟩ := w.own a (q.resolve_right h)
        exact ⟨u, by rw [upd_ne h]; exact e, t⟩, w.tabs.ext (fun _ _ e => e) (Same.refl Z) fun b u e _ => by rw [upd_ne (ne_of_none e n)]; exact e⟩
  zz := Same.refl Z
  fr := fun a u _ e _ => by rw [upd_ne (ne_of_none e n)]; exact e
  new := fun a q => q.elim .inl fun h => by subst h; exact .inr (Fre.of n)
  znew := fun _ _ e => .inl e
theorem Wd.zfree {p : Addr} (w : Wd Z H S) (n : H p = none) : Z p = none := by
  cases e : Z p with
  | none => rfl
  | some u =>
    rcases nt_or u with ⟨ps, rfl⟩ | t
    · obtain ⟨ps', h1⟩ := w.tabs.isT e
      rw [n] at h1
      cases h1
    · exact absurd ((w.same.get p u e t).symm.trans n) (fun z => nomatch z)
/-- a new object, frozen -/
theorem Step.allocZ {p : Addr} {o : HO} (w : Wd Z H S) (n : H p = none) (hn : NT o := by intro ps e; cases e) : Step Z H S (upd Z p o) (upd H p o) S := by
  have nz : Z p = none := w.zfree n
  exact {
    wd := ⟨⟨fun a u e t => by
      by_cases h : a = p
      · subst h; rw [upd_same] at e ⊢; exact e
      · rw [upd_ne h] at e ⊢; exact w.same.get a u e t⟩, fun a s => by
      have h : a ≠ p := fun h => by subst h; exact w.dom _ s n
      rw [upd_ne h]; exact w.sep a s, fun a s => by
      have h : a ≠ p := fun h => by subst h; exact w.dom _ s n
      rw [upd_ne h]; exact w.own a s, w.tabs.ext (fun P ps e => by
      by_cases h : P = p
      · subst h; rw [upd_same] at e; cases e; exact absurd rfl (hn ps)
      · rw [upd_ne h] at e; exact e) (fun a u e => by rw [upd_ne (ne_of_none e nz)]; exact e) fun b u e _ => by rw [upd_ne (ne_of_none e n)]; exact e⟩
    zz := fun a u e => by rw [upd_ne (ne_of_none e nz)]; exact e
    fr := fun a u _ e _ => by rw [upd_ne (ne_of_none e n)]; exact e
    new := fun a q => .inl q
    znew := fun a u e => by
      by_cases h : a = p
      · subst h; exact .inr (.inr (Fre.of n))
      · rw [upd_ne h] at e; exact .inl e }
/-- an owned object is written -/
theorem Step.write {p : Addr} {o : HO} (w : Wd Z H S) (s : S p) (hn : NW o := by constructor <;> (intro ps e; cases e)) : Step Z H S Z (upd H p o) S where
  wd := ⟨⟨fun a u e t => by
      have h : a ≠ p := fun h => by subst h; rw [w.sep _ s] at e; cases e
      rw [upd_ne h]; exact w.same.get a u e t⟩, w.sep, fun a s' => by
      by_cases h : a = p
      · subst h; exact ⟨o, upd_same, hn⟩
      · rw [upd_ne h]; exact w.own a s', w.tabs.ext (fun _ _ e => e) (Same.refl Z) fun b u e hu => by
      have h : b ≠ p := fun h => by
        subst h
        obtain ⟨o', e', n1, n2⟩ := w.own b s
        rw [e] at e'
        cases e'
        rcases hu with ⟨ps, rfl⟩ | ⟨φ, rfl⟩
        · exact n1 ps rfl
        · exact n2 φ rfl
      rw [upd_ne h]; exact e⟩
  zz := Same.refl Z
  fr := fun a u n e _ => by rw [upd_ne fun h => n (by subst h; exact s)]; exact e
  new := fun a q => .inl q
  znew := fun _ _ e => .inl e
/-- a part is frozen -/
theorem Step.freeze (w : Wd Z H S) (m : ∀ a, T a → S a) (m2 : ∀ a, S1 a → S a) (dj : ∀ a, S1 a → T a → False) : Step Z H S (thaw Z H T) H S1 where
  wd := ⟨thaw_le w.same, fun a s => by rw [thaw_out fun t => dj a s t]; exact w.sep a (m2 a s), fun a s => w.own a (m2 a s), w.tabs.ext (fun P ps e => by
      by_cases h : T P
      · rw [thaw_in h] at e
        obtain ⟨o, e2, n⟩ := w.own P (m P h)
        rw [e] at e2
        cases e2
        exact absurd rfl (n.1 ps)
      · rw [thaw_out h] at e; exact e) (thaw_same fun a t => w.sep a (m a t)) fun _ _ e _ => e⟩
  zz := thaw_same fun a t => w.sep a (m a t)
  fr := fun _ _ _ e _ => e
  new := fun a s => .inl (m2 a s)
  znew := fun a o e => by
    by_cases h : T a
    · exact .inr (.inl (m a h))
    · rw [thaw_out h] at e; exact .inl e
end
end Pm
namespace Pm
open PySem PySem.Spec PyProof.Rows L2
structure XD where
  cls : Str
  fs : List (Str × D)
inductive Res (α : Type) where
  | stuck | ok (a : α) (ρ : Env) | exc (x : XD) (ρ : Env)
abbrev M (α : Type) := Env → Res α
/-- what an expression gives: data of its own, or what stands in a slot -/
inductive EV where
  | val (d : D) | ref (i : Nat)
inductive Fl where
  | nx | bk | ct | rt (d : D)
def ret {α : Type} (a : α) : M α := fun ρ => .ok a ρ
def bnd {α β : Type} (m : M α) (f : α → M β) : M β := fun ρ => match m ρ with
  | .stuck => .stuck
  | .ok a ρ' => f a ρ'
  | .exc x ρ' => .exc x ρ'
def peek1 (ρ : Env) : EV → Option D
  | .val d => some d
  | .ref i => ρ.getD i none
def peeks (ρ : Env) : List EV → Option (List D)
  | [] => some []
  | e :: es => match peek1 ρ e, peeks ρ es with
    | some d, some ds => some (d :: ds)
    | _, _ => none
/-- to take what an expression gave for keeps -/
def use1 : EV → M D
  | .val d => fun ρ => .ok d ρ
  | .ref i => fun ρ => match ρ.getD i none with
    | some d => .ok d.frz (ρ.set i (some d.frz))
    | none => .stuck
def useL : List EV → M (List D)
  | [] => ret []
  | e :: es => bnd (use1 e) fun d => bnd (useL es) fun ds => ret (d :: ds)
section
variable (K : PySem.W.Frag) (mg : Str → Option Value)
def EVR (Z H : Hp) (σ : Sl) : EV → V → Fp → Prop
  | .val d, v, S => Rep K Z H d v S
  | .ref i, v, _ => σ[i]? = some (some v)
def EVsR (Z H : Hp) (σ : Sl) : List EV → List V → Fp → Prop
  | [], [], _ => True
  | e :: es, v :: vs, S => ∃ S1 S2 : Fp, (∀ a, S1 a → S a) ∧ (∀ a, S2 a → S a) ∧ (∀ a, S1 a → S2 a → False) ∧ EVR K Z H σ e v S1 ∧ EVsR Z H σ es vs S2
  | _, _, _ => False
def ExcR (Z : Hp) (x : XD) (cls : Value) (dd : Option Addr) : Prop :=
  ∃ C, mg x.cls = some (.ref C) ∧ reg K x.cls = some C ∧ cls = .ref C ∧ ((dd = none ∧ x.fs = []) ∨ ∃ d vs, dd = some d ∧ Z d = some (.xd ((x.fs.map (·.1)).zip vs)) ∧ RepL K Z Z (x.fs.map (·.2)) vs Fp0)
/-- what is asked of an exception -/
def XOut (W : WX) (Z H : Hp) (S : Fp) (σ : Sl) (x : XD) (ρ' : Env) : Prop :=
  ∀ cls dd Z' H' S', Step Z H S Z' H' S' → EnvR K Z' H' ρ' σ S' → ExcR K mg Z' x cls dd → W cls dd σ H'
def OutA (W : WX) (Z H : Hp) (S : Fp) (σ : Sl) (Q : List V → Hp → Prop) : Res (List EV) → Prop
  | .stuck => False
  | .ok es ρ' => ∀ vs Z' H' S' Sd, Step Z H S Z' H' (fun a => S' a ∨ Sd a) → (∀ a, S' a → Sd a → False) → EnvR K Z' H' ρ' σ S' → EVsR K Z' H' σ es vs Sd → Q vs H'
  | .exc x ρ' => XOut K mg W Z H S σ x ρ'
def OutE (W : WX) (Z H : Hp) (S : Fp) (σ : Sl) (Q : VK) : Res EV → Prop
  | .stuck => False
  | .ok e ρ' => ∀ v Z' H' S' Sd, Step Z H S Z' H' (fun a => S' a ∨ Sd a) → (∀ a, S' a → Sd a → False) → EnvR K Z' H' ρ' σ S' → EVR K Z' H' σ e v Sd → Q v H'
  | .exc x ρ' => XOut K mg W Z H S σ x ρ'
def OutT (W : WX) (Z H : Hp) (S : Fp) (σ : Sl) (Q : Bool → Hp → Prop) : Res Bool → Prop
  | .stuck => False
  | .ok b ρ' => ∀ Z' H' S', Step Z H S Z' H' S' → EnvR K Z' H' ρ' σ S' → Q b H'
  | .exc x ρ' => XOut K mg W Z H S σ x ρ'
def FlR (Z H : Hp) : Fl → V → Fp → Prop
  | .rt d, v, S => Rep K Z H d v S
  | _, _, _ => True
def FlGo (D : Ends) (σ : Sl) (v : V) (H : Hp) : Fl → Prop
  | .nx => D.nx σ H
  | .bk => D.bk σ H
  | .ct => D.ct σ H
  | .rt _ => D.rt v H
/-- slots that are not stored (A tells which may be) -/
def Keep (A : Nat → Bool) (σ σ' : Sl) : Prop := (∀ j : Nat, A j = false → σ'[j]? = σ[j]?) ∧ σ'.length = σ.length
def OutS (W : WX) (A : Nat → Bool) (σ : Sl) (Z H : Hp) (S : Fp) (D : Ends) : Res Fl → Prop
  | .stuck => False
  | .ok fl ρ' => ∀ σ' v Z' H' S' Sd, Keep A σ σ' → Step Z H S Z' H' (fun a => S' a ∨ Sd a) → (∀ a, S' a → Sd a → False) → EnvR K Z' H' ρ' σ' S' → FlR K Z' H' fl v Sd → FlGo D σ' v H' fl
  | .exc x ρ' => ∀ σ', Keep A σ σ' → XOut K mg W Z H S σ' x ρ'
def tE (W : WX) (f : M EV) : TE := fun σ H Q => ∃ Z ρ S, Wd Z H S ∧ EnvR K Z H ρ σ S ∧ OutE K mg W Z H S σ Q (f ρ)
def tA (W : WX) (f : M (List EV)) : TA := fun σ H Q => ∃ Z ρ S, Wd Z H S ∧ EnvR K Z H ρ σ S ∧ OutA K mg W Z H S σ Q (f ρ)
def tT (W : WX) (f : M Bool) : TT := fun σ H Q => ∃ Z ρ S, Wd Z H S ∧ EnvR K Z H ρ σ S ∧ OutT K mg W Z H S σ Q (f ρ)
def tS (W : WX) (A : Nat → Bool) (f : M Fl) : TS := fun D σ H => ∃ Z ρ S, Wd Z H S ∧ EnvR K Z H ρ σ S ∧ OutS K mg W A σ Z H S D (f ρ)
end
theorem Keep.refl {A : Nat → Bool} (σ : Sl) : Keep A σ σ := ⟨fun _ _ => rfl, rfl⟩
theorem Keep.trans {A : Nat → Bool} {σ σ1 σ2 : Sl} (a : Keep A σ σ1) (b : Keep A σ1 σ2) : Keep A σ σ2 := ⟨fun j h => (b.1 j h).trans (a.1 j h), b.2.trans a.2⟩
section
variable {X : Cx} {e : Expr} {es : List Expr} {st : Stmt} {sts : List Stmt}
theorem PE.of {t t' : TE} (h : PE X e t) (i : ∀ σ H Q, t' σ H Q → t σ H Q) : PE X e t' := ⟨fun p s σ H Q I q => h.run p s σ H Q I (i σ H Q q)⟩
theorem PA.of {t t' : TA} (h : PA X es t) (i : ∀ σ H Q, t' σ H Q → t σ H Q) : PA X es t' := ⟨fun o p s σ H Q I q => h.run o p s σ H Q I (i σ H Q q)⟩
theorem PT.of {t t' : TT} (h : PT X e t) (i : ∀ σ H Q, t' σ H Q → t σ H Q) : PT X e t' := ⟨fun p s σ H Q I q => h.run p s σ H Q I (i σ H Q q)⟩
theorem PW.of {t t' : TT} (h : PW X e t) (i : ∀ σ H Q, t' σ H Q → t σ H Q) : PW X e t' := ⟨fun o p s σ H Q I q => h.run o p s σ H Q I (i σ H Q q)⟩
theorem PS.of {t t' : TS} (h : PS X st t) (i : ∀ D σ H, t' D σ H → t D σ H) : PS X st t' := ⟨fun p s σ H D I q => h.run p s σ H D I (i D σ H q)⟩
theorem PSs.of {t t' : TS} (h : PSs X sts t) (i : ∀ D σ H, t' D σ H → t D σ H) : PSs X sts t' := ⟨fun p s σ H D I q => h.run p s σ H D I (i D σ H q)⟩
end
section
variable {K : PySem.W.Frag} {mg : Str → Option Value} {W : WX} {Z H : Hp} {S : Fp} {σ : Sl}
theorem XOut.behind {Z1 H1 : Hp} {S1 Sa : Fp} {x : XD} {ρ' : Env} (st : Step Z H S Z1 H1 (fun a => S1 a ∨ Sa a)) (dj : ∀ a, S1 a → Sa a → False) (h : XOut K mg W Z H S σ x ρ') : XOut K mg W Z1 H1 S1 σ x ρ' :=
  fun cls dd Z' H' S' st' er xr => h cls dd Z' H' S' ((st.trans (st'.frame st.wd dj)).less fun a s => .inl s) er xr
def aNil : M (List EV) := ret []
def aCons (f : M EV) (fs : M (List EV)) : M (List EV) := bnd f fun e => bnd fs fun es => ret (e :: es)
theorem EVR.stay {Z' H' : Hp} {S1 Sa : Fp} {e : EV} {v : V} (h : EVR K Z H σ e v Sa) (st : Step Z H S1 Z' H' S) (dj : ∀ a, S1 a → Sa a → False) : EVR K Z' H' σ e v Sa := by
  cases e with
  | val d => exact st.stay dj h
  | ref i => exact h
theorem EVR.more {Sa Sb : Fp} {e : EV} {v : V} (h : EVR K Z H σ e v Sa) (m : ∀ a, Sa a → Sb a) : EVR K Z H σ e v Sb := by
  cases e with
  | val d => exact h.move (Same.refl Z) (fun _ _ _ x => x) m
  | ref i => exact h
theorem Wd.nil {Z H : Hp} {S : Fp} (w : Wd Z H S) : Step Z H S Z H (fun a => S a ∨ Fp0 a) := (Step.refl w).less fun a x => x.elim id False.elim
theorem tA_nil {Q : List V → Hp → Prop} (h : tA K mg W aNil σ H Q) : tNil σ H Q := by
  obtain ⟨Z, ρ, S, w, er, o⟩ := h
  exact o [] Z H S Fp0 w.nil (fun _ _ x => x) er trivial
theorem tA_cons {f : M EV} {fs : M (List EV)} {Q : List V → Hp → Prop} (h : tA K mg W (aCons f fs) σ H Q) : tCons (tE K mg W f) (tA K mg W fs) σ H Q := by
  obtain ⟨Z, ρ, S, w, er, o⟩ := h
  refine ⟨Z, ρ, S, w, er, ?_⟩
  simp only [aCons, bnd] at o
  cases e1 : f ρ with
  | stuck => rw [e1] at o; exact o
  | exc x ρ1 => rw [e1] at o; exact o
  | ok ev ρ1 =>
    rw [e1] at o
    intro v Z1 H1 S1 Sa st1 dj1 er1 r1
    refine ⟨Z1, ρ1, S1, st1.wd.less fun a x => .inl x, er1, ?_⟩
    cases e2 : fs ρ1 with
    | stuck => simp only [e2] at o; exact o
    | exc x ρ2 => simp only [e2] at o; exact o.behind st1 dj1
    | ok es ρ2 =>
      simp only [e2, ret] at o
      intro vs Z2 H2 S2 Sb st2 dj2 er2 r2
      have ap := st2.apart (T := Sa) (fun a x => st1.wd.live a (.inr x)) dj1
      refine o (v :: vs) Z2 H2 S2 (fun a => Sa a ∨ Sb a) ((st1.trans (st2.frame st1.wd dj1)).less fun a x => ?_) (fun a x y => y.elim (ap a (.inl x)) (dj2 a x)) er2 ?_
      · rcases x with x | x | x
        · exact .inl (.inl x)
        · exact .inr x
        · exact .inl (.inr x)
      · exact ⟨Sa, Sb, fun a x => .inl x, fun a x => .inr x, fun a x y => ap a (.inr y) x, r1.stay st2 dj1, r2⟩
theorem pa_n {X : Cx} : PA X [] (tA X.K X.mg W aNil) := PA.of pa_nil fun _ _ _ => tA_nil
theorem pa_c {X : Cx} {e : Expr} {es : List Expr} {f : M EV} {fs : M (List EV)} (h : PE X e (tE X.K X.mg W f)) (hs : PA X es (tA X.K X.mg W fs)) (st : starEach (e :: es) X.env = (false, eval e X.env) :: starEach es X.env) :
    PA X (e :: es) (tA X.K X.mg W (aCons f fs)) := PA.of (pa_cons h hs st) fun _ _ _ => tA_cons
theorem peek1_rep {ρ : Env} {e : EV} {v : V} {d : D} {Sa : Fp} (er : EnvR K Z H ρ σ S) (r : EVR K Z H σ e v Sa) (p : peek1 ρ e = some d) : Rep K Z H d v (fun a => S a ∨ Sa a) := by
  cases e with
  | val d' =>
    simp only [peek1, Option.some.injEq] at p
    subst p
    exact Rep.move r (Same.refl Z) (fun _ _ _ x => x) fun a x => .inr x
  | ref i =>
    have q : ρ[i]? = some (some d) := by
      simp only [peek1, List.getD_eq_getElem?_getD] at p
      cases h : ρ[i]? with
      | none => rw [h] at p; cases p
      | some o => rw [h] at p; simpa using p
    obtain ⟨u, S1, S2, hu, s1, s2, dj, ru, _⟩ := er.take q
    have e : v = u := by
      have r' : σ[i]? = some (some v) := r
      rw [hu] at r'
      simpa using r'.symm
    subst e
    exact ru.move (Same.refl Z) (fun _ _ _ x => x) fun a x => .inl (s1 a x)
/-- data borne one by one, all within S -/
def RepB (K : PySem.W.Frag) (Z H : Hp) (S : Fp) : List D → List V → Prop
  | [], [] => True
  | d :: ds, v :: vs => Rep K Z H d v S ∧ RepB K Z H S ds vs
  | _, _ => False
theorem RepB.more {S' : Fp} (m : ∀ a, S a → S' a) : ∀ {ds : List D} {vs : List V}, RepB K Z H S ds vs → RepB K Z H S' ds vs
  | [], [], _ => trivial
  | [], _ :: _, h => h.elim
  | _ :: _, [], h => h.elim
  | _ :: _, _ :: _, h => ⟨h.1.move (Same.refl Z) (fun _ _ _ x => x) m, RepB.more m h.2⟩
theorem peeks_rep {ρ : Env} (er : EnvR K Z H ρ σ S) : ∀ {es : List EV} {vs : List V} {ds : List D} {Sa : Fp}, EVsR K Z H σ es vs Sa → peeks ρ es = some ds → RepB K Z H (fun a => S a ∨ Sa a) ds vs
  | [], [], ds, _, _, p => by
    simp only [peeks, Option.some.injEq] at p
    subst p
    trivial
  | [], _ :: _, _, _, h, _ => h.elim
  | _ :: _, [], _, _, h, _ => h.elim
  | e :: es, v :: vs, ds, Sa, h, p => by
    obtain ⟨S1, S2, s1, s2, dj, r, q⟩ := h
    simp only [peeks] at p
    split at p
    · rename_i d ds' h1 h2
      simp only [Option.some.injEq] at p
      subst p
      refine ⟨(peek1_rep er r h1).move (Same.refl Z) (fun _ _ _ x => x) fun a x => x.elim .inl fun y => .inr (s1 a y), ?_⟩
      exact (peeks_rep er q h2).more fun a x => x.elim .inl fun y => .inr (s2 a y)
    · cases p
/-- an operation upon values and the function of data that it is -/
def Snd (X : Cx) (r : List V → Hp → VK → Prop) (g : List D → Option D) : Prop :=
  ∀ (Z H : Hp) (S : Fp) (ds : List D) (vs : List V) (d : D) (Q : VK), Wd Z H S → RepB X.K Z H S ds vs → g ds = some d →
    (∀ v Z' H' Sd, Step Z H S Z' H' (fun a => S a ∨ Sd a) → Same H H' → (∀ a, S a → Sd a → False) → Rep X.K Z' H' d v Sd → Q v H') → r vs H Q
def app (g : List D → Option D) (fs : M (List EV)) : M EV := bnd fs fun es => fun ρ => match peeks ρ es with
  | some ds => match g ds with
    | some d => .ok (.val d) ρ
    | none => .stuck
  | none => .stuck
theorem tE_app {X : Cx} {r : List V → Hp → VK → Prop} {g : List D → Option D} {fs : M (List EV)} {Q : VK} (hs : Snd X r g) (h : tE X.K X.mg W (app g fs) σ H Q) : tA X.K X.mg W fs σ H fun vs H1 => r vs H1 Q := by
  obtain ⟨Z, ρ, S, w, er, o⟩ := h
  refine ⟨Z, ρ, S, w, er, ?_⟩
  simp only [app, bnd] at o
  cases e1 : fs ρ with
  | stuck => rw [e1] at o; exact o
  | exc x ρ1 => rw [e1] at o; exact o
  | ok es ρ1 =>
    simp only [e1] at o
    intro vs Z1 H1 S1 Sa st1 dj1 er1 r1
    cases e2 : peeks ρ1 es with
    | none => simp only [e2] at o; exact o.elim
    | some ds =>
      cases e3 : g ds with
      | none => simp only [e2, e3] at o; exact o.elim
      | some d =>
        simp only [e2, e3] at o
        refine hs Z1 H1 _ ds vs d Q st1.wd (peeks_rep er1 r1 e2) e3 fun v Z2 H2 Sd st2 sm dj2 rd => ?_
        exact o v Z2 H2 S1 Sd ((st1.trans st2).less fun a x => x.elim (fun y => .inl (.inl y)) .inr) (fun a x y => dj2 a (.inl x) y) (er1.move st2.zz (fun a ob _ e => sm a ob e) fun _ x => x) rd
def loc (i : Nat) : M EV := fun ρ => match ρ.getD i none with
  | some _ => .ok (.ref i) ρ
  | none => .stuck
def con (d : D) : M EV := ret (.val d)
theorem getD_some {ρ : Env} {i : Nat} {d : D} (h : ρ.getD i none = some d) : ρ[i]? = some (some d) := by
  rw [List.getD_eq_getElem?_getD] at h
  cases e : ρ[i]? with
  | none => rw [e] at h; cases h
  | some o => rw [e] at h; simpa using h
theorem tE_loc {i : Nat} {Q : VK} (h : tE K mg W (loc i) σ H Q) : tVar i σ H Q := by
  obtain ⟨Z, ρ, S, w, er, o⟩ := h
  simp only [loc] at o
  cases e : ρ.getD i none with
  | none => simp only [e] at o; exact o.elim
  | some d =>
    simp only [e] at o
    obtain ⟨v, S1, S2, hv, _⟩ := er.take (getD_some e)
    exact ⟨v, hv, o v Z H S Fp0 w.nil (fun _ _ x => x) er hv⟩
theorem pe_loc {X : Cx} {i : Nat} {x : Str} {pos : Pos} (hN : X.N[i]? = some x) (hv : Vis X.env.scope x) (hd : (x == ("__debug__" : Str)) = false) (hcd : (x == ("__classdict__" : Str)) = false) : PE X (.Name x pos) (tE X.K X.mg W (loc i)) :=
  PE.of (pe_var hN hv hd hcd) fun _ _ _ => tE_loc
theorem tE_con {d : D} {v : V} {Q : VK} (r : ∀ Z H : Hp, Rep K Z H d v Fp0) (h : tE K mg W (con d) σ H Q) : tC v σ H Q := by
  obtain ⟨Z, ρ, S, w, er, o⟩ := h
  exact o v Z H S Fp0 w.nil (fun _ _ x => x) er (r Z H)
theorem use1_ok {ρ ρ' : Env} {e : EV} {v : V} {d : D} {Sa T : Fp} (w : Wd Z H (fun a => (S a ∨ Sa a) ∨ T a)) (dj : ∀ a, S a → Sa a → False) (djT : ∀ a, S a ∨ Sa a → T a → False) (er : EnvR K Z H ρ σ S) (r : EVR K Z H σ e v Sa) (u : use1 e ρ = .ok d ρ') :
    ∃ Z' S', Step Z H (fun a => (S a ∨ Sa a) ∨ T a) Z' H (fun a => (S' a ∨ Sa a) ∨ T a) ∧ (∀ a, S' a → S a) ∧ EnvR K Z' H ρ' σ S' ∧ Rep K Z' H d v Sa := by
  cases e with
  | val d' =>
    simp only [use1, Res.ok.injEq] at u
    obtain ⟨rfl, rfl⟩ := u
    exact ⟨Z, S, Step.refl w, fun _ x => x, er, r⟩
  | ref i =>
    simp only [use1] at u
    cases e : ρ.getD i none with
    | none => rw [e] at u; cases u
    | some d0 =>
      rw [e] at u
      simp only [Res.ok.injEq] at u
      obtain ⟨rfl, rfl⟩ := u
      obtain ⟨v0, S1, S2, hv, s1, s2, dj2, r0, er0⟩ := er.take (getD_some e)
      have ev : v0 = v := by
        have r' : σ[i]? = some (some v) := r
        rw [hv] at r'
        simpa using r'
      subst ev
      have stp : Step Z H (fun a => (S a ∨ Sa a) ∨ T a) (thaw Z H S1) H (fun a => (S2 a ∨ Sa a) ∨ T a) := Step.freeze w (fun a x => .inl (.inl (s1 a x))) (fun a x => x.elim (fun y => .inl (y.elim (fun z => .inl (s2 a z)) .inr)) .inr) fun a x y => x.elim (fun z => z.elim (fun t => dj2 a y t) (fun t => dj a (s1 a y) t)) fun t => djT a (.inl (s1 a y)) t
      have rf : Rep K (thaw Z H S1) H d0.frz v0 Fp0 := Rep.frz r0 (fun a x => w.sep a (.inl (.inl (s1 a x)))) fun _ x => x
      refine ⟨thaw Z H S1, S2, stp, s2, ?_, rf.move (Same.refl _) (fun _ _ _ x => x) fun _ x => x.elim⟩
      have hi : i < ρ.length := (List.getElem?_eq_some_iff.mp (getD_some e)).1
      have q := EnvR.put (S := S2) (S1 := Fp0) (v := v0) (er0.move stp.zz (fun _ _ _ x => x) fun _ x => x) hi rf (fun _ x => x.elim) (fun _ x => x) (fun _ x _ => x)
      have es : σ.set i (some v0) = σ := by
        obtain ⟨hl, e1⟩ := List.getElem?_eq_some_iff.mp hv
        rw [← e1, List.set_getElem_self]
      rw [es] at q
      exact q
theorem EVsR.more : ∀ {es : List EV} {vs : List V} {B C : Fp}, EVsR K Z H σ es vs B → (∀ a, B a → C a) → EVsR K Z H σ es vs C
  | [], [], _, _, _, _ => trivial
  | [], _ :: _, _, _, h, _ => h.elim
  | _ :: _, [], _, _, h, _ => h.elim
  | _ :: _, _ :: _, _, _, ⟨B1, B2, b1, b2, bj, r, q⟩, m => ⟨B1, B2, fun a x => m a (b1 a x), fun a x => m a (b2 a x), bj, r, q⟩
theorem useL_ok : ∀ {es : List EV} {vs : List V} {ds : List D} {ρ ρ' : Env} {Z : Hp} {S Sa T : Fp}, Wd Z H (fun a => (S a ∨ Sa a) ∨ T a) → (∀ a, S a → Sa a → False) → (∀ a, S a ∨ Sa a → T a → False) → EnvR K Z H ρ σ S → EVsR K Z H σ es vs Sa → useL es ρ = .ok ds ρ' →
    ∃ Z' S', Step Z H (fun a => (S a ∨ Sa a) ∨ T a) Z' H (fun a => (S' a ∨ Sa a) ∨ T a) ∧ (∀ a, S' a → S a) ∧ EnvR K Z' H ρ' σ S' ∧ RepL K Z' H ds vs Sa
  | [], [], ds, ρ, ρ', Z, S, Sa, T, w, _, _, er, _, u => by
    simp only [useL, ret, Res.ok.injEq] at u
    obtain ⟨rfl, rfl⟩ := u
    exact ⟨Z, S, Step.refl w, fun _ x => x, er, trivial⟩
  | [], _ :: _, _, _, _, _, _, _, _, _, _, _, _, h, _ => h.elim
  | _ :: _, [], _, _, _, _, _, _, _, _, _, _, _, h, _ => h.elim
  | e :: es, v :: vs, ds, ρ, ρ', Z, S, Sa, T, w, dj, djT, er, h, u => by
    obtain ⟨A1, A0, a1, a0, aj0, r, q0⟩ := h
    obtain ⟨A2, hA2⟩ : ∃ A2 : Fp, A2 = fun a => Sa a ∧ ¬ A1 a := ⟨_, rfl⟩
    have q : EVsR K Z H σ es vs A2 := q0.more fun a x => by rw [hA2]; exact ⟨a0 a x, fun y => aj0 a y x⟩
    have a2 : ∀ a, A2 a → Sa a := fun a x => by rw [hA2] at x; exact x.1
    have aj : ∀ a, A1 a → A2 a → False := fun a x y => by rw [hA2] at y; exact y.2 x
    have a12 : ∀ a, Sa a → A1 a ∨ A2 a := fun a x => by
      by_cases h : A1 a
      · exact .inl h
      · exact .inr (by rw [hA2]; exact ⟨x, h⟩)
    simp only [useL, bnd] at u
    cases u1 : use1 e ρ with
    | stuck => rw [u1] at u; cases u
    | exc x ρ1 => rw [u1] at u; cases u
    | ok d ρ1 =>
      simp only [u1] at u
      cases u2 : useL es ρ1 with
      | stuck => rw [u2] at u; cases u
      | exc x ρ2 => rw [u2] at u; cases u
      | ok ds' ρ2 =>
        simp only [u2, ret, Res.ok.injEq] at u
        obtain ⟨rfl, rfl⟩ := u
        have w1 : Wd Z H (fun a => (S a ∨ A1 a) ∨ (A2 a ∨ T a)) := w.less fun a x => x.elim (fun y => .inl (y.elim .inl fun z => .inr (a1 a z))) fun y => y.elim (fun z => .inl (.inr (a2 a z))) .inr
        obtain ⟨Z1, S1, st1, m1, er1, r1⟩ := use1_ok w1 (fun a x y => dj a x (a1 a y)) (fun a x y => y.elim (fun z => x.elim (fun t => dj a t (a2 a z)) fun t => aj a t z) fun z => djT a (x.elim .inl fun t => .inr (a1 a t)) z) er r u1
        have w2 : Wd Z1 H (fun a => (S1 a ∨ A2 a) ∨ (A1 a ∨ T a)) := st1.wd.less fun a x => x.elim (fun y => y.elim (fun z => .inl (.inl z)) fun z => .inr (.inl z)) fun y => y.elim (fun z => .inl (.inr z)) fun z => .inr (.inr z)
        have q1 : EVsR K Z1 H σ es vs A2 := by
          have stay : ∀ {es : List EV} {vs : List V} {B : Fp}, EVsR K Z H σ es vs B → EVsR K Z1 H σ es vs B := by
            intro es
            induction es with
            | nil => intro vs B h; cases vs with
              | nil => trivial
              | cons => exact h.elim
            | cons e es ih => intro vs B h; cases vs with
              | nil => exact h.elim
              | cons v vs =>
                obtain ⟨B1, B2, b1, b2, bj, r, q⟩ := h
                refine ⟨B1, B2, b1, b2, bj, ?_, ih q⟩
                cases e with
                | val d => exact Rep.move r st1.zz (fun _ _ _ x => x) fun _ x => x
                | ref i => exact r
          exact stay q
        obtain ⟨Z2, S2, st2, m2, er2, r2⟩ := useL_ok w2 (fun a x y => dj a (m1 a x) (a2 a y)) (fun a x y => y.elim (fun z => x.elim (fun t => dj a (m1 a t) (a1 a z)) fun t => aj a z t) fun z => djT a (x.elim (fun t => .inl (m1 a t)) fun t => .inr (a2 a t)) z) er1 q1 u2
        refine ⟨Z2, S2, ?_, fun a x => m1 a (m2 a x), er2, A1, A2, a1, a2, aj, r1.move st2.zz (fun _ _ _ x => x) fun _ x => x, r2⟩
        have st1' : Step Z H (fun a => (S a ∨ Sa a) ∨ T a) Z1 H (fun a => (S1 a ∨ A2 a) ∨ (A1 a ∨ T a)) := by
          have sub : ∀ a, ((S a ∨ A1 a) ∨ A2 a ∨ T a) → ((S a ∨ Sa a) ∨ T a) := fun a x => x.elim (fun y => .inl (y.elim .inl fun z => .inr (a1 a z))) fun y => y.elim (fun z => .inl (.inr (a2 a z))) .inr
          refine ⟨w2, st1.zz, fun a o n e => st1.fr a o (fun x => n (sub a x)) e, fun a x => (st1.new a ?_).elim (fun y => .inl ?_) .inr, fun a o e => (st1.znew a o e).elim .inl fun y => .inr (y.elim (fun z => .inl ?_) .inr)⟩
          · exact x.elim (fun y => y.elim (fun z => .inl (.inl z)) fun z => .inr (.inl z)) fun y => y.elim (fun z => .inl (.inr z)) fun z => .inr (.inr z)
          · exact y.elim (fun y => .inl (y.elim .inl fun z => .inr (a1 a z))) fun y => y.elim (fun z => .inl (.inr (a2 a z))) .inr
          · exact z.elim (fun y => .inl (y.elim .inl fun z => .inr (a1 a z))) fun y => y.elim (fun z => .inl (.inr (a2 a z))) .inr
        exact (st1'.trans st2).less fun a x => x.elim (fun y => y.elim (fun z => .inl (.inl z)) fun z => (a12 a z).elim (fun t => .inr (.inl t)) fun t => .inl (.inr t)) fun z => .inr (.inr z)
end
end Pm
namespace Pm
open PySem PySem.Spec PyProof.Rows L2
section
variable {K : PySem.W.Frag} {mg : Str → Option Value} {W : WX} {Z H : Hp} {S : Fp} {σ : Sl} {X : Cx} {A : Nat → Bool}
/-- lists and tuples have at most so many items -/
abbrev cap : Nat := 1000000
theorem cap_le {n : Nat} (h : n ≤ cap) : n ≤ sizeLine := Nat.le_trans h (by rw [sizeLine_eq]; decide)
def cellOf (vs : List V) : Kd → HO
  | .tup => .tup vs
  | _ => .lst vs
/-- a display -/
def disp (o : Bool) (k : Kd) (fs : M (List EV)) : M EV := bnd fs fun es => bnd (useL es) fun ds => fun ρ => if ds.length ≤ cap then .ok (.val (.node o k ds)) ρ else .stuck
theorem disp_of {o : Bool} {k : Kd} {fs : M (List EV)} {Q : VK} (h : tE K mg W (disp o k fs) σ H Q)
    (f : ∀ (vs : List V) (Z1 H1 : Hp) (S1 Sd : Fp) (ds : List D), Wd Z1 H1 (fun a => S1 a ∨ Sd a) → (∀ a, S1 a → Sd a → False) → RepL K Z1 H1 ds vs Sd → ds.length ≤ cap → ∀ p, H1 p = none →
      ∃ Z2 H2 Sp, Step Z1 H1 (fun a => S1 a ∨ Sd a) Z2 H2 (fun a => S1 a ∨ Sp a) ∧ (∀ a, S1 a → Sp a → False) ∧ (∀ a o, H1 a = some o → H2 a = some o) ∧ Rep K Z2 H2 (.node o k ds) (.ref p) Sp ∧ H2 = upd H1 p (cellOf vs k)) :
    tA K mg W fs σ H fun vs H1 => vs.length ≤ sizeLine ∧ ∀ p, H1 p = none → Q (.ref p) (upd H1 p (cellOf vs k)) := by
  obtain ⟨Z, ρ, S, w, er, o⟩ := h
  refine ⟨Z, ρ, S, w, er, ?_⟩
  simp only [disp, bnd] at o
  cases e1 : fs ρ with
  | stuck => rw [e1] at o; exact o
  | exc x ρ1 => rw [e1] at o; exact o
  | ok es ρ1 =>
    simp only [e1] at o
    intro vs Z1 H1 S1 Sa st1 dj1 er1 r1
    cases e2 : useL es ρ1 with
    | stuck => rw [e2] at o; exact o.elim
    | exc x ρ2 =>
      exfalso
      have no : ∀ (es : List EV) (ρ ρ2 : Env) (x : XD), useL es ρ ≠ .exc x ρ2 := by
        intro es
        induction es with
        | nil => intro ρ ρ2 x q; cases q
        | cons e es ih =>
          intro ρ ρ2 x q
          simp only [useL, bnd] at q
          cases u1 : use1 e ρ with
          | stuck => rw [u1] at q; cases q
          | exc y ρ3 =>
            cases e with
            | val d => simp only [use1] at u1; cases u1
            | ref i =>
              simp only [use1] at u1
              split at u1 <;> cases u1
          | ok d ρ3 =>
            simp only [u1] at q
            cases u2 : useL es ρ3 with
            | stuck => rw [u2] at q; cases q
            | exc y ρ4 => exact ih _ _ _ u2
            | ok ds ρ4 => simp only [u2, ret] at q; cases q
      exact no _ _ _ _ e2
    | ok ds ρ2 =>
      simp only [e2] at o
      by_cases hl : ds.length ≤ cap
      · rw [if_pos hl] at o
        have w1 : Wd Z1 H1 (fun a => (S1 a ∨ Sa a) ∨ Fp0 a) := st1.wd.less fun a x => x.elim id False.elim
        obtain ⟨Z2, S2, st2, m2, er2, r2⟩ := useL_ok w1 dj1 (fun _ _ x => x) er1 r1 e2
        have len := r2.length
        refine ⟨by rw [← len]; exact cap_le hl, fun p hp => ?_⟩
        have w2 : Wd Z2 H1 (fun a => S2 a ∨ Sa a) := st2.wd.less fun a x => .inl x
        obtain ⟨Z3, H3, Sp, st3, dj3, k3, r3, e3⟩ := f vs Z2 H1 S2 Sa ds w2 (fun a x y => dj1 a (m2 a x) y) r2 hl p hp
        rw [← e3]
        refine o (.ref p) Z3 H3 S2 Sp ?_ dj3 (er2.move st3.zz (fun a ob _ e => k3 a ob e) fun _ x => x) r3
        have st2' : Step Z1 H1 (fun a => S1 a ∨ Sa a) Z2 H1 (fun a => S2 a ∨ Sa a) := ⟨w2, st2.zz, fun a o n e _ => e, fun a x => .inl (x.elim (fun y => .inl (m2 a y)) .inr), fun a o e => (st2.znew a o e).elim .inl fun y => .inr (y.elim (fun z => z.elim .inl False.elim) .inr)⟩
        exact (st1.trans st2').trans st3
      · rw [if_neg hl] at o
        exact o.elim
theorem pe_T {es : List Expr} {fs : M (List EV)} {x1 : Nat} {pos : Pos} (h : PA X es (tA X.K X.mg W fs)) : PE X (.Tuple es x1 pos) (tE X.K X.mg W (disp false .tup fs)) :=
  PE.of (pe_tup h) fun σ H Q q => disp_of q fun vs Z1 H1 S1 Sd ds w dj r hl p hp =>
    ⟨upd Z1 p (.tup vs), upd H1 p (.tup vs), Sd, Step.allocZ w hp, dj, fun a o e => by rw [upd_ne (ne_of_none e hp)]; exact e,
      ⟨p, vs, rfl, SqT.of upd_same, r.move (Step.allocZ (o := .tup vs) w hp).zz (fun a o _ e => by rw [upd_ne (ne_of_none e hp)]; exact e) fun _ x => x⟩, rfl⟩
theorem pe_L {es : List Expr} {fs : M (List EV)} {pos : Pos} (h : PA X es (tA X.K X.mg W fs)) : PE X (.List es pos) (tE X.K X.mg W (disp true .lst fs)) :=
  PE.of (pe_lst h) fun σ H Q q => disp_of q fun vs Z1 H1 S1 Sd ds w dj r hl p hp =>
    ⟨Z1, upd H1 p (.lst vs), fun a => Sd a ∨ a = p, (Step.alloc w hp).less fun a x => x.elim (fun y => .inl (.inl y)) fun y => y.elim (fun z => .inl (.inr z)) .inr,
      fun a x y => y.elim (dj a x) fun z => w.dom a (.inl x) (by rw [z]; exact hp), fun a o e => by rw [upd_ne (ne_of_none e hp)]; exact e,
      ⟨p, vs, Sd, rfl, upd_same, .inr rfl, fun x => w.dom p (.inr x) hp, fun a x => .inl x, r.move (Same.refl Z1) (fun a o _ e => by rw [upd_ne (ne_of_none e hp)]; exact e) fun _ x => x⟩, rfl⟩
def tst (f : M EV) : M Bool := bnd f fun e => fun ρ => match peek1 ρ e with
  | some (.bl b) => .ok b ρ
  | _ => .stuck
theorem tT_tst {f : M EV} {Q : Bool → Hp → Prop} (h : tT K mg W (tst f) σ H Q) : tE K mg W f σ H fun x H1 => ∃ c, x = .bl c ∧ Q c H1 := by
  obtain ⟨Z, ρ, S, w, er, o⟩ := h
  refine ⟨Z, ρ, S, w, er, ?_⟩
  simp only [tst, bnd] at o
  cases e1 : f ρ with
  | stuck => rw [e1] at o; exact o
  | exc x ρ1 => rw [e1] at o; exact o
  | ok ev ρ1 =>
    simp only [e1] at o
    intro v Z1 H1 S1 Sa st1 dj1 er1 r1
    split at o
    · rename_i b hb
      have r := peek1_rep er1 r1 hb
      exact ⟨b, r, o Z1 H1 S1 (st1.less fun a x => .inl x) er1⟩
    · exact o.elim
theorem pt_v {e : Expr} {f : M EV} (h : PE X e (tE X.K X.mg W f)) (he : ∀ whole, isTrue e X.env whole = (do let v ← whole; standAt e.pos; holding [v] (truthy v))) : PT X e (tT X.K X.mg W (tst f)) :=
  PT.of (pt_val h he) fun _ _ _ q => tT_tst q
def andT (a b : M Bool) : M Bool := bnd a fun c => if c = true then b else ret false
def orT (a b : M Bool) : M Bool := bnd a fun c => if c = true then ret true else b
def notT (a : M Bool) : M Bool := bnd a fun c => ret (!c)
theorem tT_bnd {α : Type} {a : M Bool} {k : Bool → M α} {R : Env → Prop} {Q : Bool → Hp → Prop} {ρ : Env} (w : Wd Z H S) (er : EnvR K Z H ρ σ S)
    (hx : ∀ x ρ1, a ρ = .exc x ρ1 → XOut K mg W Z H S σ x ρ1) (hs : a ρ ≠ .stuck)
    (hk : ∀ c ρ1 Z1 H1 S1, a ρ = .ok c ρ1 → Step Z H S Z1 H1 S1 → EnvR K Z1 H1 ρ1 σ S1 → Q c H1) : tT K mg W a σ H Q := by
  refine ⟨Z, ρ, S, w, er, ?_⟩
  cases e : a ρ with
  | stuck => exact absurd e hs
  | exc x ρ1 => exact hx x ρ1 e
  | ok c ρ1 => exact fun Z1 H1 S1 st er1 => hk c ρ1 Z1 H1 S1 e st er1
theorem XOut.after {Z1 H1 : Hp} {S1 : Fp} {x : XD} {ρ' : Env} (st : Step Z H S Z1 H1 S1) (h : XOut K mg W Z H S σ x ρ') : XOut K mg W Z1 H1 S1 σ x ρ' := fun cls dd Z' H' S' st' er xr => h cls dd Z' H' S' (st.trans st') er xr
theorem OutT.after {Z1 H1 : Hp} {S1 : Fp} {r : Res Bool} {Q : Bool → Hp → Prop} (st : Step Z H S Z1 H1 S1) (h : OutT K mg W Z H S σ Q r) : OutT K mg W Z1 H1 S1 σ Q r := by
  cases r with
  | stuck => exact h
  | exc x ρ => exact XOut.after st h
  | ok b ρ => exact fun Z' H' S' st' er => h Z' H' S' (st.trans st') er
theorem OutE.after {Z1 H1 : Hp} {S1 : Fp} {r : Res EV} {Q : VK} (st : Step Z H S Z1 H1 S1) (h : OutE K mg W Z H S σ Q r) : OutE K mg W Z1 H1 S1 σ Q r := by
  cases r with
  | stuck => exact h
  | exc x ρ => exact XOut.after st h
  | ok b ρ => exact fun v Z' H' S' Sd st' dj er r => h v Z' H' S' Sd (st.trans st') dj er r
theorem OutS.next {Z1 H1 : Hp} {S1 : Fp} {r : Res Fl} {D : Ends} {σ1 : Sl} (kp : Keep A σ σ1) (st : Step Z H S Z1 H1 S1) (h : OutS K mg W A σ Z H S D r) : OutS K mg W A σ1 Z1 H1 S1 D r := by
  cases r with
  | stuck => exact h
  | exc x ρ => exact fun σ' k => XOut.after st (h σ' (kp.trans k))
  | ok b ρ => exact fun σ' v Z' H' S' Sd k st' dj er r => h σ' v Z' H' S' Sd (kp.trans k) (st.trans st') dj er r
theorem OutS.after {Z1 H1 : Hp} {S1 : Fp} {r : Res Fl} {D : Ends} (st : Step Z H S Z1 H1 S1) (h : OutS K mg W A σ Z H S D r) : OutS K mg W A σ Z1 H1 S1 D r := h.next (Keep.refl σ) st
theorem tT_and {a b : M Bool} {Q : Bool → Hp → Prop} (h : tT K mg W (andT a b) σ H Q) : tAnd (tT K mg W a) (tT K mg W b) σ H Q := by
  obtain ⟨Z, ρ, S, w, er, o⟩ := h
  simp only [andT, bnd] at o
  refine tT_bnd (k := fun _ => a) (R := fun _ => True) w er (fun x ρ1 e => by rw [e] at o; exact o) (fun e => by rw [e] at o; exact o) fun c ρ1 Z1 H1 S1 e st er1 => ?_
  simp only [e] at o
  cases c with
  | true => exact ⟨Z1, ρ1, S1, st.wd, er1, by simpa using OutT.after st o⟩
  | false => exact OutT.after (r := .ok false ρ1) st (by simpa [ret] using o) Z1 H1 S1 (Step.refl st.wd) er1
theorem tT_or {a b : M Bool} {Q : Bool → Hp → Prop} (h : tT K mg W (orT a b) σ H Q) : tOr (tT K mg W a) (tT K mg W b) σ H Q := by
  obtain ⟨Z, ρ, S, w, er, o⟩ := h
  simp only [orT, bnd] at o
  refine tT_bnd (k := fun _ => a) (R := fun _ => True) w er (fun x ρ1 e => by rw [e] at o; exact o) (fun e => by rw [e] at o; exact o) fun c ρ1 Z1 H1 S1 e st er1 => ?_
  simp only [e] at o
  cases c with
  | false => exact ⟨Z1, ρ1, S1, st.wd, er1, by simpa using OutT.after st o⟩
  | true => exact OutT.after (r := .ok true ρ1) st (by simpa [ret] using o) Z1 H1 S1 (Step.refl st.wd) er1
theorem tT_not {a : M Bool} {Q : Bool → Hp → Prop} (h : tT K mg W (notT a) σ H Q) : tNot (tT K mg W a) σ H Q := by
  obtain ⟨Z, ρ, S, w, er, o⟩ := h
  simp only [notT, bnd] at o
  refine tT_bnd (k := fun _ => a) (R := fun _ => True) w er (fun x ρ1 e => by rw [e] at o; exact o) (fun e => by rw [e] at o; exact o) fun c ρ1 Z1 H1 S1 e st er1 => ?_
  simp only [e, ret] at o
  exact o Z1 H1 S1 st er1
/-- and, or with bools ahead: values -/
def andE (a b : M EV) : M EV := bnd (tst a) fun c => if c = true then b else ret (.val (.bl false))
def orE (a b : M EV) : M EV := bnd (tst a) fun c => if c = true then ret (.val (.bl true)) else b
def notE (a : M EV) : M EV := bnd (tst a) fun c => ret (.val (.bl (!c)))
def ifE (c : M Bool) (a b : M EV) : M EV := bnd c fun t => if t = true then a else b
theorem tst_bnd {f : M EV} {R : V → Hp → Prop} {ρ : Env} (w : Wd Z H S) (er : EnvR K Z H ρ σ S)
    (hx : ∀ x ρ1, tst f ρ = .exc x ρ1 → XOut K mg W Z H S σ x ρ1) (hs : tst f ρ ≠ .stuck)
    (hk : ∀ c ρ1 Z1 H1 S1, tst f ρ = .ok c ρ1 → Step Z H S Z1 H1 S1 → EnvR K Z1 H1 ρ1 σ S1 → R (.bl c) H1) : tE K mg W f σ H R := by
  refine ⟨Z, ρ, S, w, er, ?_⟩
  simp only [tst, bnd] at hx hs hk
  cases e : f ρ with
  | stuck => simp only [e] at hs; exact absurd rfl hs
  | exc x ρ1 => simp only [e] at hx; exact hx x ρ1 rfl
  | ok ev ρ1 =>
    intro v Z1 H1 S1 Sa st dj er1 r1
    simp only [e] at hs hk
    split at hs
    · rename_i b hb
      simp only [hb] at hk
      have r : v = .bl b := peek1_rep er1 r1 hb
      subst r
      exact hk b ρ1 Z1 H1 S1 rfl (st.less fun a x => .inl x) er1
    · exact absurd rfl hs
theorem tE_and {a b : M EV} {Q : VK} (h : tE K mg W (andE a b) σ H Q) : tAndV (tE K mg W a) (tE K mg W b) σ H Q := by
  obtain ⟨Z, ρ, S, w, er, o⟩ := h
  simp only [andE, bnd] at o
  refine tst_bnd w er (fun x ρ1 e => by rw [e] at o; exact o) (fun e => by rw [e] at o; exact o) fun c ρ1 Z1 H1 S1 e st er1 => ?_
  simp only [e] at o
  refine ⟨c, rfl, ?_⟩
  cases c with
  | true => exact ⟨Z1, ρ1, S1, st.wd, er1, by simpa using OutE.after st o⟩
  | false => exact OutE.after (r := .ok (.val (.bl false)) ρ1) st (by simpa [ret] using o) (.bl false) Z1 H1 S1 Fp0 st.wd.nil (fun _ _ x => x) er1 rfl
theorem tE_or {a b : M EV} {Q : VK} (h : tE K mg W (orE a b) σ H Q) : tOrV (tE K mg W a) (tE K mg W b) σ H Q := by
  obtain ⟨Z, ρ, S, w, er, o⟩ := h
  simp only [orE, bnd] at o
  refine tst_bnd w er (fun x ρ1 e => by rw [e] at o; exact o) (fun e => by rw [e] at o; exact o) fun c ρ1 Z1 H1 S1 e st er1 => ?_
  simp only [e] at o
  refine ⟨c, rfl, ?_⟩
  cases c with
  | false => exact ⟨Z1, ρ1, S1, st.wd, er1, by simpa using OutE.after st o⟩
  | true => exact OutE.after (r := .ok (.val (.bl true)) ρ1) st (by simpa [ret] using o) (.bl true) Z1 H1 S1 Fp0 st.wd.nil (fun _ _ x => x) er1 rfl
theorem tE_not {a : M EV} {Q : VK} (h : tE K mg W (notE a) σ H Q) : tNotV (tE K mg W a) σ H Q := by
  obtain ⟨Z, ρ, S, w, er, o⟩ := h
  simp only [notE, bnd] at o
  refine tst_bnd w er (fun x ρ1 e => by rw [e] at o; exact o) (fun e => by rw [e] at o; exact o) fun c ρ1 Z1 H1 S1 e st er1 => ?_
  simp only [e, ret] at o
  exact ⟨c, rfl, o (.bl (!c)) Z1 H1 S1 Fp0 (st.trans st.wd.nil) (fun _ _ x => x) er1 rfl⟩
theorem tE_if {c : M Bool} {a b : M EV} {Q : VK} (h : tE K mg W (ifE c a b) σ H Q) : tIf (tT K mg W c) (tE K mg W a) (tE K mg W b) σ H Q := by
  obtain ⟨Z, ρ, S, w, er, o⟩ := h
  simp only [ifE, bnd] at o
  refine tT_bnd (k := fun _ => c) (R := fun _ => True) w er (fun x ρ1 e => by rw [e] at o; exact o) (fun e => by rw [e] at o; exact o) fun t ρ1 Z1 H1 S1 e st er1 => ?_
  simp only [e] at o
  cases t with
  | true => exact ⟨Z1, ρ1, S1, st.wd, er1, by simpa using OutE.after st o⟩
  | false => exact ⟨Z1, ρ1, S1, st.wd, er1, by simpa using OutE.after st o⟩
def sNx : M Fl := ret .nx
def seq (a b : M Fl) : M Fl := bnd a fun f => match f with
  | .nx => b
  | f => ret f
def ite (c : M Bool) (a b : M Fl) : M Fl := bnd c fun t => if t = true then a else b
def rtn (f : M EV) : M Fl := bnd f fun e => bnd (use1 e) fun d => ret (.rt d)
def drp (f : M EV) : M Fl := bnd f fun _ => ret .nx
theorem tS_nx {D : Ends} (h : tS K mg W A sNx D σ H) : tNext D σ H := by
  obtain ⟨Z, ρ, S, w, er, o⟩ := h
  exact o σ .non Z H S Fp0 (Keep.refl σ) w.nil (fun _ _ x => x) er trivial
theorem tS_seq {a b : M Fl} {D : Ends} (h : tS K mg W A (seq a b) D σ H) : tSeq (tS K mg W A a) (tS K mg W A b) D σ H := by
  obtain ⟨Z, ρ, S, w, er, o⟩ := h
  refine ⟨Z, ρ, S, w, er, ?_⟩
  simp only [seq, bnd] at o
  cases e1 : a ρ with
  | stuck => rw [e1] at o; exact o
  | exc x ρ1 => rw [e1] at o; exact o
  | ok f ρ1 =>
    simp only [e1] at o
    intro σ' v Z1 H1 S1 Sd kp st dj er1 r1
    cases f with
    | nx => exact ⟨Z1, ρ1, S1, st.wd.less fun a x => .inl x, er1, OutS.next kp (st.less fun a x => .inl x) o⟩
    | bk => exact o σ' v Z1 H1 S1 Sd kp st dj er1 r1
    | ct => exact o σ' v Z1 H1 S1 Sd kp st dj er1 r1
    | rt d => exact o σ' v Z1 H1 S1 Sd kp st dj er1 r1
theorem tS_if {c : M Bool} {a b : M Fl} {D : Ends} (h : tS K mg W A (ite c a b) D σ H) : tIfS (tT K mg W c) (tS K mg W A a) (tS K mg W A b) D σ H := by
  obtain ⟨Z, ρ, S, w, er, o⟩ := h
  simp only [ite, bnd] at o
  refine tT_bnd (k := fun _ => c) (R := fun _ => True) w er (fun x ρ1 e => by rw [e] at o; exact o σ (Keep.refl σ)) (fun e => by rw [e] at o; exact o) fun t ρ1 Z1 H1 S1 e st er1 => ?_
  simp only [e] at o
  cases t with
  | true => exact ⟨Z1, ρ1, S1, st.wd, er1, by simpa using OutS.after st o⟩
  | false => exact ⟨Z1, ρ1, S1, st.wd, er1, by simpa using OutS.after st o⟩
theorem use1_noexc {e : EV} {ρ ρ' : Env} {x : XD} : use1 e ρ ≠ .exc x ρ' := by
  cases e with
  | val d => exact fun q => nomatch q
  | ref i =>
    intro q
    simp only [use1] at q
    split at q <;> cases q
/-- an expression's data for keeps, then what follows -/
theorem keep_of {f : M EV} {k : D → M Fl} {D' : Ends} {R : V → Hp → Prop} {ρ : Env} (w : Wd Z H S) (er : EnvR K Z H ρ σ S) (o : OutS K mg W A σ Z H S D' (bnd f (fun e => bnd (use1 e) k) ρ))
    (hk : ∀ v d ρ1 Z1 H1 S1 Sd, Step Z H S Z1 H1 (fun a => S1 a ∨ Sd a) → (∀ a, S1 a → Sd a → False) → EnvR K Z1 H1 ρ1 σ S1 → Rep K Z1 H1 d v Sd → OutS K mg W A σ Z H S D' (k d ρ1) → R v H1) : tE K mg W f σ H R := by
  refine ⟨Z, ρ, S, w, er, ?_⟩
  simp only [bnd] at o
  cases e1 : f ρ with
  | stuck => rw [e1] at o; exact o
  | exc x ρ1 => rw [e1] at o; exact o σ (Keep.refl σ)
  | ok ev ρ1 =>
    simp only [e1] at o
    intro v Z1 H1 S1 Sa st dj er1 r1
    cases e2 : use1 ev ρ1 with
    | stuck => rw [e2] at o; exact o.elim
    | exc x ρ2 => exact absurd e2 use1_noexc
    | ok d ρ2 =>
      simp only [e2] at o
      have w1 : Wd Z1 H1 (fun a => (S1 a ∨ Sa a) ∨ Fp0 a) := st.wd.less fun a x => x.elim id False.elim
      obtain ⟨Z2, S2, st2, m2, er2, r2⟩ := use1_ok w1 dj (fun _ _ x => x) er1 r1 e2
      have st2' : Step Z1 H1 (fun a => S1 a ∨ Sa a) Z2 H1 (fun a => S2 a ∨ Sa a) := ⟨st2.wd.less fun a x => .inl x, st2.zz, fun a o n e _ => e, fun a x => .inl (x.elim (fun y => .inl (m2 a y)) .inr), fun a o e => (st2.znew a o e).elim .inl fun y => .inr (y.elim (fun z => z.elim .inl False.elim) .inr)⟩
      exact hk v d ρ2 Z2 H1 S2 Sa (st.trans st2') (fun a x y => dj a (m2 a x) y) er2 r2 o
theorem tS_rtn {f : M EV} {D : Ends} (h : tS K mg W A (rtn f) D σ H) : tRet (tE K mg W f) D σ H := by
  obtain ⟨Z, ρ, S, w, er, o⟩ := h
  exact keep_of w er o fun v d ρ1 Z1 H1 S1 Sd st dj er1 r1 o1 => o1 σ v Z1 H1 S1 Sd (Keep.refl σ) st dj er1 r1
theorem tS_drp {f : M EV} {D : Ends} (h : tS K mg W A (drp f) D σ H) : tDrop (tE K mg W f) D σ H := by
  obtain ⟨Z, ρ, S, w, er, o⟩ := h
  refine ⟨Z, ρ, S, w, er, ?_⟩
  simp only [drp, bnd] at o
  cases e1 : f ρ with
  | stuck => rw [e1] at o; exact o
  | exc x ρ1 => rw [e1] at o; exact o σ (Keep.refl σ)
  | ok ev ρ1 =>
    simp only [e1, ret] at o
    exact fun v Z1 H1 S1 Sa st dj er1 r1 => o σ .non Z1 H1 S1 Fp0 (Keep.refl σ) (st.less fun a x => x.elim .inl False.elim) (fun _ _ x => x) er1 trivial
/-- a local name is returned: it is the def's own -/
def mov (i : Nat) : M EV := fun ρ => match ρ.getD i none with
  | some d => .ok (.val d) (ρ.set i none)
  | none => .stuck
theorem tE_mov {i : Nat} {Q : VK} (h : tE K mg W (mov i) σ H Q) : tVar i σ H Q := by
  obtain ⟨Z, ρ, S, w, er, o⟩ := h
  simp only [mov] at o
  cases e : ρ.getD i none with
  | none => simp only [e] at o; exact o.elim
  | some d =>
    simp only [e] at o
    obtain ⟨v, S1, S2, hv, s1, s2, dj, r, er2⟩ := er.take (getD_some e)
    exact ⟨v, hv, o v Z H S2 S1 ((Step.refl w).less fun a x => x.elim (s2 a) (s1 a)) (fun a x y => dj a y x) er2 r⟩
abbrev Tg := D → M Unit
def tG (K : PySem.W.Frag) (A : Nat → Bool) (g : Tg) : TG := fun v σ H Q => ∃ Z ρ S Sd d, Wd Z H (fun a => S a ∨ Sd a) ∧ (∀ a, S a → Sd a → False) ∧ EnvR K Z H ρ σ S ∧ Rep K Z H d v Sd ∧
  match g d ρ with
  | .ok _ ρ' => ∀ σ' Z' H' S', Keep A σ σ' → Step Z H (fun a => S a ∨ Sd a) Z' H' S' → EnvR K Z' H' ρ' σ' S' → Q σ' H'
  | _ => False
def tGs (K : PySem.W.Frag) (A : Nat → Bool) (g : List D → M Unit) : TGs := fun vs σ H Q => ∃ Z ρ S Sd ds, Wd Z H (fun a => S a ∨ Sd a) ∧ (∀ a, S a → Sd a → False) ∧ EnvR K Z H ρ σ S ∧ RepL K Z H ds vs Sd ∧
  match g ds ρ with
  | .ok _ ρ' => ∀ σ' Z' H' S', Keep A σ σ' → Step Z H (fun a => S a ∨ Sd a) Z' H' S' → EnvR K Z' H' ρ' σ' S' → Q σ' H'
  | _ => False
theorem PG.of {tg : Expr} {t t' : TG} (h : PG X tg t) (i : ∀ v σ H Q, t' v σ H Q → t v σ H Q) : PG X tg t' := ⟨fun p s σ H v u Q I r q => h.run p s σ H v u Q I r (i v σ H Q q)⟩
theorem PGs.of {tg : List Expr} {t t' : TGs} (h : PGs X tg t) (i : ∀ v σ H Q, t' v σ H Q → t v σ H Q) : PGs X tg t' := ⟨fun p s σ H v u Q I r q => h.run p s σ H v u Q I r (i v σ H Q q)⟩
def gN (i : Nat) : Tg := fun d ρ => if i < ρ.length then .ok () (ρ.set i (some d)) else .stuck
theorem tG_N {i : Nat} {v : V} {Q : Sl → Hp → Prop} (hA : A i = true) (h : tG K A (gN i) v σ H Q) : gName i v σ H Q := by
  obtain ⟨Z, ρ, S, Sd, d, w, dj, er, r, o⟩ := h
  simp only [gN] at o
  by_cases hi : i < ρ.length
  · rw [if_pos hi] at o
    exact o _ Z H (fun a => S a ∨ Sd a) ⟨fun j hj => List.getElem?_set_ne (fun e => by rw [← e, hA] at hj; cases hj), List.length_set⟩ (Step.refl w) (EnvR.put (er.drop i) hi r (fun a x => .inr x) (fun a x => .inl x) fun a x y => dj a y x)
  · rw [if_neg hi] at o
    exact o.elim
def gs0 : List D → M Unit := fun ds ρ => match ds with
  | [] => .ok () ρ
  | _ => .stuck
def gsC (g : Tg) (gs : List D → M Unit) : List D → M Unit := fun ds => match ds with
  | d :: ds => bnd (g d) fun _ => gs ds
  | [] => fun _ => .stuck
def gT (gs : List D → M Unit) (n : Nat) : Tg := fun d => match d with
  | .node _ .tup ds => if ds.length = n then gs ds else fun _ => .stuck
  | _ => fun _ => .stuck
theorem tGs_0 {vs : List V} {Q : Sl → Hp → Prop} (h : tGs K A gs0 vs σ H Q) : gNil vs σ H Q := by
  obtain ⟨Z, ρ, S, Sd, ds, w, dj, er, r, o⟩ := h
  cases ds with
  | cons d ds => simp only [gs0] at o
  | nil =>
    cases vs with
    | cons v vs => exact r.elim
    | nil => exact ⟨rfl, by simp only [gs0] at o; exact o σ Z H S (Keep.refl σ) ((Step.refl w).less fun a x => .inl x) er⟩
theorem tGs_C {g : Tg} {gs : List D → M Unit} {vs : List V} {Q : Sl → Hp → Prop} (h : tGs K A (gsC g gs) vs σ H Q) : gCons (tG K A g) (tGs K A gs) vs σ H Q := by
  obtain ⟨Z, ρ, S, Sd, ds, w, dj, er, r, o⟩ := h
  cases ds with
  | nil => simp only [gsC] at o
  | cons d ds =>
    cases vs with
    | nil => exact r.elim
    | cons v vs =>
      obtain ⟨A1, A2, a1, a2, aj, r1, r2⟩ := r
      simp only [gsC, bnd] at o
      refine ⟨v, vs, rfl, Z, ρ, S, A1, d, w.less fun a x => x.elim .inl fun y => .inr (a1 a y), fun a x y => dj a x (a1 a y), er, r1, ?_⟩
      cases e1 : g d ρ with
      | stuck => simp only [e1] at o
      | exc x ρ1 => simp only [e1] at o
      | ok u ρ1 =>
        simp only [e1] at o
        intro σ1 Z1 H1 S1 kp st er1
        have w' : Wd Z H (fun a => (S a ∨ A1 a) ∨ A2 a) := w.less fun a x => x.elim (fun y => y.elim .inl fun z => .inr (a1 a z)) fun y => .inr (a2 a y)
        have d1 : ∀ a, (S a ∨ A1 a) → A2 a → False := fun a x y => x.elim (fun z => dj a z (a2 a y)) fun z => aj a z y
        have st' := st.frame w' d1
        refine ⟨Z1, ρ1, S1, A2, ds, st'.wd, st.apart (fun a x => w'.live a (.inr x)) d1, er1, st.stayL d1 r2, ?_⟩
        cases e2 : gs ds ρ1 with
        | stuck => rw [e2] at o; exact o
        | exc x ρ2 => rw [e2] at o; exact o
        | ok u2 ρ2 =>
          rw [e2] at o
          intro σ2 Z2 H2 S2 kp2 st2 er2
          refine o σ2 Z2 H2 S2 (kp.trans kp2) ?_ er2
          have st0 : Step Z H (fun a => S a ∨ Sd a) Z1 H1 (fun a => S1 a ∨ A2 a) := ⟨st'.wd, st'.zz, fun a o n e => st'.fr a o (fun x => n (x.elim (fun y => y.elim .inl fun z => .inr (a1 a z)) fun y => .inr (a2 a y))) e,
            fun a x => (st'.new a x).elim (fun y => .inl (y.elim (fun y => y.elim .inl fun z => .inr (a1 a z)) fun y => .inr (a2 a y))) .inr, fun a o e => (st'.znew a o e).elim .inl fun y => .inr (y.elim (fun y => .inl (y.elim (fun y => y.elim .inl fun z => .inr (a1 a z)) fun y => .inr (a2 a y))) .inr)⟩
          exact st0.trans st2
theorem tG_T {gs : List D → M Unit} {n : Nat} {v : V} {Q : Sl → Hp → Prop} (h : tG K A (gT gs n) v σ H Q) : gTup K n (tGs K A gs) v σ H Q := by
  obtain ⟨Z, ρ, S, Sd, d, w, dj, er, r, o⟩ := h
  cases d with
  | node b k ds =>
    cases k with
    | tup =>
      simp only [gT] at o
      by_cases hn : ds.length = n
      · rw [if_pos hn] at o
        cases b with
        | false =>
          obtain ⟨a, ys, rfl, c, rl⟩ := r
          exact ⟨a, ys, rfl, SqT.sam c w.same, by rw [← rl.length]; exact hn, Z, ρ, S, Sd, ds, w, dj, er, rl, o⟩
        | true =>
          obtain ⟨a, ys, rfl, c, rl⟩ := r
          exact ⟨a, ys, rfl, SqT.sam c.1 w.same, by rw [← rl.length]; exact hn, Z, ρ, S, Sd, ds, w, dj, er, rl, o⟩
      · rw [if_neg hn] at o
        simp only at o
    | _ => simp only [gT] at o
  | _ => simp only [gT] at o
def asg (f : M EV) (g : Tg) : M Fl := bnd f fun e => bnd (use1 e) fun d => fun ρ => match g d ρ with
  | .ok _ ρ' => .ok .nx ρ'
  | _ => .stuck
theorem tS_asg {f : M EV} {g : Tg} {D : Ends} (h : tS K mg W A (asg f g) D σ H) : tAsg (tE K mg W f) (tG K A g) D σ H := by
  obtain ⟨Z, ρ, S, w, er, o⟩ := h
  refine keep_of w er o fun v d ρ1 Z1 H1 S1 Sd st dj er1 r1 o1 => ?_
  refine ⟨Z1, ρ1, S1, Sd, d, st.wd, dj, er1, r1, ?_⟩
  cases e1 : g d ρ1 with
  | stuck => simp only [e1] at o1; exact o1
  | exc x ρ2 => simp only [e1] at o1; exact o1
  | ok u ρ2 =>
    simp only [e1] at o1
    exact fun σ' Z' H' S' kp st' er' => o1 σ' .non Z' H' S' Fp0 kp (st.trans (st'.less fun a x => x.elim id False.elim)) (fun _ _ x => x) er' trivial
end
end Pm
namespace Pm
open PySem PySem.Spec PyProof.Rows L2
section
variable {K : PySem.W.Frag} {mg : Str → Option Value} {W : WX} {Z H : Hp} {S : Fp} {σ : Sl} {X : Cx} {A : Nat → Bool}
def wIt (c : M Bool) (b : M Fl) : Nat → Env → Option (Res Fl)
  | 0, _ => none
  | n + 1, ρ => match c ρ with
    | .stuck => some .stuck
    | .exc x ρ1 => some (.exc x ρ1)
    | .ok false ρ1 => some (.ok .nx ρ1)
    | .ok true ρ1 => match b ρ1 with
      | .stuck => some .stuck
      | .exc x ρ2 => some (.exc x ρ2)
      | .ok (.rt d) ρ2 => some (.ok (.rt d) ρ2)
      | .ok .bk ρ2 => some (.ok .nx ρ2)
      | .ok .nx ρ2 => wIt c b n ρ2
      | .ok .ct ρ2 => wIt c b n ρ2
noncomputable def whl (c : M Bool) (b : M Fl) : M Fl := fun ρ => open Classical in if h : ∃ n r, wIt c b n ρ = some r then Classical.choose (Classical.choose_spec h) else .stuck
theorem wIt_more {c : M Bool} {b : M Fl} : ∀ {n : Nat} {ρ : Env} {r : Res Fl}, wIt c b n ρ = some r → ∀ k, wIt c b (n + k) ρ = some r
  | 0, _, _, h, _ => nomatch h
  | n + 1, ρ, r, h, k => by
    rw [show n + 1 + k = (n + k) + 1 by omega]
    simp only [wIt] at h ⊢
    split at h
    · exact h
    · exact h
    · exact h
    · split at h
      · exact h
      · exact h
      · exact h
      · exact h
      · exact wIt_more h k
      · exact wIt_more h k
theorem wIt_one {c : M Bool} {b : M Fl} {n m : Nat} {ρ : Env} {r r' : Res Fl} (h : wIt c b n ρ = some r) (h' : wIt c b m ρ = some r') : r = r' := by
  have a := wIt_more h m
  have b' := wIt_more h' n
  rw [Nat.add_comm m n, a] at b'
  exact Option.some.inj b'
theorem whl_of {c : M Bool} {b : M Fl} {n : Nat} {ρ : Env} {r : Res Fl} (h : wIt c b n ρ = some r) : whl c b ρ = r := by
  have q : ∃ n r, wIt c b n ρ = some r := ⟨n, r, h⟩
  unfold whl
  rw [dif_pos q]
  exact wIt_one (Classical.choose_spec (Classical.choose_spec q)) h
theorem whl_or {c : M Bool} {b : M Fl} {ρ : Env} (h : whl c b ρ ≠ .stuck) : ∃ n, wIt c b n ρ = some (whl c b ρ) := by
  by_cases q : ∃ n r, wIt c b n ρ = some r
  · obtain ⟨n, r, e⟩ := q
    exact ⟨n, by rw [whl_of e]; exact e⟩
  · exfalso
    apply h
    unfold whl
    rw [dif_neg q]
/-- one turn of a while -/
theorem whl_eq {c : M Bool} {b : M Fl} {ρ : Env} : whl c b ρ = match c ρ with
    | .stuck => .stuck
    | .exc x ρ1 => .exc x ρ1
    | .ok false ρ1 => .ok .nx ρ1
    | .ok true ρ1 => match b ρ1 with
      | .stuck => .stuck
      | .exc x ρ2 => .exc x ρ2
      | .ok (.rt d) ρ2 => .ok (.rt d) ρ2
      | .ok .bk ρ2 => .ok .nx ρ2
      | .ok .nx ρ2 => whl c b ρ2
      | .ok .ct ρ2 => whl c b ρ2 := by
  have go : ∀ {ρ2 : Env}, (∀ n, wIt c b (n + 1) ρ = wIt c b n ρ2) → whl c b ρ = whl c b ρ2 := fun {ρ2} f => by
    by_cases q : ∃ n r, wIt c b n ρ2 = some r
    · obtain ⟨n, r, e⟩ := q
      rw [whl_of e]
      exact whl_of (n := n + 1) (by rw [f]; exact e)
    · have q2 : ¬ ∃ n r, wIt c b n ρ = some r := fun ⟨n, r, e⟩ => by
        cases n with
        | zero => cases e
        | succ n => exact q ⟨n, r, by rw [← f]; exact e⟩
      unfold whl
      rw [dif_neg q, dif_neg q2]
  cases e1 : c ρ with
  | stuck => exact whl_of (n := 1) (by simp only [wIt, e1])
  | exc x ρ1 => exact whl_of (n := 1) (by simp only [wIt, e1])
  | ok t ρ1 =>
    cases t with
    | false => exact whl_of (n := 1) (by simp only [wIt, e1])
    | true =>
      simp only
      cases e2 : b ρ1 with
      | stuck => exact whl_of (n := 1) (by simp only [wIt, e1, e2])
      | exc x ρ2 => exact whl_of (n := 1) (by simp only [wIt, e1, e2])
      | ok f ρ2 =>
        cases f with
        | rt d => exact whl_of (n := 1) (by simp only [wIt, e1, e2])
        | bk => exact whl_of (n := 1) (by simp only [wIt, e1, e2])
        | nx => exact go fun n => by simp only [wIt, e1, e2]
        | ct => exact go fun n => by simp only [wIt, e1, e2]
theorem tS_while {c : M Bool} {b : M Fl} {D : Ends} (h : tS K mg W A (whl c b) D σ H) : tWhile (tT K mg W c) (tS K mg W A b) D σ H := by
  obtain ⟨Z, ρ, S, w, er, o⟩ := h
  have ns : whl c b ρ ≠ .stuck := fun e => by rw [e] at o; exact o
  obtain ⟨n, hn⟩ := whl_or ns
  refine ⟨fun m σ' H' => ∃ Z ρ S r, Wd Z H' S ∧ EnvR K Z H' ρ σ' S ∧ wIt c b m ρ = some r ∧ OutS K mg W A σ' Z H' S D r, ⟨n, Z, ρ, S, _, w, er, hn, o⟩, ?_⟩
  rintro m σ H ⟨Z, ρ, S, r, w, er, hm, o⟩
  cases m with
  | zero => cases hm
  | succ m =>
    simp only [wIt] at hm
    refine tT_bnd (k := fun _ => c) (R := fun _ => True) w er (fun x ρ1 e => ?_) (fun e => ?_) fun t ρ1 Z1 H1 S1 e st er1 => ?_
    · simp only [e, Option.some.injEq] at hm
      subst hm
      exact o σ (Keep.refl σ)
    · simp only [e, Option.some.injEq] at hm
      subst hm
      exact o
    · simp only [e] at hm
      cases t with
      | false =>
        simp only [Option.some.injEq] at hm
        subst hm
        rw [if_neg Bool.false_ne_true]
        exact o σ .non Z1 H1 S1 Fp0 (Keep.refl σ) (st.less fun a x => x.elim id False.elim) (fun _ _ x => x) er1 trivial
      | true =>
        rw [if_pos rfl]
        refine ⟨fun σ' H' => ∃ Z ρ S r, Wd Z H' S ∧ EnvR K Z H' ρ σ' S ∧ wIt c b m ρ = some r ∧ OutS K mg W A σ' Z H' S D r, fun σ' H' q => ⟨m, Nat.lt_succ_self m, q⟩, Z1, ρ1, S1, st.wd, er1, ?_⟩
        simp only at hm
        cases e2 : b ρ1 with
        | stuck =>
          simp only [e2, Option.some.injEq] at hm
          subst hm
          exact o
        | exc x ρ2 =>
          simp only [e2, Option.some.injEq] at hm
          subst hm
          exact fun σ' k => XOut.after st (o σ' k)
        | ok f ρ2 =>
          simp only [e2] at hm
          intro σ' v Z2 H2 S2 Sd kp st2 dj er2 r2
          have again : wIt c b m ρ2 = some r → ∃ Z ρ S r, Wd Z H2 S ∧ EnvR K Z H2 ρ σ' S ∧ wIt c b m ρ = some r ∧ OutS K mg W A σ' Z H2 S D r := fun q =>
            ⟨Z2, ρ2, S2, r, st2.wd.less fun a x => .inl x, er2, q, OutS.next kp ((st.trans st2).less fun a x => .inl x) o⟩
          cases f with
          | rt d =>
            simp only [Option.some.injEq] at hm
            subst hm
            exact o σ' v Z2 H2 S2 Sd kp (st.trans st2) dj er2 r2
          | bk =>
            simp only [Option.some.injEq] at hm
            subst hm
            exact o σ' .non Z2 H2 S2 Fp0 kp (st.trans (st2.less fun a x => x.elim .inl False.elim)) (fun _ _ x => x) er2 trivial
          | nx => exact again hm
          | ct => exact again hm
theorem ps_whl {c : Expr} {body : List Stmt} {f : M Bool} {b : M Fl} {pos : Pos} (hp : PassesOwn (model X.prog X.w) X.A X.env X.xe) (hc : PT X c (tT X.K X.mg W f)) (hb : PSs X body (tS X.K X.mg W A b)) : PS X (.While c body [] pos) (tS X.K X.mg W A (whl f b)) :=
  PS.of (ps_while hp hc hb) fun _ _ _ q => tS_while q
def WalkR (K : PySem.W.Frag) (J : It) (Z : Hp) (ds : List D) : Prop := ∀ (Z' H' : Hp), Same Z Z' → Sam Z' H' → (∀ i, ds.length ≤ i → J.stop i H') ∧
  ∀ i d, ds[i]? = some d → J.go i H' ∧ ∀ x H'' S', Wd Z' H' S' → J.yld i H' x H'' → ∃ Z'', Step Z' H' S' Z'' H'' S' ∧ (∀ a o, H' a = some o → H'' a = some o) ∧ Rep K Z'' H'' d x Fp0
def OutI (K : PySem.W.Frag) (mg : Str → Option Value) (W : WX) (Z H : Hp) (S : Fp) (σ : Sl) (R : It → Hp → Prop) : Res (List D) → Prop
  | .stuck => False
  | .ok ds ρ' => ∀ J Z' H' S', Step Z H S Z' H' S' → EnvR K Z' H' ρ' σ S' → WalkR K J Z' ds → R J H'
  | .exc x ρ' => XOut K mg W Z H S σ x ρ'
def tI (K : PySem.W.Frag) (mg : Str → Option Value) (W : WX) (s : M (List D)) : TI := fun σ H R => ∃ Z ρ S, Wd Z H S ∧ EnvR K Z H ρ σ S ∧ OutI K mg W Z H S σ R (s ρ)
theorem PI.of {tg iter : Expr} {t t' : TI} (h : PI X tg iter t) (i : ∀ σ H Q, t' σ H Q → t σ H Q) : PI X tg iter t' := ⟨fun p s σ H R I q => h.run p s σ H R I (i σ H R q)⟩
def forIt (g : Tg) (b : M Fl) : List D → M Fl
  | [] => ret .nx
  | d :: ds => fun ρ => match g d ρ with
    | .ok _ ρ' => bnd b (fun f => match f with
      | .nx => forIt g b ds
      | .ct => forIt g b ds
      | .bk => ret .nx
      | .rt d => ret (.rt d)) ρ'
    | _ => .stuck
def forS (s : M (List D)) (g : Tg) (b : M Fl) : M Fl := bnd s (forIt g b)
theorem tS_for {s : M (List D)} {g : Tg} {b : M Fl} {D : Ends} (h : tS K mg W A (forS s g b) D σ H) : tFor (tI K mg W s) (tG K A g) (tS K mg W A b) D σ H := by
  obtain ⟨Z, ρ, S, w, er, o⟩ := h
  refine ⟨Z, ρ, S, w, er, ?_⟩
  simp only [forS, bnd] at o
  cases e1 : s ρ with
  | stuck => rw [e1] at o; exact o
  | exc x ρ1 => rw [e1] at o; exact o σ (Keep.refl σ)
  | ok ds ρ1 =>
    simp only [e1] at o
    intro J Z1 H1 S1 st er1 wk
    refine ⟨fun i m σ' H' => ∃ Z' ρ' S', Same Z1 Z' ∧ Wd Z' H' S' ∧ EnvR K Z' H' ρ' σ' S' ∧ i + m = ds.length ∧ OutS K mg W A σ' Z' H' S' D (forIt g b (ds.drop i) ρ'), ⟨ds.length, Z1, ρ1, S1, Same.refl _, st.wd, er1, by omega, OutS.after st o⟩, ?_⟩
    rintro i m σ2 H2 ⟨Z2, ρ2, S2, z2, w2, er2, him, o2⟩
    obtain ⟨w3, w4⟩ := wk Z2 H2 z2 w2.same
    by_cases hi : i < ds.length
    · obtain ⟨go, yl⟩ := w4 i ds[i] (List.getElem?_eq_getElem hi)
      have ed : ds.drop i = ds[i] :: ds.drop (i + 1) := List.drop_eq_getElem_cons hi
      rw [ed] at o2
      refine .inr ⟨go, fun σ' H' => ∃ Z' ρ' S', Same Z1 Z' ∧ Wd Z' H' S' ∧ EnvR K Z' H' ρ' σ' S' ∧ (i + 1) + (m - 1) = ds.length ∧ OutS K mg W A σ' Z' H' S' D (forIt g b (ds.drop (i + 1)) ρ'), fun σ' H' q => ⟨m - 1, by omega, q⟩, fun x H3 y => ?_⟩
      obtain ⟨Z3, st3, k3, r3⟩ := yl x H3 S2 w2 y
      have er3 : EnvR K Z3 H3 ρ2 σ2 S2 := er2.move st3.zz (fun a o _ e => k3 a o e) fun _ x => x
      refine ⟨Z3, ρ2, S2, Fp0, ds[i], st3.wd.less fun a x => x.elim id False.elim, fun _ _ x => x, er3, r3, ?_⟩
      have o3 := OutS.after st3 o2
      simp only [forIt, bnd] at o3
      cases e2 : g ds[i] ρ2 with
      | stuck => simp only [e2] at o3; exact o3
      | exc x ρ3 => simp only [e2] at o3; exact o3
      | ok u ρ3 =>
        simp only [e2] at o3
        intro σ4 Z4 H4 S4 kp4 st4 er4
        have st34 : Step Z3 H3 S2 Z4 H4 S4 := (Step.less (Step.refl st3.wd) (S2 := fun a => S2 a ∨ Fp0 a) (fun a x => x.elim id False.elim)).trans st4
        have zz4 : Same Z1 Z4 := z2.trans (st3.zz.trans st4.zz)
        refine ⟨Z4, ρ3, S4, st4.wd, er4, ?_⟩
        cases e3 : b ρ3 with
        | stuck => simp only [e3] at o3; exact o3
        | exc x ρ4 => simp only [e3] at o3; exact fun σ' k => XOut.after st34 (o3 σ' (kp4.trans k))
        | ok f ρ4 =>
          simp only [e3] at o3
          intro σ5 v Z5 H5 S5 Sd kp5 st5 dj er5 r5
          have again : OutS K mg W A σ2 Z3 H3 S2 D (forIt g b (ds.drop (i + 1)) ρ4) → ∃ Z' ρ' S', Same Z1 Z' ∧ Wd Z' H5 S' ∧ EnvR K Z' H5 ρ' σ5 S' ∧ (i + 1) + (m - 1) = ds.length ∧ OutS K mg W A σ5 Z' H5 S' D (forIt g b (ds.drop (i + 1)) ρ') := fun q =>
            ⟨Z5, ρ4, S5, zz4.trans st5.zz, st5.wd.less fun a x => .inl x, er5, by omega, OutS.next (kp4.trans kp5) ((st34.trans st5).less fun a x => .inl x) q⟩
          cases f with
          | rt d => exact o3 σ5 v Z5 H5 S5 Sd (kp4.trans kp5) (st34.trans st5) dj er5 r5
          | bk => exact o3 σ5 .non Z5 H5 S5 Fp0 (kp4.trans kp5) (st34.trans (st5.less fun a x => x.elim .inl False.elim)) (fun _ _ x => x) er5 trivial
          | nx => exact again o3
          | ct => exact again o3
    · refine .inl ⟨w3 i (by omega), ?_⟩
      rw [List.drop_eq_nil_of_le (by omega)] at o2
      exact o2 σ2 .non Z2 H2 S2 Fp0 (Keep.refl σ2) w2.nil (fun _ _ x => x) er2 trivial
theorem ps_forS {tg iter : Expr} {body : List Stmt} {s : M (List D)} {g : Tg} {b : M Fl} {pos : Pos} (hp : PassesOwn (model X.prog X.w) X.A X.env X.xe) (hc : X.calm = true) (hi : PI X tg iter (tI X.K X.mg W s)) (hg : PG X tg (tG X.K A g))
    (hb : PSs X body (tS X.K X.mg W A b)) (hs : ∀ x, foldedSetIterable iter X.env x = pure x) : PS X (.For tg iter body [] pos) (tS X.K X.mg W A (forS s g b)) :=
  PS.of (ps_for hp hc hi hg hb hs) fun _ _ _ q => tS_for q
/-- a list or a tuple: what it holds is frozen -/
def srcSeq (f : M EV) (k : Kd) : M (List D) := bnd f fun e => bnd (use1 e) fun d => match d with
  | .node _ k' ds => if k' = k then ret (frzL ds) else fun _ => .stuck
  | _ => fun _ => .stuck
theorem srcSeq_of {f : M EV} {k : Kd} {R : It → Hp → Prop} (h : tI K mg W (srcSeq f k) σ H R) (hk : k = .lst ∨ k = .tup) :
    tE K mg W f σ H fun x H1 => ∃ a, x = .ref a ∧ ∃ Z' ys ds, Sam Z' H1 ∧ Frd K Z' a ys k ∧ RepL K Z' H1 ds ys Fp0 ∧ ∀ J, WalkR K J Z' ds → R J H1 := by
  obtain ⟨Z, ρ, S, w, er, o⟩ := h
  refine ⟨Z, ρ, S, w, er, ?_⟩
  simp only [srcSeq, bnd] at o
  cases e1 : f ρ with
  | stuck => rw [e1] at o; exact o
  | exc x ρ1 => rw [e1] at o; exact o
  | ok ev ρ1 =>
    simp only [e1] at o
    intro v Z1 H1 S1 Sa st1 dj1 er1 r1
    cases e2 : use1 ev ρ1 with
    | stuck => rw [e2] at o; exact o.elim
    | exc x ρ2 => exact absurd e2 use1_noexc
    | ok d ρ2 =>
      simp only [e2] at o
      have w1 : Wd Z1 H1 (fun a => (S1 a ∨ Sa a) ∨ Fp0 a) := st1.wd.less fun a x => x.elim id False.elim
      obtain ⟨Z2, S2, st2, m2, er2, r2⟩ := use1_ok w1 dj1 (fun _ _ x => x) er1 r1 e2
      have st2' : Step Z1 H1 (fun a => S1 a ∨ Sa a) Z2 H1 (fun a => S2 a ∨ Sa a) := ⟨st2.wd.less fun a x => .inl x, st2.zz, fun a o n e _ => e, fun a x => .inl (x.elim (fun y => .inl (m2 a y)) .inr), fun a o e => (st2.znew a o e).elim .inl fun y => .inr (y.elim (fun z => z.elim .inl False.elim) .inr)⟩
      cases d with
      | node b k' ds =>
        simp only at o
        by_cases hk' : k' = k
        · subst hk'
          rw [if_pos rfl] at o
          simp only [ret] at o
          have w2 := st2'.wd
          have st3 : Step Z2 H1 (fun a => S2 a ∨ Sa a) (thaw Z2 H1 Sa) H1 S2 := Step.freeze w2 (fun a x => .inr x) (fun a x => .inl x) fun a x y => dj1 a (m2 a x) y
          have r3 := Rep.frz (S := Sa) (H' := H1) r2 (fun a x => w2.sep a (.inr x)) fun _ x => x
          obtain ⟨a, ys, rfl, c, rl⟩ := rep_frd r3
          exact ⟨a, rfl, thaw Z2 H1 Sa, ys, frzL ds, st3.wd.same, c, rl, fun J wk => o J _ H1 S2 ((st1.trans st2').trans st3) (er2.move st3.zz (fun _ _ _ x => x) fun _ x => x) wk⟩
        · rw [if_neg hk'] at o
          exact o.elim
      | _ => exact o.elim
theorem walk_tup {a : Addr} {ys : List V} {ds : List D} {H1 : Hp} (c : SqT K Z a ys) (rl : RepL K Z H1 ds ys Fp0) : WalkR K (Itt K a) Z ds := by
  intro Z' H' z1 z2
  have c' : SqT K H' a ys := SqT.sam (SqT.same c z1) z2
  refine ⟨fun i hi => ⟨ys, c', by rw [← rl.length]; exact hi⟩, fun i d hd => ?_⟩
  obtain ⟨x, hx, rx⟩ := rl.get hd
  refine ⟨⟨ys, x, c', hx⟩, fun y H'' S' w h => ?_⟩
  obtain ⟨rfl, h⟩ := h
  have e := h ys c'
  rw [hx] at e
  cases e
  exact ⟨Z', Step.refl w, fun _ _ e => e, rx.move z1 (fun _ _ x => x.elim) fun _ x => x⟩
theorem walk_lst' {a : Addr} {ys : List V} {ds : List D} {H1 : Hp} (c : SqL K Z a ys) (rl : RepL K Z H1 ds ys Fp0) : WalkR K (Itl K a) Z ds := by
  intro Z' H' z1 z2
  have c' : SqL K H' a ys := Sam.seq z2 (Same.seq z1 c)
  refine ⟨fun i hi => ⟨ys, c', by rw [← rl.length]; exact hi⟩, fun i d hd => ?_⟩
  obtain ⟨x, hx, rx⟩ := rl.get hd
  refine ⟨⟨ys, x, c', hx⟩, fun y H'' S' w h => ?_⟩
  obtain ⟨rfl, h⟩ := h
  have e := h ys c'
  rw [hx] at e
  cases e
  exact ⟨Z', Step.refl w, fun _ _ e => e, rx.move z1 (fun _ _ x => x.elim) fun _ x => x⟩
theorem pi_seqL {tg l : Expr} {f : M EV} (h : PE X l (tE X.K X.mg W f)) : PI X tg l (tI X.K X.mg W (srcSeq f .lst)) :=
  PI.of (pi_list h) fun σ H R q => by
    obtain ⟨Z, ρ, S, w, er, o⟩ := srcSeq_of q (.inl rfl)
    refine ⟨Z, ρ, S, w, er, ?_⟩
    cases e : f ρ with
    | stuck => rw [e] at o; exact o
    | exc x ρ1 => rw [e] at o; exact o
    | ok ev ρ1 =>
      rw [e] at o
      intro v Z1 H1 S1 Sd st dj er1 r1
      obtain ⟨a, rfl, Z', ys, ds, sm, c, rl, k⟩ := o v Z1 H1 S1 Sd st dj er1 r1
      exact ⟨a, rfl, ⟨ys, Sam.seq sm (SqL.of c)⟩, k _ (walk_lst' (SqL.of c) rl)⟩
theorem pi_seqT {tg l : Expr} {f : M EV} (h : PE X l (tE X.K X.mg W f)) : PI X tg l (tI X.K X.mg W (srcSeq f .tup)) :=
  PI.of (pi_tup h) fun σ H R q => by
    obtain ⟨Z, ρ, S, w, er, o⟩ := srcSeq_of q (.inr rfl)
    refine ⟨Z, ρ, S, w, er, ?_⟩
    cases e : f ρ with
    | stuck => rw [e] at o; exact o
    | exc x ρ1 => rw [e] at o; exact o
    | ok ev ρ1 =>
      rw [e] at o
      intro v Z1 H1 S1 Sd st dj er1 r1
      obtain ⟨a, rfl, Z', ys, ds, sm, c, rl, k⟩ := o v Z1 H1 S1 Sd st dj er1 r1
      exact ⟨a, rfl, ⟨ys, SqT.sam c sm⟩, k _ (walk_tup c rl)⟩
end
end Pm
namespace Pm
open PySem PySem.Spec PyProof.Rows L2
/-- what a def makes of its arguments: what it hands back, and the arguments as they lie then -/
inductive FR where
  | stuck | ret (d : D) (as : List D) | exc (x : XD) (as : List D)
abbrev FSem := List D → FR
/-- a def by its body: n parameters, m slots in all; those at reb are stored anew -/
def reFrz (reb : List Nat) : Nat → List D → List D
  | _, [] => []
  | i, d :: ds => (if i ∈ reb then d.frz else d) :: reFrz reb (i + 1) ds
def argsBack (reb : List Nat) (ρ : Env) : Nat → List D → Option (List D)
  | _, [] => some []
  | i, d :: ds => match (if d.plain || decide (i ∈ reb) then some d else ρ.getD i none), argsBack reb ρ (i + 1) ds with
    | some a, some as => some (a :: as)
    | _, _ => none
def mkF (n m : Nat) (reb : List Nat) (b : M Fl) : FSem := fun ds =>
  if ds.length = n ∧ n ≤ m then
    match b ((reFrz reb 0 ds).map some ++ List.replicate (m - n) none) with
    | .stuck => .stuck
    | .ok (.rt d) ρ => match argsBack reb ρ 0 (reFrz reb 0 ds) with
      | some as => .ret d as
      | none => .stuck
    | .ok .nx ρ => match argsBack reb ρ 0 (reFrz reb 0 ds) with
      | some as => .ret .non as
      | none => .stuck
    | .ok _ _ => .stuck
    | .exc x ρ => match argsBack reb ρ 0 (reFrz reb 0 ds) with
      | some as => .exc x as
      | none => .stuck
  else .stuck
section
variable (K : PySem.W.Frag) (mg : Str → Option Value)
def OutF (Z H : Hp) (S : Fp) (vs : List V) (Q : VK) (E : XK) : FR → Prop
  | .stuck => False
  | .ret d as => ∀ v Z' H' S' Sd, Step Z H S Z' H' (fun a => S' a ∨ Sd a) → (∀ a, S' a → Sd a → False) → RepL K Z' H' as vs S' → Rep K Z' H' d v Sd → Q v H'
  | .exc x as => ∀ cls dd Z' H' S', Step Z H S Z' H' S' → RepL K Z' H' as vs S' → ExcR K mg Z' x cls dd → E cls dd H'
def spG (f : FSem) : Sp := fun vs H Q E => ∃ Z S ds, Marks K Z ∧ Wd Z H S ∧ RepL K Z H ds vs S ∧ OutF K mg Z H S vs Q E (f ds)
end
structure FnG (P : Program) (w : World) (K : PySem.W.Frag) (mg : Str → Option Value) (base : Heap) (k : Nat) (f : Addr) (fd : FuncData) (ps : List Str) (g : FSem) : Prop where
  len : ∀ ds, g ds ≠ .stuck → ds.length = ps.length
  run : ∀ (A : Around) (outer : List PySem.Env) (s : Shared) (H : Hp) (args : Args) (us : List Value) (vs : List V) (Q : VK) (E : XK),
    A.guards = some [] → Room k A → Env0 P w K mg base A outer s H → BindsTo s fd args (ps.zip us) → Vals vs us → spG K mg g vs H Q E →
    codeAny (model P w) A (.call (.ref f) args) (CR (L2.CX P w) outer P w H s Q E) s
section
variable {K : PySem.W.Frag} {mg : Str → Option Value} {W : WX} {Z H : Hp} {S : Fp} {σ : Sl} {X : Cx}
theorem spG_len {g : FSem} {n : Nat} {vs : List V} {Q : VK} {E : XK} (l : ∀ ds, g ds ≠ .stuck → ds.length = n) (h : spG K mg g vs H Q E) : vs.length = n := by
  obtain ⟨Z, S, ds, mk, w, r, o⟩ := h
  rw [← r.length]
  exact l ds fun e => by rw [e] at o; exact o
theorem mkF_len {n m : Nat} {reb : List Nat} {b : M Fl} (ds : List D) (h : mkF n m reb b ds ≠ .stuck) : ds.length = n := by
  unfold mkF at h
  by_cases e : ds.length = n ∧ n ≤ m
  · exact e.1
  · rw [if_neg e] at h
    exact absurd rfl h
theorem env_start : ∀ {ds : List D} {vs : List V} {S : Fp} (k : Nat), Marks K Z → RepL K Z H ds vs S → EnvR K Z H (ds.map some ++ List.replicate k none) (vs.map some ++ List.replicate k none) S
  | [], [], S, 0, m, _ => m
  | [], [], S, k + 1, m, h => by
    rw [List.replicate_succ, List.replicate_succ]
    exact env_start (ds := []) (vs := []) (S := S) k m trivial
  | [], _ :: _, _, _, _, h => h.elim
  | _ :: _, [], _, _, _, h => h.elim
  | d :: ds, v :: vs, S, k, m, ⟨S1, S2, s1, s2, dj, r, q⟩ => ⟨S1, S2, s1, s2, dj, r, env_start k m q⟩
theorem reFrz_ok {reb : List Nat} : ∀ {ds : List D} {vs : List V} {i : Nat} {Z : Hp} {S T : Fp}, Wd Z H (fun a => S a ∨ T a) → (∀ a, S a → T a → False) → RepL K Z H ds vs S →
    ∃ Z' S', Step Z H (fun a => S a ∨ T a) Z' H (fun a => S' a ∨ T a) ∧ (∀ a, S' a → S a) ∧ RepL K Z' H (reFrz reb i ds) vs S'
  | [], [], _, Z, S, T, w, _, _ => ⟨Z, S, Step.refl w, fun _ x => x, trivial⟩
  | [], _ :: _, _, _, _, _, _, _, h => h.elim
  | _ :: _, [], _, _, _, _, _, _, h => h.elim
  | d :: ds, v :: vs, i, Z, S, T, w, dj, ⟨S1, S2, s1, s2, sj, r, q⟩ => by
    have w2 : Wd Z H (fun a => S2 a ∨ (S1 a ∨ T a)) := w.less fun a x => x.elim (fun y => .inl (s2 a y)) fun y => y.elim (fun z => .inl (s1 a z)) .inr
    obtain ⟨Z1, S', st, m, r1⟩ := reFrz_ok (reb := reb) (i := i + 1) w2 (fun a x y => y.elim (fun z => sj a z x) fun z => dj a (s2 a x) z) q
    have st0 : Step Z H (fun a => S a ∨ T a) Z1 H (fun a => S' a ∨ (S1 a ∨ T a)) := by
      have sub : ∀ a, (S2 a ∨ (S1 a ∨ T a)) → (S a ∨ T a) := fun a x => x.elim (fun y => .inl (s2 a y)) fun y => y.elim (fun z => .inl (s1 a z)) .inr
      exact ⟨st.wd, st.zz, fun a o n e _ => e, fun a x => (st.new a x).elim (fun y => .inl (sub a y)) .inr, fun a o e => (st.znew a o e).elim .inl fun y => .inr (y.elim (fun z => .inl (sub a z)) .inr)⟩
    unfold reFrz
    by_cases hi : i ∈ reb
    · rw [if_pos hi]
      have st1 : Step Z1 H (fun a => S' a ∨ (S1 a ∨ T a)) (thaw Z1 H S1) H (fun a => S' a ∨ T a) := Step.freeze st.wd (fun a x => .inr (.inl x)) (fun a x => x.elim .inl fun y => .inr (.inr y)) fun a x y => x.elim (fun z => sj a y (m a z)) fun z => dj a (s1 a y) z
      have rf : Rep K (thaw Z1 H S1) H d.frz v Fp0 := Rep.frz (r.move st.zz (fun _ _ _ x => x) fun _ x => x) (fun a x => st.wd.sep a (.inr (.inl x))) fun _ x => x
      exact ⟨_, S', st0.trans st1, fun a x => s2 a (m a x), Fp0, S', fun _ x => x.elim, fun _ x => x, fun _ x _ => x, rf, r1.move st1.zz (fun _ _ _ x => x) fun _ x => x⟩
    · rw [if_neg hi]
      refine ⟨Z1, fun a => S1 a ∨ S' a, st0.less fun a x => x.elim (fun y => y.elim (fun z => .inr (.inl z)) .inl) fun y => .inr (.inr y), fun a x => x.elim (s1 a) fun y => s2 a (m a y), S1, S', fun a x => .inl x, fun a x => .inr x, fun a x y => sj a x (m a y), r.move st.zz (fun _ _ _ x => x) fun _ x => x, r1⟩
/-- the slots of the parameters that are not stored hold the arguments -/
def Held (reb : List Nat) (σ : Sl) : Nat → List V → Prop
  | _, [] => True
  | i, v :: vs => (i ∉ reb → σ[i]? = some (some v)) ∧ Held reb σ (i + 1) vs
theorem reFrz_plain {reb : List Nat} : ∀ {ds : List D} {i j : Nat} {d : D}, (reFrz reb i ds)[j]? = some d → (i + j) ∈ reb → d.plain = true
  | [], _, _, _, h, _ => by simp [reFrz] at h
  | e :: ds, i, 0, d, h, m => by
    simp only [reFrz, List.getElem?_cons_zero, Option.some.injEq] at h
    rw [if_pos (by simpa using m)] at h
    rw [← h]
    exact D.plain_frz e
  | e :: ds, i, j + 1, d, h, m => by
    simp only [reFrz, List.getElem?_cons_succ] at h
    exact reFrz_plain h (by rw [show i + 1 + j = i + (j + 1) by omega]; exact m)
theorem back_ok {reb : List Nat} {ρ : Env} : ∀ {ds : List D} {vs : List V} {as : List D} {i : Nat} {S S0 : Fp} {Z0 H0 : Hp} {ρ1 : Env}, RepL K Z0 H0 ds vs S0 → Same Z0 Z → (∀ j d, ds[j]? = some d → (i + j) ∈ reb → d.plain = true) → Held reb σ i vs → (∀ j, i ≤ j → ρ1[j]? = ρ[j]?) → EnvR K Z H ρ1 σ S → argsBack reb ρ i ds = some as → RepL K Z H as vs S
  | [], [], as, i, S, S0, Z0, H0, ρ1, _, _, _, _, _, _, h => by
    simp only [argsBack, Option.some.injEq] at h
    subst h
    trivial
  | [], _ :: _, _, _, _, _, _, _, _, r, _, _, _, _, _, _ => r.elim
  | _ :: _, [], _, _, _, _, _, _, _, r, _, _, _, _, _, _ => r.elim
  | d :: ds, v :: vs, as, i, S, S0, Z0, H0, ρ1, ⟨S1, S2, s1, s2, sj, r, q⟩, zz, pl, ⟨hv, hh⟩, hρ, er, h => by
    simp only [argsBack] at h
    split at h
    · rename_i a as' h1 h2
      simp only [Option.some.injEq] at h
      subst h
      by_cases hp : (d.plain || decide (i ∈ reb)) = true
      · rw [if_pos hp, Option.some.injEq] at h1
        subst h1
        have hpl : d.plain = true := by
          cases e : d.plain with
          | true => rfl
          | false =>
            rw [e, Bool.false_or, decide_eq_true_eq] at hp
            have := pl 0 d rfl (by simpa using hp)
            rw [e] at this
            exact this
        have rp : Rep K Z H d v Fp0 := (Rep.plain (H' := H0) r hpl).move zz (fun _ _ x => x.elim) fun _ x => x
        exact ⟨Fp0, S, fun _ x => x.elim, fun _ x => x, fun _ x _ => x, rp, back_ok q zz (fun j d' e m => pl (j + 1) d' (by simpa using e) (by rw [show i + (j + 1) = i + 1 + j by omega]; exact m)) hh (fun j hj => hρ j (by omega)) er h2⟩
      · rw [if_neg hp] at h1
        have ni : i ∉ reb := fun m => hp (by rw [decide_eq_true m, Bool.or_true])
        have e1 : ρ1[i]? = some (some a) := by rw [hρ i (Nat.le_refl _)]; exact getD_some h1
        obtain ⟨u, T1, T2, hu, t1, t2, tj, ra, er2⟩ := er.take e1
        have eu : u = v := by
          have := hv ni
          rw [hu] at this
          simpa using this
        subst eu
        refine ⟨T1, T2, t1, t2, tj, ra, ?_⟩
        exact back_ok q zz (fun j d' e m => pl (j + 1) d' (by simpa using e) (by rw [show i + (j + 1) = i + 1 + j by omega]; exact m)) hh (fun j hj => by rw [List.getElem?_set_ne (by omega)]; exact hρ j (by omega)) er2 h2
    · cases h
def parA (n : Nat) (reb : List Nat) (j : Nat) : Bool := decide (j ∈ reb) || decide (n ≤ j)
theorem held_of {reb : List Nat} {n : Nat} : ∀ {vs : List V} {i : Nat} {σ0 : Sl}, Keep (parA n reb) σ0 σ → i + vs.length ≤ n → (∀ j v, vs[j]? = some v → σ0[i + j]? = some (some v)) → Held reb σ i vs
  | [], _, _, _, _, _ => trivial
  | v :: vs, i, σ0, k, l, h => ⟨fun m => by
      rw [k.1 i (by
        rw [List.length_cons] at l
        simp only [parA, Bool.or_eq_false_iff, decide_eq_false_iff_not]
        exact ⟨m, by omega⟩)]
      exact h 0 v rfl, held_of k (by rw [List.length_cons] at l; omega) fun j u e => by
      rw [show i + 1 + j = i + (j + 1) by omega]
      exact h (j + 1) u (by simpa using e)⟩
theorem start_get {N : List Str} {vs : List V} {j : Nat} {v : V} (h : vs[j]? = some v) : (start N vs)[j]? = some (some v) := by
  have hj : j < vs.length := (List.getElem?_eq_some_iff.mp h).1
  unfold L2.start
  rw [List.getElem?_append_left (by simpa using hj), List.getElem?_map, h]
  rfl
/-- a body's reading from what its function makes of the arguments -/
theorem body_in {n m : Nat} {reb : List Nat} {b : M Fl} {N : List Str} {vs : List V} {Q : VK} {E : XK} (hm : N.length = m) (hn : vs.length = n) (h : spG K mg (mkF n m reb b) vs H Q E) :
    tS K mg (fun cls d _ H => E cls d H) (parA n reb) b { nx := fun _ H' => Q .non H', rt := Q } (start N vs) H := by
  obtain ⟨Z, S, ds, mk, w, r, o⟩ := h
  have hd : ds.length = n := r.length.trans hn
  unfold mkF at o
  by_cases hc : ds.length = n ∧ n ≤ m
  · rw [if_pos hc] at o
    have w0 : Wd Z H (fun a => S a ∨ Fp0 a) := w.less fun a x => x.elim id False.elim
    obtain ⟨Z1, S1, st, m1, r1⟩ := reFrz_ok (reb := reb) (i := 0) w0 (fun _ _ x => x) r
    have st' : Step Z H S Z1 H S1 := ⟨st.wd.less fun a x => .inl x, st.zz, fun _ _ _ e _ => e, fun a x => .inl (m1 a x), fun a o e => (st.znew a o e).elim .inl fun y => .inr (y.elim (fun z => z.elim .inl False.elim) .inr)⟩
    have er : EnvR K Z1 H ((reFrz reb 0 ds).map some ++ List.replicate (m - n) none) (start N vs) S1 := by
      have q := env_start (m - n) (mk.same st.zz) r1
      unfold L2.start
      rw [hm, hn]
      exact q
    refine ⟨Z1, _, S1, st'.wd, er, ?_⟩
    have back : ∀ {ρ' : Env} {as : List D} {σ' : Sl} {Z' H' : Hp} {S' : Fp}, Same Z1 Z' → Keep (parA n reb) (start N vs) σ' → EnvR K Z' H' ρ' σ' S' → argsBack reb ρ' 0 (reFrz reb 0 ds) = some as → RepL K Z' H' as vs S' := fun {ρ' as σ' Z' H' S'} zz kp er' ab =>
      back_ok r1 zz (fun j d e mm => reFrz_plain e mm) (held_of kp (by omega) fun j v e => by rw [Nat.zero_add]; exact start_get e) (fun _ _ => rfl) er' ab
    cases e1 : b ((reFrz reb 0 ds).map some ++ List.replicate (m - n) none) with
    | stuck => rw [e1] at o; exact o
    | exc x ρ' =>
      simp only [e1] at o
      cases e2 : argsBack reb ρ' 0 (reFrz reb 0 ds) with
      | none => rw [e2] at o; exact o.elim
      | some as =>
        simp only [e2] at o
        exact fun σ' kp cls dd Z' H' S' st2 er2 xr => o cls dd Z' H' S' (st'.trans st2) (back st2.zz kp er2 e2) xr
    | ok f ρ' =>
      simp only [e1] at o
      intro σ' v Z' H' S' Sd kp st2 dj er2 fr
      cases f with
      | bk => exact o.elim
      | ct => exact o.elim
      | nx =>
        simp only at o
        cases e2 : argsBack reb ρ' 0 (reFrz reb 0 ds) with
        | none => rw [e2] at o; exact o.elim
        | some as =>
          simp only [e2] at o
          exact o .non Z' H' S' Fp0 ((st'.trans st2).less fun a x => x.elim .inl False.elim) (fun _ _ x => x) (back st2.zz kp er2 e2) rfl
      | rt d =>
        simp only at o
        cases e2 : argsBack reb ρ' 0 (reFrz reb 0 ds) with
        | none => rw [e2] at o; exact o.elim
        | some as =>
          simp only [e2] at o
          exact o v Z' H' S' Sd (st'.trans st2) dj (back st2.zz kp er2 e2) fr
  · rw [if_neg hc] at o
    exact o.elim
end
section
variable {P : Program} {w : World} {K : PySem.W.Frag} {mg : Str → Option Value} {base : Heap}
/-- the context in which the body of a def at f runs -/
abbrev cxG (P : Program) (w : World) (K : PySem.W.Frag) (mg : Str → Option Value) (base : Heap) (N : List Str) (qual : Str) (sc : Scope) (f : Addr) (cdv : Value) (A : Around) (outer : List PySem.Env) (s : Shared) (H : Hp) (E : XK) : Cx :=
  cxOf (L2.CX P w) P w K mg base N qual sc f cdv A outer s H E
theorem fnGc {x qual : Str} {st : Stmt} {f : Addr} {fd : FuncData} {N ps : List Str} {k m : Nat} {reb : List Nat} {b : M Fl} (F : Fun K x qual st f fd) (Sc : FnScope N ps (defScope st)) (hm : N.length = m)
    (body : ∀ (cdv : Value) (A : Around) (outer : List PySem.Env) (s : Shared) (H : Hp) (E : XK), fd.code = cdv → A.guards = some [] → Room k (A.deeper (envOfC qual (defScope st) s.heap.objs.size f cdv)) →
      PSs (cxG P w K mg base N qual (defScope st) f cdv A outer s H E) (defBody st) (tS K mg (fun cls d _ H => E cls d H) (parA ps.length reb) b)) :
    FnG P w K mg base (k + 1) f fd ps (mkF ps.length m reb b) := by
  obtain ⟨oc, od, kV, doc, pm, an, cdv, ct, osl, rfl, lk, hcd⟩ := F.ex
  refine ⟨mkF_len, fun A outer s H args us vs Q E hgd hr e0 hb r hsp => ?_⟩
  have hl : vs.length = ps.length := spG_len mkF_len hsp
  have KX : K.In s.heap := e0.mod.kin.keeps fun b o e => (e0.bs b o e).1
  have lim : s.heap.NoLimit := e0.mod.nolimit.keeps fun b o e => (e0.bs b o e).1
  refine codeAny_call_function hr.depth (KX _ _ lk) rfl Sc.co Sc.gen rfl (PySem.W.codeRec_of KX hcd) (hb _ _ _ _ ?_)
  refine wpAny_newFunctionEnv_cells Sc.kind (fun y hy => ?_) fun env he s1 z => ?_
  · rcases Sc.par y.1 (List.of_mem_zip (a := y.1) (b := y.2) hy).1 with q | q
    · exact .inl q
    · exact .inr ⟨q, PySem.W.cellsFrom_some _ _ _ (.inl q)⟩
  · subst he
    refine ⟨lim.keeps z.toInCall.keep, codeAny_func ?_⟩
    have ht := body cdv A outer s H E rfl hgd (hr.deeper _)
    have I : Inv (cxG P w K mg base N qual (defScope st) f cdv A outer s H E) [] (start N vs) H s1 := inv_start Sc hr.hd e0 hl r z
    refine wpAny_mono (ht.run [] s1 (start N vs) H _ I (body_in hm hl hsp)) (fun fl s' hs => ?_) fun _ _ hs => hs
    cases fl with
    | ret u =>
      obtain ⟨v, σ', H', J, rv, q⟩ := hs
      exact ⟨v, H', J.os, J.bare, J.base, J.hok, rv, q⟩
    | next =>
      obtain ⟨σ', H', J, q⟩ := hs
      exact ⟨V.non, H', J.os, J.bare, J.base, J.hok, rfl, q⟩
    | brk =>
      obtain ⟨_, _, _, q⟩ := hs
      exact q.elim
    | cont =>
      obtain ⟨_, _, _, q⟩ := hs
      exact q.elim
theorem fnG {x qual : Str} {st : Stmt} {f : Addr} {fd : FuncData} {N ps : List Str} {k m : Nat} {reb : List Nat} {b : M Fl} (F : Fun K x qual st f fd) (Sc : FnScope N ps (defScope st)) (hm : N.length = m)
    (body : ∀ (cdv : Value) (A : Around) (outer : List PySem.Env) (s : Shared) (H : Hp) (E : XK), A.guards = some [] → Room k (A.deeper (envOfC qual (defScope st) s.heap.objs.size f cdv)) →
      PSs (cxG P w K mg base N qual (defScope st) f cdv A outer s H E) (defBody st) (tS K mg (fun cls d _ H => E cls d H) (parA ps.length reb) b)) :
    FnG P w K mg base (k + 1) f fd ps (mkF ps.length m reb b) := fnGc F Sc hm fun cdv A outer s H E _ h1 h2 => body cdv A outer s H E h1 h2
end
end Pm
namespace Pm
open PySem PySem.Spec PyProof.Rows L2
def takes (ρ : Env) : List EV → Option (List D × Env)
  | [] => some ([], ρ)
  | .val d :: es => match takes ρ es with
    | some (ds, ρ') => some (d :: ds, ρ')
    | none => none
  | .ref i :: es => match ρ.getD i none with
    | none => none
    | some d => match takes (if d.plain then ρ else ρ.set i none) es with
      | some (ds, ρ') => some (d :: ds, ρ')
      | none => none
def puts : List EV → List D → List D → Env → Env
  | .ref i :: es, d :: ds, a :: as, ρ => puts es ds as (if d.plain then ρ else ρ.set i (some a))
  | .val _ :: es, _ :: ds, _ :: as, ρ => puts es ds as ρ
  | _, _, _, ρ => ρ
def callF (g : FSem) (fs : M (List EV)) : M EV := bnd fs fun es => fun ρ => match takes ρ es with
  | none => .stuck
  | some (ds, ρ1) => match g ds with
    | .stuck => .stuck
    | .ret d as => .ok (.val d) (puts es ds as ρ1)
    | .exc x as => .exc x (puts es ds as ρ1)
section
variable {K : PySem.W.Frag} {mg : Str → Option Value} {W : WX} {Z H : Hp} {S : Fp} {σ : Sl} {X : Cx}
theorem takes_ok : ∀ {es : List EV} {vs : List V} {ds : List D} {ρ ρ' : Env} {S Sa : Fp}, EnvR K Z H ρ σ S → EVsR K Z H σ es vs Sa → (∀ a, S a → Sa a → False) → takes ρ es = some (ds, ρ') →
    ∃ S1 T, (∀ a, S1 a → S a) ∧ (∀ a, T a → S a ∨ Sa a) ∧ (∀ a, S1 a → T a → False) ∧ EnvR K Z H ρ' σ S1 ∧ RepL K Z H ds vs T
  | [], [], ds, ρ, ρ', S, Sa, er, _, dj, h => by
    simp only [takes, Option.some.injEq, Prod.mk.injEq] at h
    obtain ⟨rfl, rfl⟩ := h
    exact ⟨S, Fp0, fun _ x => x, fun _ x => x.elim, fun _ _ x => x, er, trivial⟩
  | [], _ :: _, _, _, _, _, _, _, r, _, _ => r.elim
  | _ :: _, [], _, _, _, _, _, _, r, _, _ => r.elim
  | .val d :: es, v :: vs, ds, ρ, ρ', S, Sa, er, ⟨A1, A2, a1, a2, aj, r, q⟩, dj, h => by
    simp only [takes] at h
    cases e : takes ρ es with
    | none => rw [e] at h; cases h
    | some p =>
      obtain ⟨ds', ρ1⟩ := p
      simp only [e, Option.some.injEq, Prod.mk.injEq] at h
      obtain ⟨rfl, rfl⟩ := h
      obtain ⟨S1, T, m1, m2, tj, er1, rl⟩ := takes_ok er q (fun a x y => dj a x (a2 a y)) e
      refine ⟨S1, fun a => A1 a ∨ T a, m1, fun a x => x.elim (fun y => .inr (a1 a y)) fun y => (m2 a y).elim .inl fun z => .inr (a2 a z), fun a x y => y.elim (fun z => dj a (m1 a x) (a1 a z)) (tj a x), er1, ?_⟩
      refine ⟨A1, T, fun a x => .inl x, fun a x => .inr x, fun a x y => (m2 a y).elim (fun z => dj a z (a1 a x)) fun z => aj a x z, r, rl⟩
  | .ref i :: es, v :: vs, ds, ρ, ρ', S, Sa, er, ⟨A1, A2, a1, a2, aj, r, q⟩, dj, h => by
    simp only [takes] at h
    cases e0 : ρ.getD i none with
    | none => simp only [e0] at h; cases h
    | some d =>
      simp only [e0] at h
      obtain ⟨u, U1, U2, hu, u1, u2, uj, ru, eu⟩ := er.take (getD_some e0)
      have ev : u = v := by
        have r' : σ[i]? = some (some v) := r
        rw [hu] at r'
        simpa using r'
      subst ev
      cases hp : d.plain with
      | true =>
        simp only [hp, if_true] at h
        cases e : takes ρ es with
        | none => rw [e] at h; cases h
        | some p =>
          obtain ⟨ds', ρ1⟩ := p
          simp only [e, Option.some.injEq, Prod.mk.injEq] at h
          obtain ⟨rfl, rfl⟩ := h
          obtain ⟨S1, T, m1, m2, tj, er1, rl⟩ := takes_ok er q (fun a x y => dj a x (a2 a y)) e
          exact ⟨S1, T, m1, fun a x => (m2 a x).elim .inl fun z => .inr (a2 a z), tj, er1, Fp0, T, fun _ x => x.elim, fun _ x => x, fun _ x _ => x, ru.plain hp, rl⟩
      | false =>
        simp only [hp, Bool.false_eq_true, if_false] at h
        cases e : takes (ρ.set i none) es with
        | none => rw [e] at h; cases h
        | some p =>
          obtain ⟨ds', ρ1⟩ := p
          simp only [e, Option.some.injEq, Prod.mk.injEq] at h
          obtain ⟨rfl, rfl⟩ := h
          obtain ⟨S1, T, m1, m2, tj, er1, rl⟩ := takes_ok eu q (fun a x y => dj a (u2 a x) (a2 a y)) e
          refine ⟨S1, fun a => U1 a ∨ T a, fun a x => u2 a (m1 a x), fun a x => x.elim (fun y => .inl (u1 a y)) fun y => (m2 a y).elim (fun z => .inl (u2 a z)) fun z => .inr (a2 a z), fun a x y => y.elim (fun z => uj a z (m1 a x)) (tj a x), er1, ?_⟩
          exact ⟨U1, T, fun a x => .inl x, fun a x => .inr x, fun a x y => (m2 a y).elim (fun z => uj a x z) fun z => dj a (u1 a x) (a2 a z), ru, rl⟩
theorem puts_ok : ∀ {es : List EV} {vs : List V} {ds as : List D} {ρ : Env} {Z0 H0 : Hp} {S S0 T : Fp}, EnvR K Z H ρ σ S → EVsR K Z0 H0 σ es vs S0 → RepL K Z H as vs T → (∀ a, S a → T a → False) → EnvR K Z H (puts es ds as ρ) σ (fun a => S a ∨ T a)
  | [], _, ds, as, ρ, _, _, S, _, T, er, _, _, _ => by
    unfold puts
    exact er.move (Same.refl Z) (fun _ _ _ x => x) fun a x => .inl x
  | _ :: _, [], _, _, _, _, _, _, _, _, _, r, _, _ => r.elim
  | e :: es, v :: vs, [], as, ρ, _, _, S, _, T, er, _, _, _ => by
    have q : puts (e :: es) [] as ρ = ρ := by cases e <;> rfl
    rw [q]
    exact er.move (Same.refl Z) (fun _ _ _ x => x) fun a x => .inl x
  | e :: es, v :: vs, d :: ds, [], ρ, _, _, S, _, T, er, _, rl, _ => rl.elim
  | .val d' :: es, v :: vs, d :: ds, a' :: as, ρ, Z0, H0, S, S0, T, er, ⟨A1, A2, _, _, _, r, q⟩, ⟨T1, T2, t1, t2, tj, ra, rl⟩, dj =>
    (puts_ok (ds := ds) er q rl fun a x y => dj a x (t2 a y)).move (Same.refl Z) (fun _ _ _ x => x) fun a x => x.elim .inl fun y => .inr (t2 a y)
  | .ref i :: es, v :: vs, d :: ds, a' :: as, ρ, Z0, H0, S, S0, T, er, ⟨A1, A2, _, _, _, r, q⟩, ⟨T1, T2, t1, t2, tj, ra, rl⟩, dj => by
    unfold puts
    cases hp : d.plain with
    | true =>
      rw [if_pos rfl]
      exact (puts_ok (ds := ds) er q rl fun a x y => dj a x (t2 a y)).move (Same.refl Z) (fun _ _ _ x => x) fun a x => x.elim .inl fun y => .inr (t2 a y)
    | false =>
      rw [if_neg Bool.false_ne_true]
      have r' : σ[i]? = some (some v) := r
      obtain ⟨hi, e1⟩ := List.getElem?_eq_some_iff.mp r'
      have er2 : EnvR K Z H (ρ.set i (some a')) σ (fun a => S a ∨ T1 a) := by
        have p := EnvR.put (S := fun a => S a ∨ T1 a) (er.drop i) (by rw [er.length]; exact hi) ra (fun a x => .inr x) (fun a x => .inl x) fun a x y => dj a y (t1 a x)
        have es' : σ.set i (some v) = σ := by rw [← e1, List.set_getElem_self]
        rw [es'] at p
        exact p
      exact (puts_ok (ds := ds) er2 q rl fun a x y => x.elim (fun z => dj a z (t2 a y)) fun z => tj a z y).move (Same.refl Z) (fun _ _ _ x => x) fun a x => x.elim (fun y => y.elim .inl fun z => .inr (t1 a z)) fun y => .inr (t2 a y)
theorem tE_call {g : FSem} {fs : M (List EV)} {Q : VK} (h : tE K mg W (callF g fs) σ H Q) : tA K mg W fs σ H fun vs H1 => spG K mg g vs H1 Q (fun cls d H => W cls d σ H) := by
  obtain ⟨Z, ρ, S, w, er, o⟩ := h
  refine ⟨Z, ρ, S, w, er, ?_⟩
  simp only [callF, bnd] at o
  cases e1 : fs ρ with
  | stuck => rw [e1] at o; exact o
  | exc x ρ1 => rw [e1] at o; exact o
  | ok es ρ1 =>
    simp only [e1] at o
    intro vs Z1 H1 S1 Sa st1 dj1 er1 r1
    cases e2 : takes ρ1 es with
    | none => simp only [e2] at o; exact o.elim
    | some p =>
      obtain ⟨ds, ρ2⟩ := p
      simp only [e2] at o
      obtain ⟨S2, T, m1, m2, tj, er2, rl⟩ := takes_ok er1 r1 dj1 e2
      have w2 : Wd Z1 H1 (fun a => T a ∨ S2 a) := st1.wd.less fun a x => x.elim (m2 a) fun y => .inl (m1 a y)
      have st1' : Step Z H S Z1 H1 (fun a => T a ∨ S2 a) := st1.less fun a x => x.elim (m2 a) fun y => .inl (m1 a y)
      refine ⟨Z1, T, ds, er2.marks, w2.less fun a x => .inl x, rl, ?_⟩
      cases e3 : g ds with
      | stuck => simp only [e3] at o; exact o
      | ret d as =>
        simp only [e3] at o
        intro v Z3 H3 S3 Sd st3 dj3 ra rd
        have st3' := st3.frame w2 fun a x y => tj a y x
        have ap := st3.apart (fun a x => w2.live a (.inr x)) fun a x y => tj a y x
        have er3 : EnvR K Z3 H3 ρ2 σ S2 := st3.stayE (fun a x y => tj a y x) er2
        have er4 := puts_ok (ds := ds) er3 r1 ra fun a x y => ap a (.inl y) x
        exact o v Z3 H3 (fun a => S2 a ∨ S3 a) Sd ((st1'.trans st3').less fun a x => x.elim (fun y => y.elim .inr fun z => .inl (.inl z)) fun y => .inl (.inr y)) (fun a x y => x.elim (fun z => ap a (.inr y) z) fun z => dj3 a z y) er4 rd
      | exc x as =>
        simp only [e3] at o
        intro cls dd Z3 H3 S3 st3 ra xr
        have st3' := st3.frame w2 fun a x y => tj a y x
        have ap := st3.apart (fun a x => w2.live a (.inr x)) fun a x y => tj a y x
        have er3 : EnvR K Z3 H3 ρ2 σ S2 := st3.stayE (fun a x y => tj a y x) er2
        have er4 := puts_ok (ds := ds) er3 r1 ra fun a x y => ap a y x
        exact o cls dd Z3 H3 (fun a => S2 a ∨ S3 a) ((st1'.trans st3').less fun a x => x.elim .inr .inl) er4 xr
/-- a def of the module, called by its place -/
theorem run_G {k : Nat} {f : Addr} {fd : FuncData} {ps : List Str} {g : FSem} {pins : List (Addr × Obj)} {s : Shared} {Q : VK} {us : List Value} {kws : List (Str × Value)} {ws : List Value} {vs : List V} (F : FnG X.prog X.w X.K X.mg X.base k f fd ps g) (hgd : X.A.guards = some []) (hr : Room k X.A)
    (tk : Takes X W) (hb : ws.length = ps.length → BindsTo s fd ⟨us, kws⟩ (ps.zip ws)) (I : Inv X pins σ H s) (r : Vals vs ws) (h : spG X.K X.mg g vs H Q (fun cls d H => W cls d σ H)) :
    codeAny (model X.prog X.w) X.A (.call (.ref f) ⟨us, kws⟩) (fun r s' => match r with
      | .ok (.ret u) => EP X pins σ Q u s'
      | .ok _ => False
      | .error e => X.xe e s') s := by
  have hl : ws.length = ps.length := by rw [← r.length]; exact spG_len F.len h
  refine codeAny_mono (F.run X.A X.stack s H ⟨us, kws⟩ ws vs Q _ hgd hr I.env0 (hb hl) r h) fun r s' hq => ?_
  cases r with
  | error e => exact passAt tk σ pins H s e s' I hq
  | ok fl =>
    cases fl with
    | ret u => exact I.after hq
    | next => exact hq.elim
    | brk => exact hq.elim
    | cont => exact hq.elim
theorem pe_callG {k : Nat} {f : Addr} {fd : FuncData} {ps : List Str} {g : FSem} {x : Str} {p pos : Pos} {e : Expr} {es : List Expr} {fs : M (List EV)} (F : FnG X.prog X.w X.K X.mg X.base k f fd ps g) (hgd : X.A.guards = some []) (hr : Room k X.A) (tk : Takes X W)
    (hg : Gl X x) (hm : X.mg x = some (.ref f)) (hk : PySem.W.keepIn X.K (.ref f) = true) (hb : Binds X.K fd ps []) (ha : PA X (e :: es) (tA X.K X.mg W fs)) (hdb : (x == ("__debug__" : Str)) = false)
    (he : starEach (e :: es) X.env = (false, eval e X.env) :: starEach es X.env) (hpl : (backTo pos (starEach es X.env)).any (·.1) = false) : PE X (.Call (.Name x p) (e :: es) [] pos) (tE X.K X.mg W (callF g fs)) := by
  refine ⟨fun pins s σ H Q I h => ?_⟩
  refine wpAny_Call_Name_kw (ld_glob I hg hm ?_ hdb)
  refine PySem.W.callWith_K (h₀ := X.base) I.ok.mod.kin hk (thn (ha.run pos pins s σ H _ I (tE_call h)) fun us s1 ⟨vs, H1, I1, r, q⟩ => ⟨I1.kIn, ?_⟩) he hpl
  refine wpAny_call (codeAny_mono (run_G (ws := us) F hgd hr tk (fun hl => by have b := hb s1 us I1.kIn (by rw [List.append_nil]; exact hl); rw [List.append_nil] at b; exact b) I1 r q) fun r s' hq => ?_)
  cases r with
  | error e => exact hq
  | ok fl =>
    cases fl with
    | ret u => exact hq
    | next => exact hq.elim
    | brk => exact hq.elim
    | cont => exact hq.elim
end
end Pm
namespace Pm
open PySem PySem.Spec PyProof.Rows L2
section
variable {K : PySem.W.Frag} {mg : Str → Option Value} {W : WX} {Z H : Hp} {S : Fp} {σ : Sl} {X : Cx}
theorem tE_mono {f : M EV} {Q Q' : VK} (i : ∀ v H, Q v H → Q' v H) (h : tE K mg W f σ H Q) : tE K mg W f σ H Q' := by
  obtain ⟨Z, ρ, S, w, er, o⟩ := h
  refine ⟨Z, ρ, S, w, er, ?_⟩
  cases e : f ρ with
  | stuck => rw [e] at o; exact o
  | exc x ρ1 => rw [e] at o; exact o
  | ok ev ρ1 =>
    rw [e] at o
    exact fun v Z' H' S' Sd st dj er r => i _ _ (o v Z' H' S' Sd st dj er r)
def Opd (X : Cx) (f : Value → Value → Sem Value) (g : List D → Option D) : Prop := ∃ r : R2, OpR X f r ∧ Snd X (fun vs H Q => ∃ x y, vs = [x, y] ∧ r x y H Q) g
theorem two_of {fa fb : M EV} {r : R2} {Q : VK} (h : tA K mg W (aCons fa (aCons fb aNil)) σ H fun vs H1 => ∃ x y, vs = [x, y] ∧ r x y H1 Q) : tOp r (tE K mg W fa) (tE K mg W fb) σ H Q := by
  refine tE_mono (fun x H1 q => ?_) (tA_cons h)
  refine tE_mono (fun y H2 q => ?_) (tA_cons q)
  have q' := tA_nil q
  obtain ⟨x', y', e, q''⟩ := q'
  cases e
  exact q''
abbrev bin (g : List D → Option D) (fa fb : M EV) : M EV := app g (aCons fa (aCons fb aNil))
abbrev un (g : List D → Option D) (fa : M EV) : M EV := app g (aCons fa aNil)
theorem pe_bin {a b : Expr} {op : Operator} {fa fb : M EV} {g : List D → Option D} {pos : Pos} (ho : Opd X (binaryOp op) g) (ha : PE X a (tE X.K X.mg W fa)) (hb : PE X b (tE X.K X.mg W fb)) : PE X (.BinOp a op b pos) (tE X.K X.mg W (bin g fa fb)) := by
  obtain ⟨r, h1, h2⟩ := ho
  exact PE.of (pe_op h1 ha hb) fun σ H Q q => two_of (tE_app h2 q)
theorem pe_cmpG {a b : Expr} {op : CmpOp} {fa fb : M EV} {g : List D → Option D} {pos : Pos} (ho : Opd X (compareOp op) g) (ha : PE X a (tE X.K X.mg W fa)) (hb : PE X b (tE X.K X.mg W fb)) (hm : behindInMarks op b = false) : PE X (.Compare a [op] [b] pos) (tE X.K X.mg W (bin g fa fb)) := by
  obtain ⟨r, h1, h2⟩ := ho
  exact PE.of (pe_cmpR h1 ha hb hm) fun σ H Q q => two_of (tE_app h2 q)
theorem pt_cmpG {a b : Expr} {op : CmpOp} {fa fb : M EV} {g : List D → Option D} {pos : Pos} (ho : Opd X (compareOp op) g) (ha : PE X a (tE X.K X.mg W fa)) (hb : PE X b (tE X.K X.mg W fb)) (hm : behindInMarks op b = false) : PT X (.Compare a [op] [b] pos) (tT X.K X.mg W (tst (bin g fa fb))) := by
  obtain ⟨r, h1, h2⟩ := ho
  refine PT.of (pt_cmpR h1 ha hb hm) fun σ H Q q => ?_
  exact two_of (r := r) (tE_app h2 (tT_tst q))
theorem Opd.or {f : Value → Value → Sem Value} {g1 g2 g : List D → Option D} (h1 : Opd X f g1) (h2 : Opd X f g2) (hg : ∀ ds d, g ds = some d → g1 ds = some d ∨ g2 ds = some d) : Opd X f g := by
  obtain ⟨r1, a1, b1⟩ := h1
  obtain ⟨r2, a2, b2⟩ := h2
  refine ⟨_, OpR.or a1 a2, fun Z H S ds vs d Q w r e k => ?_⟩
  rcases hg ds d e with e | e
  · obtain ⟨x, y, ev, q⟩ := b1 Z H S ds vs d Q w r e k
    exact ⟨x, y, ev, .inl q⟩
  · obtain ⟨x, y, ev, q⟩ := b2 Z H S ds vs d Q w r e k
    exact ⟨x, y, ev, .inr q⟩
/-- nothing is made -/
theorem snd_pure {r : List V → Hp → VK → Prop} {g : List D → Option D} (h : ∀ (Z H : Hp) (S : Fp) (ds : List D) (vs : List V) (d : D) (Q : VK), Wd Z H S → RepB X.K Z H S ds vs → g ds = some d → (∀ v, Rep X.K Z H d v Fp0 → Q v H) → r vs H Q) : Snd X r g :=
  fun Z H S ds vs d Q w rb e k => h Z H S ds vs d Q w rb e fun v rv => k v Z H Fp0 w.nil (fun _ _ e => e) (fun _ _ x => x) rv
theorem rb1 {d : D} {vs : List V} (h : RepB K Z H S [d] vs) : ∃ v, vs = [v] ∧ Rep K Z H d v S := by
  cases vs with
  | nil => exact h.elim
  | cons v vs =>
    cases vs with
    | nil => exact ⟨v, rfl, h.1⟩
    | cons u us => exact h.2.elim
theorem rb2 {d e : D} {vs : List V} (h : RepB K Z H S [d, e] vs) : ∃ v u, vs = [v, u] ∧ Rep K Z H d v S ∧ Rep K Z H e u S := by
  cases vs with
  | nil => exact h.elim
  | cons v vs =>
    obtain ⟨u, rfl, r⟩ := rb1 h.2
    exact ⟨v, u, rfl, h.1, r⟩
/-- two ints -/
def on2I (g : Int → Int → Option D) : List D → Option D
  | [.int i, .int j] => g i j
  | _ => none
theorem on2I_inv {g : Int → Int → Option D} {ds : List D} {d : D} (h : on2I g ds = some d) : ∃ i j, ds = [.int i, .int j] ∧ g i j = some d := by
  unfold on2I at h
  split at h
  · exact ⟨_, _, rfl, h⟩
  · cases h
theorem opd_I {f : Value → Value → Sem Value} {C : Int → Int → Prop} {hv : Int → Int → V} {g : Int → Int → Option D} (ho : OpR X f (rI C hv)) (hg : ∀ i j d, g i j = some d → C i j ∧ ∀ Z H, Rep X.K Z H d (hv i j) Fp0) : Opd X f (on2I g) := by
  refine ⟨_, ho, snd_pure fun Z H S ds vs d Q w rb e k => ?_⟩
  obtain ⟨i, j, rfl, eg⟩ := on2I_inv e
  obtain ⟨v, u, rfl, rv, ru⟩ := rb2 rb
  obtain ⟨c, rd⟩ := hg i j d eg
  exact ⟨v, u, rfl, i, j, rv, ru, c, k _ (rd Z H)⟩
theorem opd_I0 {f : Value → Value → Sem Value} {hv : Int → Int → V} {g : Int → Int → Option D} (ho : OpR X f (rI0 hv)) (hg : ∀ i j d, g i j = some d → ∀ Z H, Rep X.K Z H d (hv i j) Fp0) : Opd X f (on2I g) := by
  refine ⟨_, ho, snd_pure fun Z H S ds vs d Q w rb e k => ?_⟩
  obtain ⟨i, j, rfl, eg⟩ := on2I_inv e
  obtain ⟨v, u, rfl, rv, ru⟩ := rb2 rb
  exact ⟨v, u, rfl, i, j, rv, ru, k _ (hg i j d eg Z H)⟩
def mulOk (i j : Int) : Bool := decide (i.natAbs < 2 ^ 64 ∨ j.natAbs < 2 ^ 64 ∨ i.natAbs.log2 + j.natAbs.log2 < 1000000)
def divOk (j : Int) : Bool := decide (j.natAbs.log2 < 9000)
def powOk (i j : Int) : Bool := decide (0 ≤ j ∧ j ≤ 1000000 ∧ i.natAbs < 2 ^ 64)
def iDiv (i j : Int) : Option D := if 0 < j then (if divOk j = true then some (.int (i / j)) else none) else if j < 0 then (if divOk j = true then some (.int (i.fdiv j)) else none) else none
def iMod (i j : Int) : Option D := if 0 < j then some (.int (i % j)) else if j < 0 then some (.int (i.fmod j)) else none
def iMul (i j : Int) : Option D := if mulOk i j = true then some (.int (i * j)) else none
def iPow (i j : Int) : Option D := if powOk i j = true then some (.int (i ^ j.toNat)) else none
def CDivA (i j : Int) : Prop := j ≠ 0 ∧ j.natAbs.log2 < 9000
theorem op_fdivA : OpR X (binaryOp .FloorDiv) (rI CDivA fun i j => .int (i.fdiv j)) := opI fun _ _ _ _ _ _ _ hc q => floordiv_int hc.1 q (.inl (PyProof.noPylong_of_log2 hc.2))
theorem mulOk_ok {i j : Int} (h : mulOk i j = true) : IntMulOk i j := by
  have h' := of_decide_eq_true h
  rcases h' with h' | h' | h'
  · exact .of_left (intBits_le_64 (by omega) (by omega))
  · exact .of_right (intBits_le_64 (by omega) (by omega))
  · exact CMulW.ok h'
theorem op_mulA : OpR X (binaryOp .Mult) (rI IntMulOk fun i j => .int (i * j)) := opI fun _ _ _ _ _ _ _ hc q => mul_int q hc
theorem iDiv_ok {i j : Int} {d : D} (h : iDiv i j = some d) : CDivA i j ∧ d = .int (i.fdiv j) := by
  unfold iDiv at h
  split at h
  · split at h
    · rename_i hj hd
      refine ⟨⟨by omega, of_decide_eq_true hd⟩, ?_⟩
      rw [Int.fdiv_eq_ediv_of_nonneg i (by omega)]
      exact (Option.some.inj h).symm
    · cases h
  · split at h
    · split at h
      · rename_i hj hd
        exact ⟨⟨by omega, of_decide_eq_true hd⟩, (Option.some.inj h).symm⟩
      · cases h
    · cases h
theorem iMod_ok {i j : Int} {d : D} (h : iMod i j = some d) : j ≠ 0 ∧ d = .int (i.fmod j) := by
  unfold iMod at h
  split at h
  · refine ⟨by omega, ?_⟩
    rw [Int.fmod_eq_emod_of_nonneg i (by omega)]
    exact (Option.some.inj h).symm
  · split at h
    · exact ⟨by omega, (Option.some.inj h).symm⟩
    · cases h
theorem iMul_ok {i j : Int} {d : D} (h : iMul i j = some d) : IntMulOk i j ∧ d = .int (i * j) := by
  unfold iMul at h
  split at h
  · rename_i c
    exact ⟨mulOk_ok c, (Option.some.inj h).symm⟩
  · cases h
theorem opd_divI : Opd X (binaryOp .FloorDiv) (on2I iDiv) := opd_I op_fdivA fun i j d h => ⟨(iDiv_ok h).1, fun Z H => by rw [(iDiv_ok h).2]; rfl⟩
theorem opd_modI : Opd X (binaryOp .Mod) (on2I iMod) := opd_I op_modN fun i j d h => ⟨(iMod_ok h).1, fun Z H => by rw [(iMod_ok h).2]; rfl⟩
theorem opd_mulI : Opd X (binaryOp .Mult) (on2I iMul) := opd_I op_mulA fun i j d h => ⟨(iMul_ok h).1, fun Z H => by rw [(iMul_ok h).2]; rfl⟩
theorem opd_powI : Opd X (binaryOp .Pow) (on2I iPow) := opd_I op_pow fun i j d h => by
  unfold iPow at h
  split at h
  · rename_i c
    refine ⟨show 0 ≤ j ∧ j ≤ 1000000 ∧ i.natAbs < 2 ^ 64 from of_decide_eq_true c, fun Z H => ?_⟩
    rw [← Option.some.inj h]
    rfl
  · cases h
def iAdd (i j : Int) : Option D := some (.int (i + j))
def iSub (i j : Int) : Option D := some (.int (i - j))
theorem opd_addI : Opd X (binaryOp .Add) (on2I iAdd) := opd_I0 op_add fun i j d h Z H => by rw [← Option.some.inj h]; rfl
theorem opd_subI : Opd X (binaryOp .Sub) (on2I iSub) := opd_I0 op_sub fun i j d h Z H => by rw [← Option.some.inj h]; rfl
theorem iopd_addI : Opd X (inplaceOp .Add) (on2I iAdd) := opd_I0 iop_add fun i j d h Z H => by rw [← Option.some.inj h]; rfl
def iLt (i j : Int) : Option D := some (.bl (decide (i < j)))
def iLe (i j : Int) : Option D := some (.bl (decide (i ≤ j)))
def iGt (i j : Int) : Option D := some (.bl (decide (j < i)))
def iGe (i j : Int) : Option D := some (.bl (decide (j ≤ i)))
theorem opd_ltI : Opd X (compareOp .Lt) (on2I iLt) := opd_I0 op_lt fun i j d h Z H => by rw [← Option.some.inj h]; rfl
theorem opd_leI : Opd X (compareOp .LtE) (on2I iLe) := opd_I0 op_le fun i j d h Z H => by rw [← Option.some.inj h]; rfl
theorem opd_gtI : Opd X (compareOp .Gt) (on2I iGt) := opd_I0 op_gt fun i j d h Z H => by rw [← Option.some.inj h]; rfl
theorem opd_geI : Opd X (compareOp .GtE) (on2I iGe) := opd_I0 op_ge fun i j d h Z H => by rw [← Option.some.inj h]; rfl
end
end Pm
set_option maxHeartbeats 2000000
namespace Pm
open PySem PySem.Spec PyProof.Rows L2 SeqAt
theorem str_eq_dict (b : Str) (u : Tok) (l : Addr) (es : Array DictEntry) (n : Nat) (dd : Option Addr) (sl : Array (Option Value)) :
    Meets (Builtin.«str.__eq__» ⟨[.str b u, .ref l], []⟩) (fun _ R s => s.heap.get? l = some { cls := .type "dict", dict := dd, data := .dict es n, slots := sl } ∧ R (.ok (.ret .notImplemented)) s) :=
  .of_wp fun prog w A R s h => by
    obtain ⟨hp, g, d, tk, os⟩ := s
    obtain ⟨hl, h⟩ := h
    wp_walk using wpAny_loadPart' hl, wpAny_load hl
    exact ⟨_, rfl, h⟩
theorem dict_eq_str (b : Str) (u : Tok) (l : Addr) (es : Array DictEntry) (n : Nat) (dd : Option Addr) (sl : Array (Option Value)) :
    Meets (Builtin.«dict.__eq__» ⟨[.ref l, .str b u], []⟩) (fun _ R s => s.heap.get? l = some { cls := .type "dict", dict := dd, data := .dict es n, slots := sl } ∧ R (.ok (.ret .notImplemented)) s) :=
  .of_wp fun prog w A R s h => by
    obtain ⟨hp, g, d, tk, os⟩ := s
    obtain ⟨hl, h⟩ := h
    have f1 := F.sub_str_dict
    wp_walk using wpAny_loadPart' hl, wpAny_load hl
    exact ⟨_, rfl, h⟩
theorem rc_str_dict {A : Around} {s : Shared} {l : Addr} {es : Array DictEntry} {n : Nat} {dd : Option Addr} {sl : Array (Option Value)} (b : Str) (u : Tok) (ho : s.heap.get? l = some { cls := .type "dict", dict := dd, data := .dict es n, slots := sl }) (hu : A.units < cLine) : RcAt A s (.str b u) (.ref l) false := fun prog w E Q h =>
  rc_eq_decline_or (k := false) (typeIs_str s b u) ⟨_, ho, rfl⟩ (by decide) F.sub_dict_str F.slot_str_eq F.slot_dict_eq_refl
    (fun _ hq => call_meets F.slot_str_eq (typeIs_str s b u) F.entry_str_eq (F.args_str_eq_2 _ _) (str_eq_dict b u l es n dd sl) ⟨ho, hq⟩)
    (fun _ hq => call_meets F.slot_dict_eq_refl ⟨_, ho, rfl⟩ F.entry_dict_eq (F.args_dict_eq_2 _ _) (dict_eq_str b u l es n dd sl) ⟨ho, hq⟩)
    (fun _ hq => wpAny_of_eq (rfl : isSame (.str b u) (.ref l) = pure false) hq) (.inr hu) h
def rEqSD : R2 := fun x y H Q => ∃ (b : Str) (a : Addr) (kvs : List (Key × V)), x = .str b ∧ y = .ref a ∧ Rd H a (.dK kvs) ∧ Q (.bl false) H
theorem op_eq_sd {X : Cx} (hu : X.A.units + 64 < cLine) : OpR X (compareOp .Eq) rEqSD := by
  intro pins s σ H x y v u Q I rx ry h
  obtain ⟨b, a, kvs, rfl, rfl, hr, q⟩ := h
  obtain ⟨t, rfl⟩ := rx
  cases ry
  obtain ⟨_, _, vs, _, dd⟩ := dk_rd I.hok hr
  obtain ⟨⟨cls, dx, data, sl⟩, es, ep, h1, h2, h3, h4⟩ := dd
  simp only at h2 h3
  have hc : cls = .type "dict" := h2.1
  subst hc
  subst h3
  exact rc_str_dict (A := X.A) b t h1 (by omega) _ _ X.xe _ ⟨.bl false, H, I, rfl, q⟩
end Pm
namespace Pm
open PySem PySem.Spec PyProof.Rows L2
mutual
def toP : D → PyData
  | .non => .none
  | .bl b => .bool b
  | .int i => .int i
  | .str x => .str x
  | .op _ => .none
  | .node _ .lst xs => .list (toPL xs)
  | .node _ .tup xs => .tuple (toPL xs)
  | .node _ _ _ => .none
def toPL : List D → List PyData
  | [] => []
  | d :: ds => toP d :: toPL ds
end
mutual
def deq : D → D → Bool
  | .non, .non => true
  | .bl a, .bl b => a == b
  | .bl a, .int j => (if a then 1 else 0) == j
  | .int i, .bl b => i == (if b then 1 else 0)
  | .int i, .int j => i == j
  | .str x, .str y => x == y
  | .node _ .lst xs, .node _ .lst ys => deqL xs ys
  | .node _ .tup xs, .node _ .tup ys => deqL xs ys
  | _, _ => false
def deqL : List D → List D → Bool
  | [], [] => true
  | x :: xs, y :: ys => deq x y && deqL xs ys
  | _, _ => false
end
/-- data that are compared and shown: at most n deep, numbers of less than 1900 bits if they are to be shown -/
def shp : Nat → D → Bool
  | _, .non => true
  | _, .bl _ => true
  | _, .int _ => true
  | _, .str x => PyData.strOk x
  | n + 1, .node _ .lst xs => xs.all (shp n)
  | n + 1, .node _ .tup xs => xs.all (shp n)
  | _, _ => false
def shw : Nat → D → Bool
  | _, .non => true
  | _, .bl _ => true
  | _, .int i => decide (i.natAbs.log2 < 1900)
  | _, .str _ => true
  | n + 1, .node _ .lst xs => xs.all (shw n)
  | n + 1, .node _ .tup xs => xs.all (shw n)
  | _, _ => false
section
variable {K : PySem.W.Frag} {mg : Str → Option Value} {W : WX} {Z H : Hp} {S : Fp} {σ : Sl} {X : Cx}
theorem rep_lst {b : Bool} {ds : List D} {v : V} (w : Sam Z H) (r : Rep K Z H (.node b .lst ds) v S) : ∃ a ys, v = .ref a ∧ H a = some (.lst ys) ∧ RepL K Z H ds ys S := by
  cases b with
  | false =>
    obtain ⟨a, ys, e, c, q⟩ := r
    exact ⟨a, ys, e, w.get _ _ c nt_lst, q⟩
  | true =>
    obtain ⟨a, ys, S', e, c, sa, na, sub, q⟩ := r
    exact ⟨a, ys, e, c, q.move (Same.refl Z) (fun _ _ _ x => x) sub⟩
theorem rep_tup {b : Bool} {ds : List D} {v : V} (w : Sam Z H) (r : Rep K Z H (.node b .tup ds) v S) : ∃ a ys, v = .ref a ∧ SqT K H a ys ∧ RepL K Z H ds ys S := by
  cases b with
  | false =>
    obtain ⟨a, ys, e, c, q⟩ := r
    exact ⟨a, ys, e, SqT.sam c w, q⟩
  | true =>
    obtain ⟨a, ys, e, c, q⟩ := r
    exact ⟨a, ys, e, SqT.sam c.1 w, q⟩
theorem dp_all (w : Sam Z H) {n : Nat} (ih : ∀ (d : D) (v : V) (S : Fp), shp n d = true → Rep K Z H d v S → Dp K H v (toP d)) : ∀ {ds : List D} {vs : List V} {S : Fp}, ds.all (shp n) = true → RepL K Z H ds vs S → DpAll K H vs (toPL ds)
  | [], [], _, _, _ => .nil
  | [], _ :: _, _, _, h => h.elim
  | _ :: _, [], _, _, h => h.elim
  | d :: ds, v :: vs, S, h, ⟨S1, S2, s1, s2, dj, r, q⟩ => by
    rw [List.all_cons, Bool.and_eq_true] at h
    exact .cons (ih d v S1 h.1 r) (dp_all w ih h.2 q)
theorem dp_of (w : Sam Z H) : ∀ (n : Nat) (d : D) (v : V) (S : Fp), shp n d = true → Rep K Z H d v S → Dp K H v (toP d) := by
  intro n
  induction n with
  | zero =>
    intro d v S h r
    cases d with
    | non => obtain rfl : v = .non := r; exact .non
    | bl b => obtain rfl : v = .bl b := r; exact .bl b
    | int i => obtain rfl : v = .int i := r; exact .int i
    | str x => obtain rfl : v = .str x := r; exact .str x
    | op u => simp [shp] at h
    | node b k xs => cases k <;> simp [shp] at h
  | succ n ih =>
    intro d v S h r
    cases d with
    | non => obtain rfl : v = .non := r; exact .non
    | bl b => obtain rfl : v = .bl b := r; exact .bl b
    | int i => obtain rfl : v = .int i := r; exact .int i
    | str x => obtain rfl : v = .str x := r; exact .str x
    | op u => simp [shp] at h
    | node b k xs =>
      cases k with
      | lst =>
        obtain ⟨a, ys, rfl, c, q⟩ := rep_lst w r
        exact .lst (SqL.of c) (dp_all w ih (by simpa [shp] using h) q)
      | tup =>
        obtain ⟨a, ys, rfl, c, q⟩ := rep_tup w r
        exact .tup c (dp_all w ih (by simpa [shp] using h) q)
      | dct ks => simp [shp] at h
      | scr => simp [shp] at h
      | obj C fs => simp [shp] at h
      | ins C fs => simp [shp] at h
theorem shp_can : ∀ (n : Nat) (d : D), shp n d = true → PyData.canLay0 (toP d) = true ∧ PyData.depth (toP d) ≤ n := by
  intro n
  induction n with
  | zero =>
    intro d h
    cases d with
    | non => exact ⟨rfl, Nat.zero_le _⟩
    | bl b => exact ⟨rfl, Nat.zero_le _⟩
    | int i => exact ⟨rfl, Nat.zero_le _⟩
    | str x => exact ⟨by simpa [shp, toP, PyData.canLay0] using h, Nat.zero_le _⟩
    | op u => simp [shp] at h
    | node b k xs => cases k <;> simp [shp] at h
  | succ n ih =>
    have all : ∀ xs : List D, xs.all (shp n) = true → PyData.canLayAll0 (toPL xs) = true ∧ PyData.depthAll (toPL xs) ≤ n := by
      intro xs
      induction xs with
      | nil => intro _; exact ⟨rfl, Nat.zero_le _⟩
      | cons x xs ih2 =>
        intro h
        rw [List.all_cons, Bool.and_eq_true] at h
        obtain ⟨a1, a2⟩ := ih x h.1
        obtain ⟨b1, b2⟩ := ih2 h.2
        refine ⟨by simp only [toPL, PyData.canLayAll0, a1, b1] <;> rfl, ?_⟩
        simp only [toPL, PyData.depthAll]
        omega
    intro d h
    cases d with
    | non => exact ⟨rfl, Nat.zero_le _⟩
    | bl b => exact ⟨rfl, Nat.zero_le _⟩
    | int i => exact ⟨rfl, Nat.zero_le _⟩
    | str x => exact ⟨by simpa [shp, toP, PyData.canLay0] using h, Nat.zero_le _⟩
    | op u => simp [shp] at h
    | node b k xs =>
      cases k with
      | lst =>
        obtain ⟨a1, a2⟩ := all xs (by simpa [shp] using h)
        refine ⟨by simpa [toP, PyData.canLay0] using a1, ?_⟩
        simp only [toP, PyData.depth]
        omega
      | tup =>
        obtain ⟨a1, a2⟩ := all xs (by simpa [shp] using h)
        refine ⟨by simpa [toP, PyData.canLay0] using a1, ?_⟩
        simp only [toP, PyData.depth]
        omega
      | dct ks => simp [shp] at h
      | scr => simp [shp] at h
      | obj C fs => simp [shp] at h
      | ins C fs => simp [shp] at h
theorem eqv_all {n : Nat} (ih : ∀ d e : D, shp n d = true → shp n e = true → PyData.eqv (toP d) (toP e) = deq d e) : ∀ xs ys : List D, xs.all (shp n) = true → ys.all (shp n) = true → PyData.eqvAll (toPL xs) (toPL ys) = deqL xs ys
  | [], [], _, _ => rfl
  | [], _ :: _, _, _ => rfl
  | _ :: _, [], _, _ => rfl
  | x :: xs, y :: ys, h1, h2 => by
    rw [List.all_cons, Bool.and_eq_true] at h1 h2
    simp only [toPL, PyData.eqvAll, deqL]
    rw [ih x y h1.1 h2.1, eqv_all ih xs ys h1.2 h2.2]
theorem eqv_deq : ∀ (n : Nat) (d e : D), shp n d = true → shp n e = true → PyData.eqv (toP d) (toP e) = deq d e := by
  intro n
  induction n with
  | zero =>
    intro d e h1 h2
    cases d with
    | op u => simp [shp] at h1
    | node b k xs => cases k <;> simp [shp] at h1
    | _ =>
      cases e with
      | op u => simp [shp] at h2
      | node b k xs => cases k <;> simp [shp] at h2
      | _ => simp [toP, PyData.eqv, deq]
  | succ n ih =>
    intro d e h1 h2
    cases d with
    | op u => simp [shp] at h1
    | node b k xs =>
      cases k with
      | dct ks => simp [shp] at h1
      | scr => simp [shp] at h1
      | obj C fs => simp [shp] at h1
      | ins C fs => simp [shp] at h1
      | lst =>
        cases e with
        | op u => simp [shp] at h2
        | node b' k' ys =>
          cases k' with
          | dct ks => simp [shp] at h2
          | scr => simp [shp] at h2
          | obj C fs => simp [shp] at h2
          | ins C fs => simp [shp] at h2
          | lst =>
            simp only [toP, PyData.eqv, deq]
            exact eqv_all ih xs ys (by simpa [shp] using h1) (by simpa [shp] using h2)
          | tup => simp [toP, PyData.eqv, deq]
        | _ => simp [toP, PyData.eqv, deq]
      | tup =>
        cases e with
        | op u => simp [shp] at h2
        | node b' k' ys =>
          cases k' with
          | dct ks => simp [shp] at h2
          | scr => simp [shp] at h2
          | obj C fs => simp [shp] at h2
          | ins C fs => simp [shp] at h2
          | tup =>
            simp only [toP, PyData.eqv, deq]
            exact eqv_all ih xs ys (by simpa [shp] using h1) (by simpa [shp] using h2)
          | lst => simp [toP, PyData.eqv, deq]
        | _ => simp [toP, PyData.eqv, deq]
    | _ =>
      cases e with
      | op u => simp [shp] at h2
      | node b k xs =>
        cases k with
        | dct ks => simp [shp] at h2
        | scr => simp [shp] at h2
        | obj C fs => simp [shp] at h2
        | ins C fs => simp [shp] at h2
        | _ => simp [toP, PyData.eqv, deq]
      | _ => simp [toP, PyData.eqv, deq]
def opEqD : List D → Option D
  | [d, e] => if shp 60 d && shp 60 e then some (.bl (deq d e)) else none
  | _ => none
def opNeD : List D → Option D
  | [d, e] => if shp 60 d && shp 60 e then some (.bl (!deq d e)) else none
  | _ => none
theorem shaped_of {d : D} (h : shp 60 d = true) : SeqAt.shaped (toP d) = true := by
  obtain ⟨a, b⟩ := shp_can 60 d h
  unfold SeqAt.shaped
  rw [a, decide_eq_true (by omega : PyData.depth (toP d) ≤ 64)]
  rfl
theorem opd_eqD (hu : X.A.units + 64 < cLine) : Opd X (compareOp .Eq) opEqD := by
  refine ⟨_, op_eqD hu, snd_pure fun Z H S ds vs d Q w rb e k => ?_⟩
  unfold opEqD at e
  split at e
  · rename_i x y
    split at e
    · rename_i c
      rw [Bool.and_eq_true] at c
      obtain ⟨v, u, rfl, rv, ru⟩ := rb2 rb
      refine ⟨v, u, rfl, toP x, toP y, dp_of w.same _ _ _ _ c.1 rv, dp_of w.same _ _ _ _ c.2 ru, shaped_of c.1, shaped_of c.2, ?_⟩
      rw [eqv_deq 60 x y c.1 c.2]
      exact k _ (by rw [← Option.some.inj e]; rfl)
    · cases e
  · cases e
theorem opd_neD (hu : X.A.units + 64 < cLine) : Opd X (compareOp .NotEq) opNeD := by
  refine ⟨_, op_neD hu, snd_pure fun Z H S ds vs d Q w rb e k => ?_⟩
  unfold opNeD at e
  split at e
  · rename_i x y
    split at e
    · rename_i c
      rw [Bool.and_eq_true] at c
      obtain ⟨v, u, rfl, rv, ru⟩ := rb2 rb
      refine ⟨v, u, rfl, toP x, toP y, dp_of w.same _ _ _ _ c.1 rv, dp_of w.same _ _ _ _ c.2 ru, shaped_of c.1, shaped_of c.2, ?_⟩
      rw [eqv_deq 60 x y c.1 c.2]
      exact k _ (by rw [← Option.some.inj e]; rfl)
    · cases e
  · cases e
def opEq : List D → Option D
  | [.str x, .str y] => some (.bl (x == y))
  | [.str _, .node _ (.dct _) _] => some (.bl false)
  | ds => opEqD ds
def opNe : List D → Option D
  | [.str x, .str y] => some (.bl (!(x == y)))
  | ds => opNeD ds
def opEqS : List D → Option D
  | [.str x, .str y] => some (.bl (x == y))
  | _ => none
def opNeS : List D → Option D
  | [.str x, .str y] => some (.bl (!(x == y)))
  | _ => none
theorem opd_eqS : Opd X (compareOp .Eq) opEqS := by
  refine ⟨_, op_eq, snd_pure fun Z H S ds vs d Q w rb e k => ?_⟩
  unfold opEqS at e
  split at e
  · rename_i x y
    obtain ⟨v, u, rfl, rv, ru⟩ := rb2 rb
    obtain rfl : v = .str x := rv
    obtain rfl : u = .str y := ru
    refine ⟨_, _, rfl, rfl, ?_⟩
    cases e
    refine k _ ?_
    show V.bl (decide (V.str x = V.str y)) = V.bl (x == y)
    rw [show (x == y) = decide (x = y) from rfl]
    simp
  · cases e
theorem opd_neS : Opd X (compareOp .NotEq) opNeS := by
  refine ⟨_, op_ne, snd_pure fun Z H S ds vs d Q w rb e k => ?_⟩
  unfold opNeS at e
  split at e
  · rename_i x y
    obtain ⟨v, u, rfl, rv, ru⟩ := rb2 rb
    obtain rfl : v = .str x := rv
    obtain rfl : u = .str y := ru
    refine ⟨_, _, rfl, rfl, ?_⟩
    cases e
    refine k _ ?_
    show V.bl (!decide (V.str x = V.str y)) = V.bl (!(x == y))
    rw [show (x == y) = decide (x = y) from rfl]
    simp
  · cases e
def opEqSD : List D → Option D
  | [.str _, .node _ (.dct _) _] => some (.bl false)
  | _ => none
def opEqSS : List D → Option D
  | [.str x, .str y] => some (.bl (x == y))
  | [.str _, .node _ (.dct _) _] => some (.bl false)
  | _ => none
theorem opd_eqSD (hu : X.A.units + 64 < cLine) : Opd X (compareOp .Eq) opEqSD := by
  refine ⟨_, op_eq_sd hu, snd_pure fun Z H S ds vs d Q w rb e k => ?_⟩
  unfold opEqSD at e
  split at e
  · rename_i x o ks xs
    obtain ⟨v, u, rfl, rv, ru⟩ := rb2 rb
    obtain rfl : v = .str x := rv
    cases e
    cases o with
    | false =>
      obtain ⟨a, ys, rfl, c, rl⟩ := ru
      exact ⟨_, _, rfl, x, a, _, rfl, rfl, .inl (w.same.get _ _ c.2 nt_dK), k _ rfl⟩
    | true =>
      obtain ⟨a, ys, S', rfl, c, sa, na, sub, rl⟩ := ru
      exact ⟨_, _, rfl, x, a, _, rfl, rfl, .inl c.2, k _ rfl⟩
  · cases e
theorem opd_eqSS (hu : X.A.units + 64 < cLine) : Opd X (compareOp .Eq) opEqSS := Opd.or opd_eqS (opd_eqSD hu) fun ds d h => by
  unfold opEqSS at h
  split at h
  · exact .inl h
  · exact .inr h
  · cases h
theorem opd_eq (hu : X.A.units + 64 < cLine) : Opd X (compareOp .Eq) opEq := Opd.or (opd_eqSS hu) (opd_eqD hu) fun ds d h => by
  unfold opEq at h
  split at h
  · exact .inl h
  · exact .inl h
  · exact .inr h
theorem opd_ne (hu : X.A.units + 64 < cLine) : Opd X (compareOp .NotEq) opNe := Opd.or opd_neS (opd_neD hu) fun ds d h => by
  unfold opNe at h
  split at h
  · exact .inl h
  · exact .inr h
def D.isNon : D → Bool
  | .non => true
  | _ => false
def opIsN : List D → Option D
  | [d, .non] => match d with
    | .op _ => none
    | _ => some (.bl d.isNon)
  | _ => none
def opNotN : List D → Option D
  | [d, .non] => match d with
    | .op _ => none
    | _ => some (.bl (!d.isNon))
  | _ => none
theorem isNon_rep {d : D} {v : V} (h : ∀ u, d ≠ .op u) (r : Rep K Z H d v S) : decide (v = .non) = d.isNon := by
  cases d with
  | op u => exact absurd rfl (h u)
  | node b k xs =>
    obtain ⟨a, rfl⟩ := rep_ref r
    rfl
  | non => obtain rfl : v = .non := r; rfl
  | bl b => obtain rfl : v = .bl b := r; rfl
  | int b => obtain rfl : v = .int b := r; rfl
  | str b => obtain rfl : v = .str b := r; rfl
theorem opd_isN : Opd X (compareOp .Is) opIsN := by
  refine ⟨_, op_isN, snd_pure fun Z H S ds vs d Q w rb e k => ?_⟩
  unfold opIsN at e
  split at e
  · rename_i x
    obtain ⟨v, u, rfl, rv, ru⟩ := rb2 rb
    split at e
    · cases e
    · rename_i hx
      refine ⟨v, u, rfl, ru, ?_⟩
      rw [isNon_rep (fun u q => hx u q) rv]
      exact k _ (by rw [← Option.some.inj e]; rfl)
  · cases e
theorem opd_notN : Opd X (compareOp .IsNot) opNotN := by
  refine ⟨_, op_notN, snd_pure fun Z H S ds vs d Q w rb e k => ?_⟩
  unfold opNotN at e
  split at e
  · rename_i x
    obtain ⟨v, u, rfl, rv, ru⟩ := rb2 rb
    split at e
    · cases e
    · rename_i hx
      refine ⟨v, u, rfl, ru, ?_⟩
      rw [isNon_rep (fun u q => hx u q) rv]
      exact k _ (by rw [← Option.some.inj e]; rfl)
  · cases e
end
end Pm
namespace Pm
open PySem PySem.Spec PyProof.Rows L2
section
variable {K : PySem.W.Frag} {mg : Str → Option Value} {W : WX} {Z H : Hp} {S : Fp} {σ : Sl} {X : Cx} {A : Nat → Bool}
theorem tE_fin {fs : M (List EV)} {F : List EV → M EV} {Q : VK} {R : List V → Hp → Prop} (h : tE K mg W (bnd fs F) σ H Q)
    (hR : ∀ es ρ1 vs Z1 H1 S1 Sa, Wd Z1 H1 (fun a => S1 a ∨ Sa a) → (∀ a, S1 a → Sa a → False) → EnvR K Z1 H1 ρ1 σ S1 → EVsR K Z1 H1 σ es vs Sa → OutE K mg W Z1 H1 (fun a => S1 a ∨ Sa a) σ Q (F es ρ1) → R vs H1) : tA K mg W fs σ H R := by
  obtain ⟨Z, ρ, S, w, er, o⟩ := h
  refine ⟨Z, ρ, S, w, er, ?_⟩
  simp only [bnd] at o
  cases e1 : fs ρ with
  | stuck => rw [e1] at o; exact o
  | exc x ρ1 => rw [e1] at o; exact o
  | ok es ρ1 =>
    simp only [e1] at o
    exact fun vs Z1 H1 S1 Sa st dj er1 r1 => hR es ρ1 vs Z1 H1 S1 Sa st.wd dj er1 r1 (OutE.after st o)
theorem ev1 {e : EV} {vs : List V} (h : EVsR K Z H σ [e] vs S) : ∃ v A1, vs = [v] ∧ (∀ a, A1 a → S a) ∧ EVR K Z H σ e v A1 := by
  cases vs with
  | nil => exact h.elim
  | cons v vs =>
    obtain ⟨S1, S2, s1, s2, dj, r, q⟩ := h
    cases vs with
    | nil => exact ⟨v, S1, rfl, s1, r⟩
    | cons u us => exact q.elim
theorem ev2 {e f : EV} {vs : List V} (h : EVsR K Z H σ [e, f] vs S) : ∃ v u A1 A2, vs = [v, u] ∧ (∀ a, A1 a → S a) ∧ (∀ a, A2 a → S a) ∧ (∀ a, A1 a → A2 a → False) ∧ EVR K Z H σ e v A1 ∧ EVR K Z H σ f u A2 := by
  cases vs with
  | nil => exact h.elim
  | cons v vs =>
    obtain ⟨S1, S2, s1, s2, dj, r, q⟩ := h
    obtain ⟨u, A2, rfl, a2, ru⟩ := ev1 q
    exact ⟨v, u, S1, A2, rfl, s1, fun a x => s2 a (a2 a x), fun a x y => dj a x (a2 a y), r, ru⟩
/-- an item: of a slot's thing it stays there, frozen; of a thing of no name it is taken out -/
def itemOf (ea : EV) (k : Int) : M EV := fun ρ => match ea with
  | .val (.node _ .lst xs) => match atI xs k with
    | some d => .ok (.val d) ρ
    | none => .stuck
  | .val (.node _ .tup xs) => match atI xs k with
    | some d => .ok (.val d) ρ
    | none => .stuck
  | .val (.str x) => if x.length ≤ cap then (match atI x.cps.toList k with
    | some c => .ok (.val (.str ⟨#[c]⟩)) ρ
    | none => .stuck) else .stuck
  | .val _ => .stuck
  | .ref j => match ρ.getD j none with
    | some (.node b .lst xs) => (match ixN xs.length k with
      | some i => match xs[i]? with
        | some d => if d.plain then .ok (.val d) ρ else .ok (.val d.frz) (ρ.set j (some (.node b .lst (xs.set i d.frz))))
        | none => .stuck
      | none => .stuck)
    | some (.node b .tup xs) => (match ixN xs.length k with
      | some i => match xs[i]? with
        | some d => if d.plain then .ok (.val d) ρ else .ok (.val d.frz) (ρ.set j (some (.node b .tup (xs.set i d.frz))))
        | none => .stuck
      | none => .stuck)
    | some (.str x) => if x.length ≤ cap then (match atI x.cps.toList k with
      | some c => .ok (.val (.str ⟨#[c]⟩)) ρ
      | none => .stuck) else .stuck
    | _ => .stuck
def idx (fs : M (List EV)) : M EV := bnd fs fun es => fun ρ => match es with
  | [ea, ei] => match peek1 ρ ei with
    | some (.int k) => itemOf ea k ρ
    | _ => .stuck
  | _ => .stuck
theorem RepL.atI {ds : List D} {vs : List V} {k : Int} {d : D} (r : RepL K Z H ds vs S) (h : L2.atI ds k = some d) : ∃ v, L2.atI vs k = some v ∧ Rep K Z H d v S := by
  unfold L2.atI at h ⊢
  rw [← r.length]
  cases e : ixN ds.length k with
  | none => rw [e] at h; cases h
  | some j =>
    rw [e] at h
    exact r.get h
/-- a frozen item put back into a thing of a slot -/
theorem item_frz {b : Bool} {k : Kd} {xs : List D} {i j : Nat} {d : D} {ρ : Env} (hk : k = .lst ∨ k = .tup) (w : Wd Z H S) (er : EnvR K Z H ρ σ S) (e : ρ.getD j none = some (.node b k xs)) (hx : xs[i]? = some d) :
    ∃ v Z' S', σ[j]? = some (some v) ∧ Step Z H S Z' H S' ∧ (∀ a, S' a → S a) ∧ EnvR K Z' H (ρ.set j (some (.node b k (xs.set i d.frz)))) σ S' ∧
      ∃ a ys y, v = .ref a ∧ Frd K H a ys k ∧ ys[i]? = some y ∧ ys.length = xs.length ∧ Rep K Z' H d.frz y Fp0 := by
  obtain ⟨v, U1, U2, hv, u1, u2, uj, ru, eu⟩ := er.take (getD_some e)
  obtain ⟨hj, ej⟩ := List.getElem?_eq_some_iff.mp hv
  have es : σ.set j (some v) = σ := by rw [← ej, List.set_getElem_self]
  have hl : j < ρ.length := by rw [er.length]; exact hj
  cases b with
  | false =>
    obtain ⟨a, ys, rfl, c, rl⟩ := ru
    obtain ⟨y, T1, T2, hy, t1, t2, tj, ry, put⟩ := rl.take hx
    have st : Step Z H S (thaw Z H T1) H (fun a => T2 a ∨ U2 a) := Step.freeze w (fun a x => u1 a (t1 a x)) (fun a x => x.elim (fun z => u1 a (t2 a z)) (u2 a)) fun a x z => x.elim (fun q => tj a z q) fun q => uj a (t1 a z) q
    have rf : Rep K (thaw Z H T1) H d.frz y Fp0 := Rep.frz ry (fun a x => w.sep a (u1 a (t1 a x))) fun _ x => x
    have hs : ys.set i y = ys := by
      obtain ⟨hi, ei⟩ := List.getElem?_eq_some_iff.mp hy
      rw [← ei, List.set_getElem_self]
    have pl := put (thaw Z H T1) H d.frz y Fp0 T2 st.zz (fun _ _ _ x => x) rf (fun _ x => x.elim) (fun _ x => x) fun _ x _ => x
    rw [hs] at pl
    have rn : Rep K (thaw Z H T1) H (.node false k (xs.set i d.frz)) (.ref a) T2 := ⟨a, ys, rfl, c.same st.zz, pl⟩
    have q := EnvR.put (S := fun a => T2 a ∨ U2 a) (eu.move st.zz (fun _ _ _ x => x) fun _ x => x) hl rn (fun _ x => .inl x) (fun _ x => .inr x) fun a x z => uj a (t2 a x) z
    rw [es] at q
    exact ⟨.ref a, _, _, hv, st, fun a x => x.elim (fun z => u1 a (t2 a z)) (u2 a), q, a, ys, y, rfl, c.sam w.same, hy, rl.length.symm, rf⟩
  | true =>
    rcases hk with rfl | rfl
    · obtain ⟨a, ys, U', rfl, c, sa, na, sub, rl⟩ := ru
      obtain ⟨y, T1, T2, hy, t1, t2, tj, ry, put⟩ := rl.take hx
      have st : Step Z H S (thaw Z H T1) H (fun b => (b = a ∨ T2 b) ∨ U2 b) := Step.freeze w (fun b x => u1 b (sub b (t1 b x))) (fun b x => x.elim (fun z => z.elim (fun q => by rw [q]; exact u1 a sa) fun q => u1 b (sub b (t2 b q))) (u2 b)) fun b x z => x.elim (fun q => q.elim (fun p => na (by rw [← p]; exact t1 b z)) fun p => tj b z p) fun q => uj b (sub b (t1 b z)) q
      have rf : Rep K (thaw Z H T1) H d.frz y Fp0 := Rep.frz ry (fun b x => w.sep b (u1 b (sub b (t1 b x)))) fun _ x => x
      have hs : ys.set i y = ys := by
        obtain ⟨hi, ei⟩ := List.getElem?_eq_some_iff.mp hy
        rw [← ei, List.set_getElem_self]
      have pl := put (thaw Z H T1) H d.frz y Fp0 T2 st.zz (fun _ _ _ x => x) rf (fun _ x => x.elim) (fun _ x => x) fun _ x _ => x
      rw [hs] at pl
      have rn : Rep K (thaw Z H T1) H (.node true .lst (xs.set i d.frz)) (.ref a) (fun b => b = a ∨ T2 b) := ⟨a, ys, T2, rfl, c, .inl rfl, fun x => na (t2 a x), fun b x => .inr x, pl⟩
      have q := EnvR.put (S := fun b => (b = a ∨ T2 b) ∨ U2 b) (eu.move st.zz (fun _ _ _ x => x) fun _ x => x) hl rn (fun _ x => .inl x) (fun _ x => .inr x) fun b x z => x.elim (fun p => uj a sa (by rw [← p]; exact z)) fun p => uj b (sub b (t2 b p)) z
      rw [es] at q
      exact ⟨.ref a, _, _, hv, st, fun b x => x.elim (fun z => z.elim (fun q => by rw [q]; exact u1 a sa) fun q => u1 b (sub b (t2 b q))) (u2 b), q, a, ys, y, rfl, (c.frd (K := K)), hy, rl.length.symm, rf⟩
    · obtain ⟨a, ys, rfl, c, rl⟩ := ru
      obtain ⟨y, T1, T2, hy, t1, t2, tj, ry, put⟩ := rl.take hx
      have st : Step Z H S (thaw Z H T1) H (fun a => T2 a ∨ U2 a) := Step.freeze w (fun a x => u1 a (t1 a x)) (fun a x => x.elim (fun z => u1 a (t2 a z)) (u2 a)) fun a x z => x.elim (fun q => tj a z q) fun q => uj a (t1 a z) q
      have rf : Rep K (thaw Z H T1) H d.frz y Fp0 := Rep.frz ry (fun a x => w.sep a (u1 a (t1 a x))) fun _ x => x
      have hs : ys.set i y = ys := by
        obtain ⟨hi, ei⟩ := List.getElem?_eq_some_iff.mp hy
        rw [← ei, List.set_getElem_self]
      have pl := put (thaw Z H T1) H d.frz y Fp0 T2 st.zz (fun _ _ _ x => x) rf (fun _ x => x.elim) (fun _ x => x) fun _ x _ => x
      rw [hs] at pl
      have rn : Rep K (thaw Z H T1) H (.node true .tup (xs.set i d.frz)) (.ref a) T2 := ⟨a, ys, rfl, ⟨Pm.SqT.same c.1 st.zz, c.2.same st.zz⟩, pl⟩
      have q := EnvR.put (S := fun a => T2 a ∨ U2 a) (eu.move st.zz (fun _ _ _ x => x) fun _ x => x) hl rn (fun _ x => .inl x) (fun _ x => .inr x) fun a x z => uj a (t2 a x) z
      rw [es] at q
      exact ⟨.ref a, _, _, hv, st, fun a x => x.elim (fun z => u1 a (t2 a z)) (u2 a), q, a, ys, y, rfl, Pm.SqT.sam c.1 w.same, hy, rl.length.symm, rf⟩
theorem tE_idx {fs : M (List EV)} {Q : VK} (h : tE K mg W (idx fs) σ H Q) : tA K mg W fs σ H fun vs H1 => ∃ x y, vs = [x, y] ∧ rIx K x y H1 Q := by
  refine tE_fin h fun es ρ1 vs Z1 H1 S1 Sa w dj er1 r1 o => ?_
  split at o
  · rename_i ea ei
    obtain ⟨x, y, A1, A2, rfl, a1, a2, aj, rx, ry⟩ := ev2 r1
    split at o
    · rename_i k hk
      have hy : y = .int k := peek1_rep er1 ry hk
      subst hy
      refine ⟨x, .int k, rfl, ?_⟩
      have w1 : Step Z1 H1 (fun a => S1 a ∨ Sa a) Z1 H1 (fun a => S1 a ∨ A1 a) := (Step.refl w).less fun a z => z.elim .inl fun t => .inr (a1 a t)
      have w0 : Step Z1 H1 (fun a => S1 a ∨ Sa a) Z1 H1 (fun a => S1 a ∨ Fp0 a) := (Step.refl w).less fun a z => z.elim .inl False.elim
      have d1 : ∀ a, S1 a → A1 a → False := fun a p q => dj a p (a1 a q)
      unfold itemOf at o
      split at o
      · rename_i b xs
        split at o
        · rename_i d hd
          obtain ⟨a, ys, rfl, c, rl⟩ := rep_lst w.same rx
          obtain ⟨v, hv, rv⟩ := rl.atI hd
          exact .inl ⟨a, ys, k, v, rfl, rfl, SqL.of c, hv, o v Z1 H1 S1 A1 w1 d1 er1 rv⟩
        · exact o.elim
      · rename_i b xs
        split at o
        · rename_i d hd
          obtain ⟨a, ys, rfl, c, rl⟩ := rep_tup w.same rx
          obtain ⟨v, hv, rv⟩ := rl.atI hd
          exact .inr (.inl ⟨a, ys, k, v, rfl, rfl, c, hv, o v Z1 H1 S1 A1 w1 d1 er1 rv⟩)
        · exact o.elim
      · rename_i z
        split at o
        · rename_i hz
          split at o
          · rename_i c hc
            obtain rfl : x = .str z := rx
            exact .inr (.inr ⟨z, k, c, rfl, rfl, cap_le hz, hc, o _ Z1 H1 S1 Fp0 w0 (fun _ _ x => x) er1 rfl⟩)
          · exact o.elim
        · exact o.elim
      · exact o.elim
      · rename_i j
        have hx : σ[j]? = some (some x) := rx
        split at o
        · rename_i b xs he
          split at o
          · rename_i i hi
            split at o
            · rename_i d hd
              split at o
              · rename_i hp
                have rn := peek1_rep (v := x) (Sa := Fp0) er1 (e := .ref j) hx (show peek1 ρ1 (.ref j) = _ from he)
                obtain ⟨a, ys, rfl, c, rl⟩ := rep_lst w.same rn
                obtain ⟨v, hv, rv⟩ := rl.get hd
                refine .inl ⟨a, ys, k, v, rfl, rfl, SqL.of c, ?_, o v Z1 H1 S1 Fp0 w0 (fun _ _ x => x) er1 (rv.plain hp)⟩
                unfold L2.atI
                rw [← rl.length, hi]
                exact hv
              · have wS : Wd Z1 H1 S1 := w.less fun a z => .inl z
                obtain ⟨v, Z2, S2, hv, st, m, er2, a, ys, y, rfl, c, hy, hl, ry2⟩ := item_frz (.inl rfl) wS er1 he hd
                rw [hv] at hx
                cases hx
                refine .inl ⟨a, ys, k, y, rfl, rfl, SqL.of c, ?_, o y Z2 H1 S2 Fp0 ((w1.less fun a z => .inl z).trans (st.less fun a z => z.elim id False.elim)) (fun _ _ x => x) er2 ry2⟩
                unfold L2.atI
                rw [hl, hi]
                exact hy
            · exact o.elim
          · exact o.elim
        · rename_i b xs he
          split at o
          · rename_i i hi
            split at o
            · rename_i d hd
              split at o
              · rename_i hp
                have rn := peek1_rep (v := x) (Sa := Fp0) er1 (e := .ref j) hx (show peek1 ρ1 (.ref j) = _ from he)
                obtain ⟨a, ys, rfl, c, rl⟩ := rep_tup w.same rn
                obtain ⟨v, hv, rv⟩ := rl.get hd
                refine .inr (.inl ⟨a, ys, k, v, rfl, rfl, c, ?_, o v Z1 H1 S1 Fp0 w0 (fun _ _ x => x) er1 (rv.plain hp)⟩)
                unfold L2.atI
                rw [← rl.length, hi]
                exact hv
              · have wS : Wd Z1 H1 S1 := w.less fun a z => .inl z
                obtain ⟨v, Z2, S2, hv, st, m, er2, a, ys, y, rfl, c, hy, hl, ry2⟩ := item_frz (.inr rfl) wS er1 he hd
                rw [hv] at hx
                cases hx
                refine .inr (.inl ⟨a, ys, k, y, rfl, rfl, c, ?_, o y Z2 H1 S2 Fp0 ((w1.less fun a z => .inl z).trans (st.less fun a z => z.elim id False.elim)) (fun _ _ x => x) er2 ry2⟩)
                unfold L2.atI
                rw [hl, hi]
                exact hy
            · exact o.elim
          · exact o.elim
        · rename_i z he
          split at o
          · rename_i hz
            split at o
            · rename_i c hc
              have rn : x = .str z := peek1_rep (v := x) (Sa := Fp0) er1 (e := .ref j) hx (show peek1 ρ1 (.ref j) = _ from he)
              subst rn
              exact .inr (.inr ⟨z, k, c, rfl, rfl, cap_le hz, hc, o _ Z1 H1 S1 Fp0 w0 (fun _ _ x => x) er1 rfl⟩)
            · exact o.elim
          · exact o.elim
        · exact o.elim
    · exact o.elim
  · exact o.elim
theorem pe_idx {a b : Expr} {fa fb : M EV} {pos : Pos} (ha : PE X a (tE X.K X.mg W fa)) (hb : PE X b (tE X.K X.mg W fb)) (hs : PlainIx b) : PE X (.Subscript a b pos) (tE X.K X.mg W (idx (aCons fa (aCons fb aNil)))) :=
  PE.of (pe_ix ix_seq ha hb hs) fun σ H Q q => two_of (tE_idx q)
end
end Pm
namespace Pm
open PySem PySem.Spec PyProof.Rows L2
/-- what is in it is plain -/
def D.shal : D → Bool
  | .node _ _ xs => plainL xs
  | _ => true
section
variable {K : PySem.W.Frag} {mg : Str → Option Value} {W : WX} {Z H : Hp} {S : Fp} {σ : Sl} {X : Cx} {A : Nat → Bool}
/-- an operation whose result shares the items of what it is given: they are frozen first, if they are not plain -/
def appF (g : List D → Option D) (fs : M (List EV)) : M EV := bnd fs fun es => fun ρ => match peeks ρ es with
  | some ds => if ds.all D.shal then (match g ds with
      | some d => .ok (.val d) ρ
      | none => .stuck)
    else match useL es ρ with
      | .ok ds' ρ' => (match g (frzL ds') with
        | some d => .ok (.val d) ρ'
        | none => .stuck)
      | _ => .stuck
  | none => .stuck
/-- made anew: a list, a tuple of plain items -/
theorem fresh_lst {ds : List D} {vs : List V} {p : Addr} (w : Wd Z H S) (hp : H p = none) (r : RepL K Z H ds vs Fp0) :
    Step Z H S Z (upd H p (.lst vs)) (fun a => S a ∨ a = p) ∧ (∀ a o, H a = some o → upd H p (.lst vs) a = some o) ∧ (∀ a, S a → a = p → False) ∧ Rep K Z (upd H p (.lst vs)) (.lst true ds) (.ref p) (fun a => a = p) :=
  ⟨Step.alloc w hp, fun a o e => by rw [upd_ne (ne_of_none e hp)]; exact e, fun a s e => w.dom a s (by rw [e]; exact hp), ⟨p, vs, Fp0, rfl, upd_same, rfl, fun x => x, fun _ x => x.elim, r.move (Same.refl Z) (fun _ _ x => x.elim) fun _ x => x⟩⟩
theorem fresh_tup {ds : List D} {vs : List V} {p : Addr} (w : Wd Z H S) (hp : H p = none) (r : RepL K Z H ds vs Fp0) :
    Step Z H S (upd Z p (.tup vs)) (upd H p (.tup vs)) (fun a => S a ∨ Fp0 a) ∧ (∀ a o, H a = some o → upd H p (.tup vs) a = some o) ∧ Rep K (upd Z p (.tup vs)) (upd H p (.tup vs)) (.tup ds) (.ref p) Fp0 := by
  have st := Step.allocZ (o := .tup vs) w hp
  exact ⟨st.less fun a x => x.elim id False.elim, fun a o e => by rw [upd_ne (ne_of_none e hp)]; exact e, p, vs, rfl, SqT.of upd_same, r.move st.zz (fun _ _ x => x.elim) fun _ x => x⟩
def cutD (xs : List D) (lo hi : Option Int) : List D := (xs.drop (HT.sIx xs.length 0 lo)).take (HT.sIx xs.length xs.length hi - HT.sIx xs.length 0 lo)
def gCut (lo hi : Option Int) : D → Option D
  | .node _ .lst xs => if plainL xs then some (.lst true (cutD xs lo hi)) else none
  | .node _ .scr xs => if plainL xs then some (.lst true (cutD xs lo hi)) else none
  | .node _ .tup xs => if plainL xs then some (.tup (cutD xs lo hi)) else none
  | .str x => if x.length ≤ cap then some (.str (cutS x lo hi)) else none
  | _ => none
theorem RepL.cut {ds : List D} {vs : List V} (r : RepL K Z H ds vs S) (p : plainL ds = true) (lo hi : Option Int) : RepL K Z H (cutD ds lo hi) (cutV vs lo hi) Fp0 := by
  have rp : RepL K Z H ds vs Fp0 := r.plain p
  have drop : ∀ (n : Nat) {ds : List D} {vs : List V}, RepL K Z H ds vs Fp0 → RepL K Z H (ds.drop n) (vs.drop n) Fp0 := by
    intro n
    induction n with
    | zero => exact fun r => r
    | succ n ih =>
      intro ds vs r
      cases ds with
      | nil => cases vs with
        | nil => trivial
        | cons => exact r.elim
      | cons d ds => cases vs with
        | nil => exact r.elim
        | cons v vs =>
          obtain ⟨_, _, _, s2, _, _, q⟩ := r
          exact ih (q.move (Same.refl Z) (fun _ _ _ x => x) s2)
  have take : ∀ (n : Nat) {ds : List D} {vs : List V}, RepL K Z H ds vs Fp0 → RepL K Z H (ds.take n) (vs.take n) Fp0 := by
    intro n
    induction n with
    | zero => exact fun _ => by simp only [List.take_zero]; trivial
    | succ n ih =>
      intro ds vs r
      cases ds with
      | nil => cases vs with
        | nil => trivial
        | cons => exact r.elim
      | cons d ds => cases vs with
        | nil => exact r.elim
        | cons v vs =>
          obtain ⟨_, _, s1, s2, _, r1, q⟩ := r
          exact ⟨Fp0, Fp0, fun _ x => x, fun _ x => x, fun _ x _ => x, r1.move (Same.refl Z) (fun _ _ _ x => x) s1, ih (q.move (Same.refl Z) (fun _ _ _ x => x) s2)⟩
  have e := r.length
  unfold cutD cutV
  rw [e]
  exact take _ (drop _ rp)
/-- o[lo:hi]; the parts are ints or left out -/
def cut (f : M EV) (lo hi : Option (M EV)) : M EV := bnd f fun e =>
  bnd (match lo with
    | none => ret none
    | some m => bnd m fun el => fun ρ => match peek1 ρ el with
      | some (.int i) => .ok (some i) ρ
      | _ => .stuck) fun l =>
  bnd (match hi with
    | none => ret none
    | some m => bnd m fun eh => fun ρ => match peek1 ρ eh with
      | some (.int i) => .ok (some i) ρ
      | _ => .stuck) fun h => fun ρ => match peek1 ρ e with
    | some d => match gCut l h d with
      | some d' => .ok (.val d') ρ
      | none => .stuck
    | none => .stuck
def OutO (K : PySem.W.Frag) (mg : Str → Option Value) (W : WX) (Z H : Hp) (S : Fp) (σ : Sl) (Q : Option Int → Hp → Prop) : Res (Option Int) → Prop
  | .stuck => False
  | .ok b ρ' => ∀ Z' H' S', Step Z H S Z' H' S' → EnvR K Z' H' ρ' σ S' → Q b H'
  | .exc x ρ' => XOut K mg W Z H S σ x ρ'
def tO (K : PySem.W.Frag) (mg : Str → Option Value) (W : WX) (f : M (Option Int)) : TO := fun σ H Q => ∃ Z ρ S, Wd Z H S ∧ EnvR K Z H ρ σ S ∧ OutO K mg W Z H S σ Q (f ρ)
def partO (o : Option (M EV)) : M (Option Int) := match o with
    | none => ret none
    | some m => bnd m fun el => fun ρ => match peek1 ρ el with
      | some (.int i) => .ok (some i) ρ
      | _ => .stuck
theorem PO.of {e : Option Expr} {t t' : TO} (h : PO X e t) (i : ∀ σ H Q, t' σ H Q → t σ H Q) : PO X e t' := ⟨fun p s σ H R I q => h.run p s σ H R I (i σ H R q)⟩
theorem tO_none {Q : Option Int → Hp → Prop} (h : tO K mg W (partO none) σ H Q) : tNoPart σ H Q := by
  obtain ⟨Z, ρ, S, w, er, o⟩ := h
  exact o Z H S (Step.refl w) er
theorem tO_some {f : M EV} {Q : Option Int → Hp → Prop} (h : tO K mg W (partO (some f)) σ H Q) : tPart (tE K mg W f) σ H Q := by
  obtain ⟨Z, ρ, S, w, er, o⟩ := h
  refine ⟨Z, ρ, S, w, er, ?_⟩
  simp only [partO, bnd] at o
  cases e1 : f ρ with
  | stuck => rw [e1] at o; exact o
  | exc x ρ1 => rw [e1] at o; exact o
  | ok ev ρ1 =>
    simp only [e1] at o
    intro v Z1 H1 S1 Sa st1 dj1 er1 r1
    split at o
    · rename_i i hi
      exact ⟨i, peek1_rep er1 r1 hi, o Z1 H1 S1 (st1.less fun a x => .inl x) er1⟩
    · exact o.elim
theorem po_N : PO X none (tO X.K X.mg W (partO none)) := PO.of po_none fun _ _ _ q => tO_none q
theorem po_S {e : Expr} {f : M EV} (h : PE X e (tE X.K X.mg W f)) : PO X (some e) (tO X.K X.mg W (partO (some f))) := PO.of (po_some h) fun _ _ _ q => tO_some q
theorem tE_cut {f : M EV} {lo hi : Option (M EV)} {Q : VK} (h : tE K mg W (cut f lo hi) σ H Q) : tSl (fun x l u H Q => rSlL K x l u H Q ∨ rSlA K x l u H Q ∨ rSlS x l u H Q) (tE K mg W f) (tO K mg W (partO lo)) (tO K mg W (partO hi)) σ H Q := by
  have h' : tE K mg W (bnd f fun e => bnd (partO lo) fun l => bnd (partO hi) fun h => fun ρ => match peek1 ρ e with
    | some d => match gCut l h d with
      | some d' => .ok (.val d') ρ
      | none => .stuck
    | none => .stuck) σ H Q := h
  obtain ⟨Z, ρ, S, w, er, o⟩ := h'
  refine ⟨Z, ρ, S, w, er, ?_⟩
  simp only [bnd] at o
  cases e1 : f ρ with
  | stuck => rw [e1] at o; exact o
  | exc x ρ1 => rw [e1] at o; exact o
  | ok ev ρ1 =>
    simp only [e1] at o
    intro v Z1 H1 S1 Sa st1 dj1 er1 r1
    refine ⟨Z1, ρ1, S1, st1.wd.less fun a x => .inl x, er1, ?_⟩
    cases e2 : partO lo ρ1 with
    | stuck => simp only [e2] at o; exact o
    | exc x ρ2 => simp only [e2] at o; exact o.behind st1 dj1
    | ok l ρ2 =>
      simp only [e2] at o
      intro Z2 H2 S2 st2 er2
      refine ⟨Z2, ρ2, S2, st2.wd, er2, ?_⟩
      have st12 := st1.trans (st2.frame st1.wd dj1)
      have ap2 := st2.apart (fun a x => st1.wd.live a (.inr x)) dj1
      cases e3 : partO hi ρ2 with
      | stuck => simp only [e3] at o; exact o
      | exc x ρ3 => simp only [e3] at o; exact o.behind st12 ap2
      | ok u ρ3 =>
        simp only [e3] at o
        intro Z3 H3 S3 st3 er3
        have st13 := st12.trans (st3.frame st12.wd ap2)
        have ap3 := st3.apart (fun a x => st12.wd.live a (.inr x)) ap2
        have r3 : EVR K Z3 H3 σ ev v Sa := (r1.stay st2 dj1).stay st3 ap2
        have w3 := st13.wd
        split at o
        · rename_i d hd
          have rd := peek1_rep er3 r3 hd
          split at o
          · rename_i d' hc
            have o1 := OutE.after st13 (r := .ok (.val d') ρ3) o
            have fin : ∀ v' H' Z' Sd, Step Z3 H3 (fun a => S3 a ∨ Sa a) Z' H' (fun a => (S3 a ∨ Sa a) ∨ Sd a) → (∀ a o, H3 a = some o → H' a = some o) → (∀ a, (S3 a ∨ Sa a) → Sd a → False) → Rep K Z' H' d' v' Sd → Q v' H' := fun v' H' Z' Sd st sm dj r =>
              o1 v' Z' H' S3 Sd (st.less fun a x => x.elim (fun y => .inl (.inl y)) .inr) (fun a x y => dj a (.inl x) y) (er3.move st.zz (fun a ob _ e => sm a ob e) fun _ x => x) r
            unfold gCut at hc
            split at hc
            · rename_i b xs
              split at hc
              · rename_i hp
                cases hc
                obtain ⟨a, ys, rfl, c, rl⟩ := rep_lst w3.same rd
                refine .inl ⟨a, ys, rfl, SqL.of c, fun p np => ?_⟩
                obtain ⟨f1, f2, f3, f4⟩ := fresh_lst w3 np (rl.cut hp l u)
                exact fin _ _ _ _ f1 f2 f3 f4
              · cases hc
            · rename_i b xs
              split at hc
              · rename_i hp
                cases hc
                cases b with
                | true => obtain ⟨_, _, _, _, c, _⟩ := rd; exact c.elim
                | false =>
                  obtain ⟨a, ys, rfl, c, rl⟩ := rd
                  refine .inl ⟨a, ys, rfl, Sam.seq w3.same c, fun p np => ?_⟩
                  obtain ⟨f1, f2, f3, f4⟩ := fresh_lst w3 np (rl.cut hp l u)
                  exact fin _ _ _ _ f1 f2 f3 f4
              · cases hc
            · rename_i xs
              split at hc
              · rename_i hp
                cases hc
                have rd0 : Rep K Z3 H3 (.tup xs) v Fp0 := Rep.plain (rep_wk rd) (by simp [D.plain, hp])
                obtain ⟨a, ys, rfl, c, rl⟩ := rep_tup w3.same rd0
                have el := rl.length
                refine .inr (.inl ⟨a, ys, rfl, c, fun hw => ?_, fun hw p np => ?_⟩)
                · have e : cutD xs l u = xs := by
                    unfold cutD
                    rw [← el] at hw
                    rw [hw.1, hw.2, List.drop_zero, Nat.sub_zero, List.take_length]
                  rw [e] at fin
                  exact fin _ _ _ Fp0 w3.nil (fun _ _ e => e) (fun _ _ x => x) rd0
                · obtain ⟨f1, f2, f3⟩ := fresh_tup w3 np (rl.cut hp l u)
                  exact fin _ _ _ _ f1 f2 (fun _ _ x => x) f3
              · cases hc
            · rename_i z
              split at hc
              · rename_i hz
                cases hc
                obtain rfl : v = .str z := rd
                exact .inr (.inr ⟨z, rfl, cap_le hz, fin _ _ _ Fp0 w3.nil (fun _ _ e => e) (fun _ _ x => x) rfl⟩)
              · cases hc
            · cases hc
          · exact o.elim
        · exact o.elim
end
end Pm
namespace Pm
open PySem PySem.Spec PyProof.Rows L2
section
variable {K : PySem.W.Frag} {mg : Str → Option Value} {W : WX} {Z H : Hp} {S : Fp} {σ : Sl} {X : Cx} {A : Nat → Bool}
theorem pe_blt {x : Str} {id : String} {p pos : Pos} {e : Expr} {es : List Expr} {fs : M (List EV)} {r : List V → Hp → VK → Prop} {g : List D → Option D} (hs : Snd X r g) (hc : CallR X (.builtin id) r) (hg : Gl X x) (hm : X.mg x = none) (hv : bootBuiltins x = some (.builtin id))
    (ha : PA X (e :: es) (tA X.K X.mg W fs)) (hn : x ≠ "__name__") (hdb : (x == ("__debug__" : Str)) = false) (he : starEach (e :: es) X.env = (false, eval e X.env) :: starEach es X.env) (hpl : (backTo pos (starEach es X.env)).any (·.1) = false) :
    PE X (.Call (.Name x p) (e :: es) [] pos) (tE X.K X.mg W (app g fs)) := PE.of (pe_callB hc hg hm hv ha hn hdb he hpl) fun σ H Q q => tE_app hs q
theorem pe_bty {x : Str} {T : String} {p pos : Pos} {e : Expr} {es : List Expr} {fs : M (List EV)} {r : List V → Hp → VK → Prop} {g : List D → Option D} (hs : Snd X r g) (hc : CallR X (.type T) r) (hg : Gl X x) (hm : X.mg x = none) (hv : bootBuiltins x = some (.type T))
    (ha : PA X (e :: es) (tA X.K X.mg W fs)) (hn : x ≠ "__name__") (hdb : (x == ("__debug__" : Str)) = false) (he : starEach (e :: es) X.env = (false, eval e X.env) :: starEach es X.env) (hpl : (backTo pos (starEach es X.env)).any (·.1) = false) :
    PE X (.Call (.Name x p) (e :: es) [] pos) (tE X.K X.mg W (app g fs)) := PE.of (pe_callTy hc hg hm hv ha hn hdb he hpl) fun σ H Q q => tE_app hs q
def opLen : List D → Option D
  | [.node _ .lst xs] => some (.int xs.length)
  | [.node _ .tup xs] => some (.int xs.length)
  | [.node _ .scr xs] => some (.int xs.length)
  | [.str x] => if x.length ≤ cap then some (.int x.length) else none
  | _ => none
theorem snd_len : Snd X (fun xs H Q => (∃ p ys, xs = [.ref p] ∧ (SqL X.K H p ys ∨ SqT X.K H p ys) ∧ Q (.int ys.length) H) ∨ (∃ z, xs = [.str z] ∧ z.length ≤ sizeLine ∧ Q (.int z.length) H)) opLen := by
  refine snd_pure fun Z H S ds vs d Q w rb e k => ?_
  unfold opLen at e
  split at e
  · obtain ⟨v, rfl, rv⟩ := rb1 rb
    obtain ⟨a, ys, rfl, c, rl⟩ := rep_lst w.same rv
    cases e
    exact .inl ⟨a, ys, rfl, .inl (SqL.of c), k _ (by rw [← rl.length]; rfl)⟩
  · obtain ⟨v, rfl, rv⟩ := rb1 rb
    obtain ⟨a, ys, rfl, c, rl⟩ := rep_tup w.same rv
    cases e
    exact .inl ⟨a, ys, rfl, .inr c, k _ (by rw [← rl.length]; rfl)⟩
  · rename_i b xs
    obtain ⟨v, rfl, rv⟩ := rb1 rb
    cases b with
    | true => obtain ⟨_, _, _, _, c, _⟩ := rv; exact c.elim
    | false =>
      obtain ⟨a, ys, rfl, c, rl⟩ := rv
      cases e
      exact .inl ⟨a, ys, rfl, .inl (Sam.seq w.same c), k _ (by rw [← rl.length]; rfl)⟩
  · split at e
    · rename_i z hz
      obtain ⟨v, rfl, rv⟩ := rb1 rb
      obtain rfl : v = .str z := rv
      cases e
      exact .inr ⟨z, rfl, cap_le hz, k _ rfl⟩
    · cases e
  · cases e
theorem call_lenA : CallR X (.builtin "len") (fun xs H Q => (∃ p ys, xs = [.ref p] ∧ (SqL X.K H p ys ∨ SqT X.K H p ys) ∧ Q (.int ys.length) H) ∨ (∃ z, xs = [.str z] ∧ z.length ≤ sizeLine ∧ Q (.int z.length) H)) := CallR.or call_len_seq call_len_str
def opAbs : List D → Option D
  | [.int i] => some (.int (if i < 0 then -i else i))
  | _ => none
theorem snd_abs : Snd X (fun xs H Q => ∃ i, xs = [.int i] ∧ Q (.int (if i < 0 then -i else i)) H) opAbs := by
  refine snd_pure fun Z H S ds vs d Q w rb e k => ?_
  unfold opAbs at e
  split at e
  · obtain ⟨v, rfl, rv⟩ := rb1 rb
    cases e
    obtain rfl : v = .int _ := rv
    exact ⟨_, rfl, k _ rfl⟩
  · cases e
def opMax2 : List D → Option D
  | [.int i, .int j] => some (.int (if j > i then j else i))
  | _ => none
theorem snd_max2 : Snd X (fun xs H Q => ∃ i j, xs = [.int i, .int j] ∧ Q (.int (if j > i then j else i)) H) opMax2 := by
  refine snd_pure fun Z H S ds vs d Q w rb e k => ?_
  unfold opMax2 at e
  split at e
  · obtain ⟨v, u, rfl, rv, ru⟩ := rb2 rb
    cases e
    obtain rfl : v = .int _ := rv
    obtain rfl : u = .int _ := ru
    exact ⟨_, _, rfl, k _ rfl⟩
  · cases e
def opMin2 : List D → Option D
  | [.int i, .int j] => some (.int (if j < i then j else i))
  | _ => none
theorem snd_min2 : Snd X (fun xs H Q => ∃ i j, xs = [.int i, .int j] ∧ Q (.int (if j < i then j else i)) H) opMin2 := by
  refine snd_pure fun Z H S ds vs d Q w rb e k => ?_
  unfold opMin2 at e
  split at e
  · obtain ⟨v, u, rfl, rv, ru⟩ := rb2 rb
    cases e
    obtain rfl : v = .int _ := rv
    obtain rfl : u = .int _ := ru
    exact ⟨_, _, rfl, k _ rfl⟩
  · cases e
def opInt1 : List D → Option D
  | [.int i] => some (.int i)
  | [.bl b] => some (.int (if b then 1 else 0))
  | _ => none
theorem snd_int1 : Snd X (fun xs H Q => (∃ i, xs = [.int i] ∧ Q (.int i) H) ∨ ∃ k, xs = [.bl k] ∧ Q (.int (if k then 1 else 0)) H) opInt1 := by
  refine snd_pure fun Z H S ds vs d Q w rb e k => ?_
  unfold opInt1 at e
  split at e
  · obtain ⟨v, rfl, rv⟩ := rb1 rb
    cases e
    obtain rfl : v = .int _ := rv
    exact .inl ⟨_, rfl, k _ rfl⟩
  · obtain ⟨v, rfl, rv⟩ := rb1 rb
    cases e
    obtain rfl : v = .bl _ := rv
    exact .inr ⟨_, rfl, k _ rfl⟩
  · cases e
def intsD : List D → Option (List Int)
  | [] => some []
  | .int i :: ds => (intsD ds).map (i :: ·)
  | _ => none
theorem intsD_inv : ∀ {ds : List D} {ns : List Int}, intsD ds = some ns → ds = ns.map D.int
  | [], ns, h => by cases h; rfl
  | .int i :: ds, ns, h => by
    rw [intsD] at h
    cases e : intsD ds with
    | none => rw [e] at h; cases h
    | some ms =>
      rw [e] at h
      cases h
      rw [intsD_inv e]
      rfl
  | .non :: _, _, h => by cases h
  | .bl _ :: _, _, h => by cases h
  | .str _ :: _, _, h => by cases h
  | .op _ :: _, _, h => by cases h
  | .node _ _ _ :: _, _, h => by cases h
theorem reps_intsV : ∀ {ns : List Int} {vs : List V} {S : Fp}, RepL K Z H (ns.map D.int) vs S → vs = ns.map V.int
  | [], [], _, _ => rfl
  | [], _ :: _, _, h => h.elim
  | _ :: _, [], _, h => h.elim
  | n :: ns, v :: vs, S, ⟨_, _, _, _, _, r, q⟩ => by
    obtain rfl : v = .int n := r
    rw [reps_intsV q]
    rfl
def opList : List D → Option D
  | [.node _ .lst xs] => if plainL xs then some (.lst true xs) else none
  | [.node _ .tup xs] => if plainL xs then some (.lst true xs) else none
  | _ => none
theorem snd_list : Snd X (fun xs H Q => ∃ p ys, xs = [.ref p] ∧ (SqL X.K H p ys ∨ SqT X.K H p ys) ∧ ∀ l, H l = none → Q (.ref l) (upd H l (.lst ys))) opList := by
  intro Z H S ds vs d Q w rb e k
  unfold opList at e
  split at e
  · split at e
    · rename_i hp
      obtain ⟨v, rfl, rv⟩ := rb1 rb
      obtain ⟨a, ys, rfl, c, rl⟩ := rep_lst w.same rv
      cases e
      refine ⟨a, ys, rfl, .inl (SqL.of c), fun p np => ?_⟩
      obtain ⟨f1, f2, f3, f4⟩ := fresh_lst w np (rl.plain hp)
      exact k _ _ _ _ f1 f2 f3 f4
    · cases e
  · split at e
    · rename_i hp
      obtain ⟨v, rfl, rv⟩ := rb1 rb
      obtain ⟨a, ys, rfl, c, rl⟩ := rep_tup w.same rv
      cases e
      refine ⟨a, ys, rfl, .inr c, fun p np => ?_⟩
      obtain ⟨f1, f2, f3, f4⟩ := fresh_lst w np (rl.plain hp)
      exact k _ _ _ _ f1 f2 f3 f4
    · cases e
  · cases e
def opTuple : List D → Option D
  | [.node _ .lst xs] => if plainL xs then some (.tup xs) else none
  | [.node false .tup xs] => if plainL xs then some (.tup xs) else none
  | _ => none
theorem snd_tuple : Snd X (fun xs H Q => ∃ p ys, xs = [.ref p] ∧ ((SqL X.K H p ys ∧ ∀ l, H l = none → Q (.ref l) (upd H l (.tup ys))) ∨ (SqT X.K H p ys ∧ Q (.ref p) H))) opTuple := by
  intro Z H S ds vs d Q w rb e k
  unfold opTuple at e
  split at e
  · split at e
    · rename_i hp
      obtain ⟨v, rfl, rv⟩ := rb1 rb
      obtain ⟨a, ys, rfl, c, rl⟩ := rep_lst w.same rv
      cases e
      refine ⟨a, ys, rfl, .inl ⟨SqL.of c, fun p np => ?_⟩⟩
      obtain ⟨f1, f2, f3⟩ := fresh_tup w np (rl.plain hp)
      exact k _ _ _ _ f1 f2 (fun _ _ x => x) f3
    · cases e
  · split at e
    · rename_i xs hp
      obtain ⟨v, rfl, rv⟩ := rb1 rb
      cases e
      have rp : Rep X.K Z H (.tup xs) v Fp0 := Rep.plain rv (by simp [D.plain, hp])
      obtain ⟨a, ys, rfl, c, rl⟩ := rep_tup w.same rv
      exact ⟨a, ys, rfl, .inr ⟨c, k _ Z H Fp0 w.nil (fun _ _ e => e) (fun _ _ x => x) rp⟩⟩
    · cases e
  · cases e
end
end Pm
namespace Pm
open PySem PySem.Spec PyProof.Rows L2
section
variable {K : PySem.W.Frag} {mg : Str → Option Value} {W : WX} {Z H : Hp} {S : Fp} {σ : Sl} {X : Cx} {A : Nat → Bool}
def opDivmod : List D → Option D
  | [.int i, .int j] => if 0 < j then (if divOk j = true then some (.tup [.int (i / j), .int (i % j)]) else none) else none
  | _ => none
mutual
theorem shw_ok : ∀ (n : Nat) (d : D), shw n d = true → PyData.showable (toP d) = true
  | _, .non, _ => rfl
  | _, .bl _, _ => rfl
  | n, .int i, h => by
    have q : i.natAbs.log2 < 1900 := by cases n <;> simpa [shw] using h
    simp only [toP, PyData.showable]
    exact decide_eq_true (by omega)
  | _, .str _, _ => rfl
  | _, .op _, _ => rfl
  | n, .node b k xs, h => by
    cases n with
    | zero => cases k <;> simp [shw] at h
    | succ n =>
      cases k with
      | lst =>
        simp only [toP, PyData.showable]
        exact shw_all n xs (by simpa [shw] using h)
      | tup =>
        simp only [toP, PyData.showable]
        exact shw_all n xs (by simpa [shw] using h)
      | scr => simp [shw] at h
      | dct ks => simp [shw] at h
      | obj C fs => simp [shw] at h
      | ins C fs => simp [shw] at h
theorem shw_all : ∀ (n : Nat) (xs : List D), (∀ x ∈ xs, shw n x = true) → PyData.showableAll (toPL xs) = true
  | _, [], _ => rfl
  | n, x :: xs, h => by
    simp only [toPL, PyData.showableAll]
    rw [shw_ok n x (h x List.mem_cons_self), shw_all n xs fun y hy => h y (List.mem_cons_of_mem _ hy)]
    rfl
end
def reprD (d : D) : Str := (toP d).shown
def opRepr : List D → Option D
  | [.int i] => if shw 60 (.int i) = true then some (.str (reprD (.int i))) else none
  | [d] => if shp 60 d && shw 60 d && decide ((reprD d).length ≤ cap) then some (.str (reprD d)) else none
  | _ => none
def rRepr (K : PySem.W.Frag) : List V → Hp → VK → Prop := fun xs H Q => ∃ x d, xs = [x] ∧ Dp K H x d ∧ PyData.canLay0 d = true ∧ PyData.depth d ≤ 60 ∧ PyData.showable d = true ∧ (d.shown.length ≤ sizeLine ∨ ∃ i, d = .int i) ∧ Q (.str d.shown) H
theorem call_reprA (hg : X.A.guards = some []) (hu : X.A.units + 64 < cLine) : CallR X (.builtin "repr") (rRepr X.K) := by
  intro pins s σ H xs us Q I r h
  obtain ⟨x, d, rfl, hd, hc, hp, hs, hz, q⟩ := h
  obtain ⟨u, rfl, rx⟩ := vals1 r
  obtain ⟨as, rd⟩ := Dp.reads I d x u hd rx
  have nd : d.hasDict = false := PyData.hasDict_of_canLay d hc
  cases rd with
  | none => exact PySem.P.repr_of_none ⟨.str _, H, I.tok _, ⟨_, rfl⟩, q⟩
  | bool b => exact PySem.P.repr_of_bool ⟨.str _, H, I.tok _, ⟨_, rfl⟩, q⟩
  | int i t => exact PySem.P.repr_of_int (of_decide_eq_true hs) ⟨.str _, H, I.tok _, ⟨_, rfl⟩, q⟩
  | str z t => exact PySem.P.repr_of_str ⟨.str _, H, I.tok _, ⟨_, rfl⟩, q⟩ (hz.elim id fun ⟨_, e⟩ => nomatch e)
  | list h1 h2 h3 h4 => exact repr_of_reads' (Reads.list h1 h2 h3 h4) hs (PyData.noDict_hsm nd) hg (by omega) (fun _ _ e => e) (fun h' u tk k => ⟨.str _, H, I.kept k, ⟨_, rfl⟩, q⟩) (hz.elim id fun ⟨_, e⟩ => nomatch e)
  | tuple h1 h2 h3 h4 => exact repr_of_reads' (Reads.tuple h1 h2 h3 h4) hs (PyData.noDict_hsm nd) hg (by omega) (fun _ _ e => e) (fun h' u tk k => ⟨.str _, H, I.kept k, ⟨_, rfl⟩, q⟩) (hz.elim id fun ⟨_, e⟩ => nomatch e)
  | dict => simp [PyData.hasDict] at nd
theorem snd_repr : Snd X (rRepr X.K) opRepr := by
  refine snd_pure fun Z H S ds vs d Q w rb e k => ?_
  unfold opRepr at e
  split at e
  · rename_i x
    split at e
    · rename_i c
      obtain ⟨v, rfl, rv⟩ := rb1 rb
      cases e
      exact ⟨v, toP (.int x), rfl, dp_of w.same 60 (.int x) v S rfl rv, (shp_can 60 (.int x) rfl).1, (shp_can 60 (.int x) rfl).2, shw_ok 60 (.int x) c, .inr ⟨x, rfl⟩, k _ rfl⟩
    · cases e
  · rename_i x _
    split at e
    · rename_i c
      rw [Bool.and_eq_true, Bool.and_eq_true] at c
      obtain ⟨⟨c1, c2⟩, c3⟩ := c
      obtain ⟨v, rfl, rv⟩ := rb1 rb
      obtain ⟨a, b⟩ := shp_can 60 x c1
      cases e
      exact ⟨v, toP x, rfl, dp_of w.same 60 x v S c1 rv, a, b, shw_ok 60 x c2, .inl (cap_le (of_decide_eq_true c3)), k _ rfl⟩
    · cases e
  · cases e
def tyN : D → Option String
  | .non => some "NoneType"
  | .bl _ => some "bool"
  | .int _ => some "int"
  | .str _ => some "str"
  | .node _ .lst _ => some "list"
  | .node _ .tup _ => some "tuple"
  | .node _ (.dct _) _ => some "dict"
  | _ => none
def opIsi : List D → Option D
  | [d, .op (.ty n)] => match tyN d with
    | some t => match kitB t n with
      | some b => some (.bl b)
      | none => none
    | none => none
  | _ => none
theorem tyX_of {d : D} {v : V} {t : String} (w : Sam Z H) (r : Rep K Z H d v S) (h : tyN d = some t) : TyX K H v (.type t) := by
  cases d with
  | non => obtain rfl : v = .non := r; cases h; exact .base .non
  | bl b => obtain rfl : v = .bl b := r; cases h; exact .base (.bl b)
  | int b => obtain rfl : v = .int b := r; cases h; exact .base (.int b)
  | str b => obtain rfl : v = .str b := r; cases h; exact .base (.str b)
  | op u => cases h
  | node b k xs =>
    cases k with
    | lst =>
      obtain ⟨a, ys, rfl, c, rl⟩ := rep_lst w r
      cases h
      exact .base (.lst c)
    | tup =>
      obtain ⟨a, ys, rfl, c, rl⟩ := rep_tup w r
      cases h
      rcases c with (c | ⟨o, c⟩) | ⟨o, its, n, c, oc, _⟩
      · exact .base (.tup c)
      · exact .fTuple c
      · exact .kTuple c oc
    | scr => cases h
    | obj C fs => cases h
    | ins C fs => cases h
    | dct ks =>
      cases h
      cases b with
      | false =>
        obtain ⟨a, ys, rfl, c, rl⟩ := r
        exact .base (.dK (w.get _ _ c.2 nt_dK))
      | true =>
        obtain ⟨a, ys, S', rfl, c, _⟩ := r
        exact .base (.dK c.2)
theorem snd_isi : Snd X (rIsi X.K) opIsi := by
  refine snd_pure fun Z H S ds vs d Q w rb e k => ?_
  unfold opIsi at e
  split at e
  · split at e
    · rename_i t ht
      split at e
      · rename_i b hb
        obtain ⟨v, u, rfl, rv, ru⟩ := rb2 rb
        obtain rfl : u = .ty _ := ru
        cases e
        exact ⟨v, _, _, _, b, rfl, .ty _, tyX_of w.same rv ht, kit_ty hb, k _ rfl⟩
      · cases e
    · cases e
  · cases e
def rangeD (lo : Int) (n : Nat) : List D := (List.range n).map fun (i : Nat) => .int (lo + (i : Int))
/-- (not to be unfolded with numbers that are not known: the kernel would count) -/
noncomputable def sm62 (i : Int) : Bool := @decide (-(2 ^ 62) ≤ i ∧ i < 2 ^ 62) (Classical.propDecidable _)
theorem sm62_ok {i : Int} (h : sm62 i = true) : -(2 ^ 62) ≤ i ∧ i < 2 ^ 62 := @of_decide_eq_true _ (Classical.propDecidable _) h
theorem sm62_of {i : Int} (h : -(2 ^ 62) ≤ i ∧ i < 2 ^ 62) : sm62 i = true := @decide_eq_true _ (Classical.propDecidable _) h
noncomputable def srcR1 (fs : M (List EV)) : M (List D) := bnd fs fun es => fun ρ => match peeks ρ es with
  | some [.int j] => if sm62 j then .ok (rangeD 0 j.toNat) ρ else .stuck
  | _ => .stuck
noncomputable def srcR2 (fs : M (List EV)) : M (List D) := bnd fs fun es => fun ρ => match peeks ρ es with
  | some [.int i, .int j] => if sm62 i && sm62 j then .ok (rangeD i (j - i).toNat) ρ else .stuck
  | _ => .stuck
theorem walk_rng (lo : Int) (n : Nat) : WalkR K (Itr lo n) Z (rangeD lo n) := by
  intro Z' H' _ _
  refine ⟨fun i hi => by unfold rangeD at hi; rw [List.length_map, List.length_range] at hi; exact hi, fun i d hd => ?_⟩
  unfold rangeD at hd
  rw [List.getElem?_map] at hd
  cases e : (List.range n)[i]? with
  | none => rw [e] at hd; cases hd
  | some j =>
    rw [e] at hd
    obtain ⟨hl, ej⟩ := List.getElem?_eq_some_iff.mp e
    rw [List.getElem_range] at ej
    subst ej
    rw [List.length_range] at hl
    refine ⟨hl, fun x H'' S' w h => ?_⟩
    obtain ⟨rfl, rfl⟩ := h
    cases hd
    exact ⟨Z', Step.refl w, fun _ _ e => e, rfl⟩
theorem pi_R1 {tg a : Expr} {fs : M (List EV)} {p pos : Pos} (hg : Gl X "range") (hm : X.mg "range" = none) (ha : PA X [a] (tA X.K X.mg W fs)) (hs : starEach [a] X.env = [(false, eval a X.env)]) : PI X tg (.Call (.Name "range" p) [a] [] pos) (tI X.K X.mg W (srcR1 fs)) :=
  PI.of (pi_range1 hg hm ha hs) fun σ H R q => by
    obtain ⟨Z, ρ, S, w, er, o⟩ := q
    refine ⟨Z, ρ, S, w, er, ?_⟩
    simp only [srcR1, bnd] at o
    cases e1 : fs ρ with
    | stuck => rw [e1] at o; exact o
    | exc x ρ1 => rw [e1] at o; exact o
    | ok es ρ1 =>
      simp only [e1] at o
      intro vs Z1 H1 S1 Sa st dj er1 r1
      split at o
      · rename_i j hp
        obtain ⟨v, rfl, rv⟩ := rb1 (peeks_rep er1 r1 hp)
        obtain rfl : v = .int j := rv
        split at o
        · rename_i hs
          have hs' : -(2 ^ 62) ≤ j ∧ j < 2 ^ 62 := sm62_ok hs
          exact ⟨j, rfl, hs'.1, hs'.2, o _ Z1 H1 S1 (st.less fun a x => .inl x) er1 (walk_rng 0 _)⟩
        · exact o.elim
      · exact o.elim
theorem pi_R2 {tg a b : Expr} {fs : M (List EV)} {p pos : Pos} (hg : Gl X "range") (hm : X.mg "range" = none) (ha : PA X [a, b] (tA X.K X.mg W fs)) (hs : starEach [a, b] X.env = [(false, eval a X.env), (false, eval b X.env)]) (hs2 : starEach [b] X.env = [(false, eval b X.env)]) :
    PI X tg (.Call (.Name "range" p) [a, b] [] pos) (tI X.K X.mg W (srcR2 fs)) :=
  PI.of (pi_range2 hg hm ha hs hs2) fun σ H R q => by
    obtain ⟨Z, ρ, S, w, er, o⟩ := q
    refine ⟨Z, ρ, S, w, er, ?_⟩
    simp only [srcR2, bnd] at o
    cases e1 : fs ρ with
    | stuck => rw [e1] at o; exact o
    | exc x ρ1 => rw [e1] at o; exact o
    | ok es ρ1 =>
      simp only [e1] at o
      intro vs Z1 H1 S1 Sa st dj er1 r1
      split at o
      · rename_i i j hp
        obtain ⟨v, u, rfl, rv, ru⟩ := rb2 (peeks_rep er1 r1 hp)
        obtain rfl : v = .int i := rv
        obtain rfl : u = .int j := ru
        split at o
        · rename_i hs
          rw [Bool.and_eq_true] at hs
          have hs1 : -(2 ^ 62) ≤ i ∧ i < 2 ^ 62 := sm62_ok hs.1
          have hs2 : -(2 ^ 62) ≤ j ∧ j < 2 ^ 62 := sm62_ok hs.2
          exact ⟨i, j, rfl, ⟨hs1.1, hs1.2, hs2.1, hs2.2⟩, o _ Z1 H1 S1 (st.less fun a x => .inl x) er1 (walk_rng i _)⟩
        · exact o.elim
      · exact o.elim
def signsD (x : Str) : List D := x.cps.toList.map fun c => .str ⟨#[c]⟩
theorem walk_str (x : Str) : WalkR K (Its x) Z (signsD x) := by
  intro Z' H' _ _
  refine ⟨fun i hi => by unfold signsD at hi; rw [List.length_map, Array.length_toList] at hi; exact hi, fun i d hd => ?_⟩
  unfold signsD at hd
  rw [List.getElem?_map] at hd
  cases e : x.cps.toList[i]? with
  | none => rw [e] at hd; cases hd
  | some c =>
    rw [e] at hd
    have hl : i < x.cps.size := by
      have := (List.getElem?_eq_some_iff.mp e).1
      simpa using this
    refine ⟨hl, fun y H'' S' w h => ?_⟩
    obtain ⟨rfl, c', hc', rfl⟩ := h
    have ec : c' = c := by
      have e' : x.cps[i]? = some c := by simpa using e
      rw [e'] at hc'
      exact (Option.some.inj hc').symm
    subst ec
    cases hd
    exact ⟨Z', Step.refl w, fun _ _ e => e, rfl⟩
def srcA (f : M EV) : M (List D) := bnd f fun e => bnd (use1 e) fun d => match d with
  | .node _ .lst ds => ret (frzL ds)
  | .node _ .tup ds => ret (frzL ds)
  | .str x => ret (signsD x)
  | _ => fun _ => .stuck
theorem PI.or {tg iter : Expr} {t1 t2 : TI} (h1 : PI X tg iter t1) (h2 : PI X tg iter t2) : PI X tg iter (fun σ H R => t1 σ H R ∨ t2 σ H R) := ⟨fun p s σ H R I q => q.elim (h1.run p s σ H R I) (h2.run p s σ H R I)⟩
theorem pi_A {tg l : Expr} {f : M EV} (h : PE X l (tE X.K X.mg W f)) : PI X tg l (tI X.K X.mg W (srcA f)) := by
  refine PI.of (PI.or (pi_seqL h) (PI.or (pi_seqT h) (pi_str h))) fun σ H R q => ?_
  obtain ⟨Z, ρ, S, w, er, o⟩ := q
  cases e1 : f ρ with
  | stuck => simp only [srcA, bnd, e1] at o; exact o.elim
  | exc x ρ1 =>
    refine .inl ⟨Z, ρ, S, w, er, ?_⟩
    simp only [srcA, bnd, e1] at o
    simp only [srcSeq, bnd, e1]
    exact o
  | ok ev ρ1 =>
    cases e2 : use1 ev ρ1 with
    | stuck => simp only [srcA, bnd, e1, e2] at o; exact o.elim
    | exc x ρ2 => exact absurd e2 use1_noexc
    | ok d ρ2 =>
      simp only [srcA, bnd, e1, e2] at o
      split at o
      · refine .inl ⟨Z, ρ, S, w, er, ?_⟩
        simp only [srcSeq, bnd, e1, e2, if_true]
        exact o
      · refine .inr (.inl ⟨Z, ρ, S, w, er, ?_⟩)
        simp only [srcSeq, bnd, e1, e2, if_true]
        exact o
      · rename_i x
        refine .inr (.inr ⟨Z, ρ, S, w, er, ?_⟩)
        simp only [e1]
        intro v Z1 H1 S1 Sa st dj er1 r1
        have w1 : Wd Z1 H1 (fun a => (S1 a ∨ Sa a) ∨ Fp0 a) := st.wd.less fun a x => x.elim id False.elim
        obtain ⟨Z2, S2, st2, m2, er2, r2⟩ := use1_ok w1 dj (fun _ _ x => x) er1 r1 e2
        obtain rfl : v = .str x := r2
        have st2' : Step Z1 H1 (fun a => S1 a ∨ Sa a) Z2 H1 S2 := ⟨st2.wd.less fun a x => .inl (.inl x), st2.zz, fun a o n e _ => e, fun a x => .inl (.inl (m2 a x)), fun a o e => (st2.znew a o e).elim .inl fun y => .inr (y.elim (fun z => z.elim .inl False.elim) .inr)⟩
        exact ⟨x, rfl, o (Its x) Z2 H1 S2 (st.trans st2') er2 (walk_str x)⟩
      · exact o.elim
end
end Pm
namespace Pm
open PySem PySem.Spec PyProof.Rows L2
section
variable {K : PySem.W.Frag} {mg : Str → Option Value} {W : WX} {Z H : Hp} {S : Fp} {σ : Sl} {X : Cx} {A : Nat → Bool}
abbrev wF : WX := fun _ _ _ _ => False
def wipeE (ρ : Env) : List Nat → Env
  | [] => ρ
  | v :: vs => (wipeE ρ vs).set v none
/-- plain things come back to the names of the block -/
def backE (ρ ρ' : Env) : List Nat → Env
  | [] => ρ'
  | v :: vs => match ρ.getD v none with
    | some d => if d.plain then (backE ρ ρ' vs).set v (some d) else backE ρ ρ' vs
    | none => backE ρ ρ' vs
def compIt (own : List Nat) (g : Tg) (c : M Bool) (e : M EV) : List D → Env → List D → Res (List D)
  | [], ρ, acc => .ok acc ρ
  | d :: ds, ρ, acc => match g d ρ with
    | .ok _ ρ1 => match c ρ1 with
      | .ok true ρ2 => match e ρ2 with
        | .ok ev ρ3 => match use1 ev ρ3 with
          | .ok d' ρ4 => if acc.length < cap then compIt own g c e ds (wipeE ρ4 own) (acc ++ [d']) else .stuck
          | _ => .stuck
        | _ => .stuck
      | .ok false ρ2 => compIt own g c e ds (wipeE ρ2 own) acc
      | _ => .stuck
    | _ => .stuck
def comp (own : List Nat) (s : M (List D)) (g : Tg) (c : M Bool) (e : M EV) : M EV := bnd s fun ds => fun ρ => match compIt own g c e ds (wipeE ρ own) [] with
  | .ok acc ρ' => .ok (.val (.lst true acc)) (backE ρ ρ' own)
  | _ => .stuck
theorem EnvR.wipe {ρ : Env} : ∀ {own : List Nat}, EnvR K Z H ρ σ S → EnvR K Z H (wipeE ρ own) (L2.wipe σ own) S
  | [], h => h
  | v :: vs, h => by
    have q := (EnvR.wipe (own := vs) h).drop v
    have hn : ∀ {ρ : Env} {σ : Sl}, EnvR K Z H (ρ.set v none) σ S → EnvR K Z H (ρ.set v none) (σ.set v none) S := fun {ρ σ} h => by
      by_cases hv : v < ρ.length
      · exact h.any none (by rw [List.getElem?_set_self hv])
      · have hl := h.length
        rw [List.length_set] at hl
        rw [List.set_eq_of_length_le (l := σ) (by omega)]
        exact h
    exact hn q
theorem EnvR.unwipe {ρ : Env} : ∀ {own : List Nat}, EnvR K Z H (wipeE ρ own) (L2.wipe σ own) S → EnvR K Z H (wipeE ρ own) σ S
  | [], h => h
  | v :: vs, h => by
    have key : ∀ (own : List Nat) (ρ : Env) (σ : Sl), (∀ v ∈ own, ρ[v]? = some none ∨ ρ.length ≤ v) → EnvR K Z H ρ (L2.wipe σ own) S → EnvR K Z H ρ σ S := by
      intro own
      induction own with
      | nil => exact fun _ _ _ h => h
      | cons v vs ih =>
        intro ρ σ hn h
        have h' : EnvR K Z H ρ ((L2.wipe σ vs).set v none) S := h
        refine ih ρ σ (fun u hu => hn u (List.mem_cons_of_mem _ hu)) ?_
        rcases hn v List.mem_cons_self with e | e
        · have lv : v < (L2.wipe σ vs).length := by
            have := h'.length
            rw [List.length_set] at this
            have := (List.getElem?_eq_some_iff.mp e).1
            omega
          have q := h'.any ((L2.wipe σ vs)[v]) e
          rw [List.set_set, List.set_getElem_self] at q
          exact q
        · have := h'.length
          rw [List.length_set] at this
          rw [List.set_eq_of_length_le (by omega)] at h'
          exact h'
    refine key (v :: vs) (wipeE ρ (v :: vs)) σ (fun u hu => ?_) h
    have all : ∀ (own : List Nat) (ρ : Env), ∀ u ∈ own, (wipeE ρ own)[u]? = some none ∨ (wipeE ρ own).length ≤ u := by
      intro own
      induction own with
      | nil => exact fun _ u hu => by cases hu
      | cons v vs ih =>
        intro ρ u hu
        unfold wipeE
        by_cases e : u = v
        · subst e
          by_cases hl : u < (wipeE ρ vs).length
          · exact .inl (by rw [List.getElem?_set_self hl])
          · exact .inr (by rw [List.length_set]; omega)
        · rw [List.getElem?_set_ne (Ne.symm e), List.length_set]
          exact ih ρ u ((List.mem_cons.mp hu).resolve_left e)
    exact all _ _ u hu
theorem wipeE_back {ρ0 : Env} {Z0 H0 : Hp} {S0 : Fp} (e0 : EnvR K Z0 H0 ρ0 σ S0) (zz : Same Z0 Z) : ∀ {own : List Nat} {ρ : Env}, EnvR K Z H ρ σ S → EnvR K Z H (backE ρ0 ρ own) σ S
  | [], _, h => h
  | v :: vs, ρ, h => by
    unfold backE
    have ih := wipeE_back e0 zz (own := vs) h
    split
    · rename_i d hd
      split
      · rename_i hp
        obtain ⟨u, S1, S2, hu, s1, s2, dj, r, _⟩ := e0.take (getD_some hd)
        have rp : Rep K Z H d u Fp0 := (Rep.plain (H' := H0) r hp).move zz (fun _ _ x => x.elim) fun _ x => x
        obtain ⟨hl, he⟩ := List.getElem?_eq_some_iff.mp hu
        have q := EnvR.put (S := S) (ih.drop v) (by rw [ih.length]; exact hl) rp (fun _ x => x.elim) (fun _ x => x) fun _ x _ => x
        rw [← he, List.set_getElem_self] at q
        exact q
      · exact ih
    · exact ih
theorem wipe_keep {own : List Nat} {σ' : Sl} (kp : Keep (fun j => decide (j ∈ own)) σ σ') : L2.wipe σ' own = L2.wipe σ own := by
  have hl := kp.2
  refine List.ext_getElem? fun i => ?_
  have key : ∀ (own2 : List Nat), (∀ σ : Sl, (L2.wipe σ own2)[i]? = if i ∈ own2 then (if i < σ.length then some none else none) else σ[i]?) := by
    intro own2
    induction own2 with
    | nil => intro σ; simp [L2.wipe]
    | cons v vs ih =>
      intro σ
      unfold L2.wipe
      by_cases e : i = v
      · subst e
        rw [if_pos List.mem_cons_self]
        by_cases hi : i < σ.length
        · rw [if_pos hi, List.getElem?_set_self (by rw [wipe_length]; exact hi)]
        · rw [if_neg hi, List.getElem?_eq_none (by rw [List.length_set, wipe_length]; omega)]
      · rw [List.getElem?_set_ne (Ne.symm e), ih σ]
        by_cases m : i ∈ vs
        · rw [if_pos m, if_pos (List.mem_cons_of_mem _ m)]
        · rw [if_neg m, if_neg fun q => m ((List.mem_cons.mp q).resolve_left e)]
  rw [key own σ', key own σ, hl]
  by_cases m : i ∈ own
  · rw [if_pos m, if_pos m]
  · rw [if_neg m, if_neg m]
    exact kp.1 i (decide_eq_false m)
theorem wipe_wipe {own : List Nat} : L2.wipe (L2.wipe σ own) own = L2.wipe σ own := by
  refine wipe_keep (σ := σ) ⟨fun j hj => ?_, wipe_length _ _⟩
  have hj' : j ∉ own := of_decide_eq_false hj
  have : ∀ (vs : List Nat), j ∉ vs → (L2.wipe σ vs)[j]? = σ[j]? := by
    intro vs
    induction vs with
    | nil => exact fun _ => rfl
    | cons v vs ih =>
      intro h
      unfold L2.wipe
      rw [List.getElem?_set_ne (fun e => h (by rw [e]; exact List.mem_cons_self))]
      exact ih fun q => h (List.mem_cons_of_mem _ q)
  exact this own hj'
theorem tE_comp {own : List Nat} {s : M (List D)} {g : Tg} {c : M Bool} {e : M EV} {Q : VK} (h : tE K mg W (comp own s g c e) σ H Q) :
    tLc (tI K mg W s) (tG K (fun j => decide (j ∈ own)) g) (tT K mg wF c) (tE K mg wF e) own σ H Q := by
  obtain ⟨Z, ρ, S, w, er, o⟩ := h
  refine ⟨Z, ρ, S, w, er, ?_⟩
  simp only [comp, bnd] at o
  cases e1 : s ρ with
  | stuck => rw [e1] at o; exact o
  | exc x ρ1 => rw [e1] at o; exact o
  | ok ds ρ1 =>
    simp only [e1] at o
    intro J Z1 H1 S1 st er1 wk L hL
    cases e2 : compIt own g c e ds (wipeE ρ1 own) [] with
    | stuck => simp only [e2] at o; exact o.elim
    | exc x ρ2 => simp only [e2] at o; exact o.elim
    | ok accF ρF =>
      simp only [e2] at o
      -- the turns: what was made so far stands at L
      obtain ⟨f1, f2, f3, f4⟩ := fresh_lst (K := K) (ds := []) (vs := []) st.wd hL trivial
      refine ⟨fun i m H' => ∃ Z' ρ' S' Sa acc ys, Step Z1 H1 S1 Z' H' (fun a => S' a ∨ (a = L ∨ Sa a)) ∧ (∀ a, S' a → (a = L ∨ Sa a) → False) ∧ EnvR K Z' H' (wipeE ρ' own) (L2.wipe σ own) S' ∧ H' L = some (.lst ys) ∧ ¬ Sa L ∧ RepL K Z' H' acc ys Sa ∧ i + m = ds.length ∧
        compIt own g c e (ds.drop i) (wipeE ρ' own) acc = .ok accF ρF, ⟨ds.length, Z1, ρ1, S1, Fp0, [], [], f1.less fun a x => x.elim .inl fun y => .inr (y.elim id False.elim), fun a x y => y.elim (f3 a x) False.elim, (er1.move (Same.refl _) (fun a o _ e => f2 a o e) fun _ x => x).wipe, upd_same, fun x => x, trivial, by omega, e2⟩, ?_⟩
      rintro i m H2 ⟨Z2, ρ2, S2, Sa, acc, ys, st2, dj2, er2, hys, nL, ra, him, ci⟩
      obtain ⟨w3, w4⟩ := wk Z2 H2 st2.zz st2.wd.same
      by_cases hi : i < ds.length
      · obtain ⟨go, yl⟩ := w4 i ds[i] (List.getElem?_eq_getElem hi)
        have ed : ds.drop i = ds[i] :: ds.drop (i + 1) := List.drop_eq_getElem_cons hi
        rw [ed] at ci
        refine .inr ⟨go, fun H' => ∃ Z' ρ' S' Sa acc ys, Step Z1 H1 S1 Z' H' (fun a => S' a ∨ (a = L ∨ Sa a)) ∧ (∀ a, S' a → (a = L ∨ Sa a) → False) ∧ EnvR K Z' H' (wipeE ρ' own) (L2.wipe σ own) S' ∧ H' L = some (.lst ys) ∧ ¬ Sa L ∧ RepL K Z' H' acc ys Sa ∧ (i + 1) + (m - 1) = ds.length ∧
          compIt own g c e (ds.drop (i + 1)) (wipeE ρ' own) acc = .ok accF ρF, fun H' q => ⟨m - 1, by omega, q⟩, fun x H3 y => ?_⟩
        obtain ⟨Z3, st3, k3, r3⟩ := yl x H3 (fun a => S2 a ∨ (a = L ∨ Sa a)) st2.wd y
        have er3 : EnvR K Z3 H3 (wipeE ρ2 own) (L2.wipe σ own) S2 := er2.move st3.zz (fun a o _ e => k3 a o e) fun _ x => x
        have w3' : Wd Z3 H3 (fun a => S2 a ∨ Fp0 a) := st3.wd.less fun a x => x.elim .inl False.elim
        refine ⟨Z3, wipeE ρ2 own, S2, Fp0, ds[i], w3', fun _ _ x => x, er3, r3, ?_⟩
        simp only [compIt] at ci
        cases e3 : g ds[i] (wipeE ρ2 own) with
        | stuck => rw [e3] at ci; cases ci
        | exc x ρ3 => rw [e3] at ci; cases ci
        | ok u ρ3 =>
          simp only [e3] at ci
          intro σ4 Z4 H4 S4 kp4 st4 er4
          have hw4 : L2.wipe σ4 own = L2.wipe σ own := (wipe_keep kp4).trans wipe_wipe
          refine ⟨hw4, ?_⟩
          obtain ⟨F, hF⟩ : ∃ F : Fp, F = fun a => a = L ∨ Sa a := ⟨_, rfl⟩
          have dF : ∀ a, S2 a → F a → False := fun a x y => dj2 a x (by rw [hF] at y; exact y)
          have w3F : Wd Z3 H3 (fun a => S2 a ∨ F a) := by rw [hF]; exact st3.wd
          have st13 : Step Z1 H1 S1 Z3 H3 (fun a => S2 a ∨ F a) := by rw [hF]; exact st2.trans st3
          have st4' : Step Z3 H3 S2 Z4 H4 S4 := (Step.less (Step.refl (w3F.less fun a x => .inl x)) (S2 := fun a => S2 a ∨ Fp0 a) (fun a x => x.elim id False.elim)).trans st4
          have st4F := st4'.frame w3F dF
          have dF4 := st4'.apart (fun a x => w3F.live a (.inr x)) dF
          have ra3 : RepL K Z3 H3 acc ys Sa := ra.move st3.zz (fun a o _ e => k3 a o e) fun _ x => x
          have subSa : ∀ a, Sa a → F a := fun a x => by rw [hF]; exact .inr x
          have inL : F L := by rw [hF]; exact .inl rfl
          have ra4 : RepL K Z4 H4 acc ys Sa := st4'.stayL (fun a x y => dF a x (subSa a y)) ra3
          have hy4 : H4 L = some (.lst ys) := st4'.fr L _ (fun x => dF L x inL) (k3 _ _ hys) nt_lst
          refine ⟨Z4, ρ3, S4, st4.wd, er4, ?_⟩
          cases e4 : c ρ3 with
          | stuck => rw [e4] at ci; cases ci
          | exc x ρ4 => rw [e4] at ci; cases ci
          | ok t ρ4 =>
            intro Z5 H5 S5 st5 er5
            have st5F := st5.frame st4F.wd dF4
            have dF5 := st5.apart (fun a x => st4F.wd.live a (.inr x)) dF4
            have ra5 : RepL K Z5 H5 acc ys Sa := st5.stayL (fun a x y => dF4 a x (subSa a y)) ra4
            have hy5 : H5 L = some (.lst ys) := st5.fr L _ (fun x => dF4 L x inL) hy4 nt_lst
            have st15 : Step Z1 H1 S1 Z5 H5 (fun a => S5 a ∨ F a) := (st13.trans st4F).trans st5F
            cases t with
            | false =>
              rw [if_neg Bool.false_ne_true]
              simp only [e4] at ci
              refine ⟨Z5, ρ4, S5, Sa, acc, ys, by rw [hF] at st15; exact st15, fun a x y => dF5 a x (by rw [hF]; exact y), ?_, hy5, nL, ra5, by omega, ci⟩
              have q := er5.wipe (own := own)
              rw [hw4] at q
              exact q
            | true =>
              rw [if_pos rfl]
              simp only [e4] at ci
              refine ⟨Z5, ρ4, S5, st5.wd, er5, ?_⟩
              cases e5 : e ρ4 with
              | stuck => rw [e5] at ci; cases ci
              | exc x ρ5 => rw [e5] at ci; cases ci
              | ok ev ρ5 =>
                simp only [e5] at ci
                intro v Z6 H6 S6 Sd st6 dj6 er6 r6
                have st6F := st6.frame st5F.wd dF5
                have dF6 := st6.apart (fun a x => st5F.wd.live a (.inr x)) dF5
                have ra6 : RepL K Z6 H6 acc ys Sa := st6.stayL (fun a x y => dF5 a x (subSa a y)) ra5
                have hy6 : H6 L = some (.lst ys) := st6.fr L _ (fun x => dF5 L x inL) hy5 nt_lst
                cases e6 : use1 ev ρ5 with
                | stuck => rw [e6] at ci; cases ci
                | exc x ρ6 => rw [e6] at ci; cases ci
                | ok d' ρ6 =>
                  simp only [e6] at ci
                  by_cases hz : acc.length < cap
                  · rw [if_pos hz] at ci
                    have w6 : Wd Z6 H6 (fun a => (S6 a ∨ Sd a) ∨ F a) := st6F.wd
                    obtain ⟨Z7, S7, st7, m7, er7, r7⟩ := use1_ok w6 dj6 dF6 er6 r6 e6
                    have ra7 : RepL K Z7 H6 acc ys Sa := ra6.move st7.zz (fun _ _ _ x => x) fun _ x => x
                    refine ⟨ys, hy6, by rw [← ra.length]; exact Nat.lt_trans hz (by rw [sizeLine_eq]; decide), ?_⟩
                    have st8 : Step Z7 H6 (fun a => (S7 a ∨ Sd a) ∨ F a) Z7 (upd H6 L (.lst (ys ++ [v]))) (fun a => (S7 a ∨ Sd a) ∨ F a) := Step.write st7.wd (.inr inL)
                    have neL : ∀ {T : Fp}, (∀ a, T a → a = L → False) → ∀ a o, T a → H6 a = some o → upd H6 L (.lst (ys ++ [v])) a = some o := fun {T} n a o t e => by rw [upd_ne fun q => n a t q]; exact e
                    refine ⟨Z7, ρ6, S7, fun a => Sa a ∨ Sd a, acc ++ [d'], ys ++ [v], ?_, ?_, ?_, upd_same, ?_, ?_, by omega, ci⟩
                    · refine ((((st15.trans st6F).trans st7).trans st8)).less fun a x => ?_
                      rcases x with x | x | x | x
                      · exact .inl (.inl x)
                      · exact .inr (by rw [hF]; exact .inl x)
                      · exact .inr (subSa a x)
                      · exact .inl (.inr x)
                    · intro a x y
                      rcases y with y | y | y
                      · exact dF6 a (.inl (m7 a x)) (by rw [hF]; exact .inl y)
                      · exact dF6 a (.inl (m7 a x)) (subSa a y)
                      · exact dj6 a (m7 a x) y
                    · have q := er7.wipe (own := own)
                      rw [hw4] at q
                      exact q.move (Same.refl _) (neL fun a t q => dF6 a (.inl (m7 a t)) (by rw [q]; exact inL)) fun _ x => x
                    · rintro (x | x)
                      · exact nL x
                      · exact dF6 L (.inr x) inL
                    · exact RepL.append (ra7.move (Same.refl _) (neL fun a t q => nL (by rw [← q]; exact t)) fun _ x => x) ⟨Sd, Fp0, fun _ x => x, fun _ x => x.elim, fun _ _ x => x, r7.move (Same.refl _) (neL fun a t q => dF6 a (.inr t) (by rw [q]; exact inL)) fun _ x => x, trivial⟩ (fun a x => .inl x) (fun a x => .inr x) fun a x y => dF6 a (.inr y) (subSa a x)
                  · rw [if_neg hz] at ci
                    cases ci
      · refine .inl ⟨w3 i (by omega), ?_⟩
        rw [List.drop_eq_nil_of_le (by omega)] at ci
        simp only [compIt, Res.ok.injEq] at ci
        obtain ⟨rfl, rfl⟩ := ci
        have er2' := wipeE_back er1 st2.zz (own := own) er2.unwipe
        exact o (.ref L) Z2 H2 S2 (fun a => a = L ∨ Sa a) (st.trans st2) dj2 er2' ⟨L, ys, Sa, rfl, hys, .inl rfl, nL, fun a x => .inr x, ra⟩
end
end Pm
namespace Pm
open PySem PySem.Spec PyProof.Rows L2
section
variable {K : PySem.W.Frag} {mg : Str → Option Value} {W : WX} {Z H : Hp} {S : Fp} {σ : Sl} {X : Cx} {A : Nat → Bool}
def yesT : M Bool := ret true
theorem tT_yes {Q : Bool → Hp → Prop} (h : tT K mg W yesT σ H Q) : tYes σ H Q := by
  obtain ⟨Z, ρ, S, w, er, o⟩ := h
  exact o Z H S (Step.refl w) er
theorem PTs.of {es : List Expr} {t t' : TT} (h : PTs X es t) (i : ∀ σ H Q, t' σ H Q → t σ H Q) : PTs X es t' := ⟨fun p s σ H Q I q => h.run p s σ H Q I (i σ H Q q)⟩
theorem pts_N : PTs X [] (tT X.K X.mg W yesT) := PTs.of pts_nil fun _ _ _ q => tT_yes q
theorem pts_1 {c : Expr} {f : M Bool} (h : PT X c (tT X.K X.mg W f)) : PTs X [c] (tT X.K X.mg W f) := pts_one h
abbrev ownA (own : List (Str × Nat)) : Nat → Bool := fun j => decide (j ∈ own.map (·.2))
theorem pe_C {elt tg iter : Expr} {ifs : List Expr} {scope : Scope} {own : List (Str × Nat)} {pos : Pos} {s : M (List D)} {g : Tg} {c : M Bool} {e : M EV} (hc : X.calm = true) (hN : X.N.Nodup) (hi : PI X tg iter (tI X.K X.mg W s)) (ok : BlkOk X.N X.env.scope scope own)
    (hg : ∀ (s : Shared) (H : Hp) (C : Addr) (cl : List (Str × Addr)) (fp : List Addr), PG (X.blk s H scope (compEnvC scope cl C X.env) fp) tg (tG X.K (ownA own) g)) (ht : ∀ (s : Shared) (H : Hp) (C : Addr) (cl : List (Str × Addr)) (fp : List Addr), PTs (X.blk s H scope (compEnvC scope cl C X.env) fp) ifs (tT X.K X.mg wF c))
    (he : ∀ (s : Shared) (H : Hp) (C : Addr) (cl : List (Str × Addr)) (fp : List Addr), PE (X.blk s H scope (compEnvC scope cl C X.env) fp) elt (tE X.K X.mg wF e)) (hs : ∀ x, foldedSetIterable iter X.env x = pure x) :
    PE X (.ListComp elt [⟨tg, iter, ifs, 0⟩] scope pos) (tE X.K X.mg W (comp (own.map (·.2)) s g c e)) := PE.of (pe_lc hc hN hi ok hg ht he hs) fun _ _ _ q => tE_comp q
theorem ps_C {i : Nat} {y : Str} {py : Pos} {elt tg iter : Expr} {ifs : List Expr} {scope : Scope} {own : List (Str × Nat)} {pos spos : Pos} {s : M (List D)} {g : Tg} {c : M Bool} {e : M EV} (hc : X.calm = true) (hN : X.N.Nodup) (hy : X.N[i]? = some y) (hyl : X.env.scope.names.lookup y = some .local) (hA : A i = true)
    (hsw : swapsWith (.ListComp elt [⟨tg, iter, ifs, 0⟩] scope pos) (some (.Name y py)) spos.line X.env = pure true) (hi : PI X tg iter (tI X.K X.mg W s)) (ok : BlkOk X.N X.env.scope scope own)
    (hg : ∀ (s : Shared) (H : Hp) (C : Addr) (cl : List (Str × Addr)) (fp : List Addr), PG (X.blk s H scope (compEnvC scope cl C X.env) fp) tg (tG X.K (ownA own) g)) (ht : ∀ (s : Shared) (H : Hp) (C : Addr) (cl : List (Str × Addr)) (fp : List Addr), PTs (X.blk s H scope (compEnvC scope cl C X.env) fp) ifs (tT X.K X.mg wF c))
    (he : ∀ (s : Shared) (H : Hp) (C : Addr) (cl : List (Str × Addr)) (fp : List Addr), PE (X.blk s H scope (compEnvC scope cl C X.env) fp) elt (tE X.K X.mg wF e)) (hs : ∀ x, foldedSetIterable iter X.env x = pure x) :
    PS X (.Assign [.Name y py] (.ListComp elt [⟨tg, iter, ifs, 0⟩] scope pos) spos) (tS X.K X.mg W A (asg (comp (own.map (·.2)) s g c e) (gN i))) :=
  PS.of (ps_setLc hc hN hy hyl hsw hi ok hg ht he hs) fun D σ H q => by
    have q1 := tS_asg q
    refine tE_comp (Q := _) ?_
    exact tE_mono (fun v H1 r => tG_N hA r) q1
theorem pg_N {i : Nat} {x : Str} {pos : Pos} (hN : X.N.Nodup) (hi : X.N[i]? = some x) (hx : Loc X.env.scope x) (hA : A i = true) (hf : X.fn x = true ∨ X.env.scope.names.lookup x = some .local) : PG X (.Name x pos) (tG X.K A (gN i)) := PG.of (pg_name hN hi hx hf) fun _ _ _ _ q => tG_N hA q
theorem ps_N {i : Nat} {x : Str} {e : Expr} {f : M EV} {pos pos' : Pos} (hN : X.N.Nodup) (hi : X.N[i]? = some x) (hx : Loc X.env.scope x) (hA : A i = true) (he : PE X e (tE X.K X.mg W f)) (hs : swapsWith e (some (.Name x pos')) pos.line X.env = pure false) (hf : X.fn x = true ∨ X.env.scope.names.lookup x = some .local) :
    PS X (.Assign [.Name x pos'] e pos) (tS X.K X.mg W A (asg f (gN i))) := PS.of (ps_set hN hi hx he hs hf) fun D σ H q => tE_mono (fun v H1 r => tG_N hA r) (tS_asg q)
theorem ps_G {tg e : Expr} {f : M EV} {g : Tg} {pos : Pos} (he : PE X e (tE X.K X.mg W f)) (hg : PG X tg (tG X.K A g)) (hs : swapsWithSole [tg] e pos.line X.env = pure false) (hw : swappedStores [tg] e X.env = pure none)
    (h1 : (assignEach [tg] X.env).map (·.2) = [assign tg X.env]) : PS X (.Assign [tg] e pos) (tS X.K X.mg W A (asg f g)) := PS.of (ps_asg he hg hs hw h1) fun D σ H q => tS_asg q
theorem pgs_0 : PGs X [] (tGs X.K A gs0) := PGs.of pgs_nil fun _ _ _ _ q => tGs_0 q
theorem pgs_C {e : Expr} {es : List Expr} {g : Tg} {gs : List D → M Unit} (h1 : PG X e (tG X.K A g)) (h2 : PGs X es (tGs X.K A gs)) (hs : (assignEach (e :: es) X.env).map (·.2) = assign e X.env :: (assignEach es X.env).map (·.2)) : PGs X (e :: es) (tGs X.K A (gsC g gs)) :=
  PGs.of (pgs_cons h1 h2 hs) fun _ _ _ _ q => tGs_C q
theorem pg_T {es : List Expr} {k n : Nat} {gs : List D → M Unit} {pos : Pos} (hc : X.calm = true) (h : PGs X es (tGs X.K A gs)) (hn : (assignEach es X.env).length = n) (hst : (assignEach es X.env).findIdx? (·.1) = none) : PG X (.Tuple es k pos) (tG X.K A (gT gs n)) :=
  PG.of (pg_tup hc h hn hst) fun _ _ _ _ q => tG_T q
def gI (j : Nat) (fi : M EV) : Tg := fun d ρ0 => match ρ0.getD j none with
  | some _ => bnd fi (fun ei => fun ρ => match ρ.getD j none, peek1 ρ ei with
    | some (.node true .lst xs), some (.int k) => match ixN xs.length k with
      | some i => .ok () (ρ.set j (some (.node true .lst (xs.set i d))))
      | none => .stuck
    | _, _ => .stuck) ρ0
  | none => .stuck
/-- an item of an owned list of a slot, stored -/
theorem set_item {j i : Nat} {xs : List D} {ρ : Env} {d : D} {v : V} {T : Fp} (w : Wd Z H (fun a => S a ∨ T a)) (dj : ∀ a, S a → T a → False) (er : EnvR K Z H ρ σ S) (e : ρ.getD j none = some (.node true .lst xs)) (hi : i < xs.length) (rv : Rep K Z H d v T) :
    ∃ p ys, σ[j]? = some (some (.ref p)) ∧ H p = some (.lst ys) ∧ ys.length = xs.length ∧ ∃ S', (∀ a, S' a → S a ∨ T a) ∧ S p ∧ EnvR K Z (upd H p (.lst (ys.set i v))) (ρ.set j (some (.node true .lst (xs.set i d)))) σ S' := by
  obtain ⟨u, U1, U2, hv, u1, u2, uj, ru, eu⟩ := er.take (getD_some e)
  obtain ⟨p, ys, U', rfl, c, sa, na, sub, rl⟩ := ru
  obtain ⟨hj, ej⟩ := List.getElem?_eq_some_iff.mp hv
  have es : σ.set j (some (.ref p)) = σ := by rw [← ej, List.set_getElem_self]
  have hl : j < ρ.length := by rw [er.length]; exact hj
  obtain ⟨y, T1, T2, hy, t1, t2, tj, ry, put⟩ := rl.take (List.getElem?_eq_getElem hi)
  have keep : ∀ {B : Fp}, (∀ a, B a → a = p → False) → ∀ a o, B a → H a = some o → upd H p (.lst (ys.set i v)) a = some o := fun {B} n a o b q => by rw [upd_ne fun z => n a b z]; exact q
  have nT : ∀ a, T a → a = p → False := fun a x y => dj p (u1 p sa) (by rw [← y]; exact x)
  have rv' : Rep K Z (upd H p (.lst (ys.set i v))) d v T := rv.move (Same.refl Z) (keep nT) fun _ x => x
  have pl := put Z (upd H p (.lst (ys.set i v))) d v T (fun a => T2 a ∨ T a) (Same.refl Z) (keep fun a x y => na (t2 p (by rw [← y]; exact x))) rv' (fun _ x => .inr x) (fun _ x => .inl x) fun a x y => dj a (u1 a (sub a (t2 a y))) x
  have rn : Rep K Z (upd H p (.lst (ys.set i v))) (.node true .lst (xs.set i d)) (.ref p) (fun a => a = p ∨ (T2 a ∨ T a)) := ⟨p, ys.set i v, _, rfl, upd_same, .inl rfl, fun x => x.elim (fun z => na (t2 p z)) fun z => nT p z rfl, fun _ x => .inr x, pl⟩
  have q := EnvR.put (S := fun a => (a = p ∨ (T2 a ∨ T a)) ∨ U2 a) (eu.move (Same.refl Z) (keep fun a x y => uj p sa (by rw [← y]; exact x)) fun _ x => x) hl rn (fun _ x => .inl x) (fun _ x => .inr x) fun a x y => by
    rcases x with x | x | x
    · exact uj p sa (by rw [← x]; exact y)
    · exact uj a (sub a (t2 a x)) y
    · exact dj a (u2 a y) x
  rw [es] at q
  refine ⟨p, ys, hv, c, rl.length.symm, _, fun a x => ?_, u1 p sa, q⟩
  rcases x with (x | x | x) | x
  · exact .inl (by rw [x]; exact u1 p sa)
  · exact .inl (u1 a (sub a (t2 a x)))
  · exact .inr x
  · exact .inl (u2 a x)
theorem tG_I {j : Nat} {fi : M EV} {v : V} {Q : Sl → Hp → Prop} (h : tG K A (gI j fi) v σ H Q) : gSub (tVar j) (tE K mg wF fi) rSetL v σ H Q := by
  obtain ⟨Z, ρ, S, Sd, d, w, dj, er, r, o⟩ := h
  simp only [gI] at o
  cases e0 : ρ.getD j none with
  | none => simp only [e0] at o
  | some d0 =>
    simp only [e0, bnd] at o
    obtain ⟨u, U1, U2, hv, _⟩ := er.take (getD_some e0)
    refine ⟨u, hv, Z, ρ, S, w.less fun a x => .inl x, er, ?_⟩
    cases e1 : fi ρ with
    | stuck => rw [e1] at o; exact o.elim
    | exc x ρ1 => rw [e1] at o; exact o.elim
    | ok ei ρ1 =>
      simp only [e1] at o
      intro vi Z1 H1 S1 Sa st dja er1 r1
      have stF := st.frame w dj
      have apF := st.apart (fun a x => w.live a (.inr x)) dj
      have r' : Rep K Z1 H1 d v Sd := st.stay dj r
      split at o
      · rename_i ρ' hm
        split at hm
        · rename_i xs k h1 h2
          split at hm
          · rename_i i hi
            cases hm
            have il : i < xs.length := (ixN_seq hi).2.1
            have hvi : vi = .int k := peek1_rep er1 r1 h2
            subst hvi
            have wA : Wd Z1 H1 (fun a => S1 a ∨ Sd a) := stF.wd.less fun a x => x.elim (fun y => .inl (.inl y)) .inr
            obtain ⟨p, ys, hv2, hp, hl, S', m', sp, er'⟩ := set_item wA (fun a x y => apF a (.inl x) y) er1 h1 il r'
            rw [hv] at hv2
            cases hv2
            refine ⟨p, ys, k, i, rfl, rfl, hp, by rw [hl]; exact hi, ?_⟩
            have st2 : Step Z1 H1 (fun a => S1 a ∨ Sd a) Z1 (upd H1 p (.lst (ys.set i v))) (fun a => S1 a ∨ Sd a) := Step.write wA (.inl sp)
            have stA : Step Z H (fun a => S a ∨ Sd a) Z1 H1 (fun a => S1 a ∨ Sd a) := stF.less fun a x => x.elim (fun y => .inl (.inl y)) .inr
            exact o σ Z1 _ S' (Keep.refl σ) ((stA.trans st2).less m') er'
          · cases hm
        · cases hm
      · exact o.elim
theorem pg_I {j : Nat} {x : Str} {b : Expr} {fi : M EV} {pos p2 : Pos} (hj : X.N[j]? = some x) (hv : Vis X.env.scope x) (hd : (x == ("__debug__" : Str)) = false) (hcd : (x == ("__classdict__" : Str)) = false) (hi : PE X b (tE X.K X.mg wF fi))
    (ha : ∀ v, assign (.Subscript (.Name x p2) b pos) X.env v = (do
      let ov ← holding [v] (eval (.Name x p2) X.env)
      let iv ← holding [v, ov] (eval b X.env)
      standAt pos
      holding [v, ov, iv] (setItem ov iv v)
      release [v, ov, iv] [])) : PG X (.Subscript (.Name x p2) b pos) (tG X.K A (gI j fi)) := PG.of (pg_sub (pe_var hj hv hd hcd) hi set_list ha) fun _ _ _ _ q => tG_I q
end
end Pm
namespace Pm
open PySem PySem.Spec PyProof.Rows L2
section
variable {K : PySem.W.Frag} {mg : Str → Option Value} {W : WX} {Z H : Hp} {S : Fp} {σ : Sl} {X : Cx} {A : Nat → Bool}
def par (i j : Nat) (fs : M (List EV)) : M Fl := bnd fs fun es => bnd (useL es) fun ds => fun ρ => match ds with
  | [a, b] => if i < ρ.length ∧ j < ρ.length then .ok .nx ((ρ.set i (some a)).set j (some b)) else .stuck
  | _ => .stuck
theorem useL_noexc : ∀ {es : List EV} {ρ ρ' : Env} {x : XD}, useL es ρ ≠ .exc x ρ'
  | [], _, _, _, q => nomatch q
  | e :: es, ρ, ρ', x, q => by
    simp only [useL, bnd] at q
    cases u1 : use1 e ρ with
    | stuck => rw [u1] at q; cases q
    | exc y ρ3 => exact use1_noexc u1
    | ok d ρ3 =>
      simp only [u1] at q
      cases u2 : useL es ρ3 with
      | stuck => rw [u2] at q; cases q
      | exc y ρ4 => exact useL_noexc u2
      | ok ds ρ4 => simp only [u2, ret] at q; cases q
theorem tS_par {i j : Nat} {fs : M (List EV)} {D : Ends} (hi : A i = true) (hj : A j = true) (h : tS K mg W A (par i j fs) D σ H) : tPar i j (tA K mg W fs) D σ H := by
  obtain ⟨Z, ρ, S, w, er, o⟩ := h
  refine ⟨Z, ρ, S, w, er, ?_⟩
  simp only [par, bnd] at o
  cases e1 : fs ρ with
  | stuck => rw [e1] at o; exact o
  | exc x ρ1 => rw [e1] at o; exact o σ (Keep.refl σ)
  | ok es ρ1 =>
    simp only [e1] at o
    intro vs Z1 H1 S1 Sa st1 dj1 er1 r1
    cases e2 : useL es ρ1 with
    | stuck => rw [e2] at o; exact o.elim
    | exc x ρ2 => exact absurd e2 useL_noexc
    | ok ds ρ2 =>
      simp only [e2] at o
      have w1 : Wd Z1 H1 (fun a => (S1 a ∨ Sa a) ∨ Fp0 a) := st1.wd.less fun a x => x.elim id False.elim
      obtain ⟨Z2, S2, st2, m2, er2, r2⟩ := useL_ok w1 dj1 (fun _ _ x => x) er1 r1 e2
      have st2' : Step Z1 H1 (fun a => S1 a ∨ Sa a) Z2 H1 (fun a => S2 a ∨ Sa a) := ⟨st2.wd.less fun a x => .inl x, st2.zz, fun a o n e _ => e, fun a x => .inl (x.elim (fun y => .inl (m2 a y)) .inr), fun a o e => (st2.znew a o e).elim .inl fun y => .inr (y.elim (fun z => z.elim .inl False.elim) .inr)⟩
      split at o
      · rename_i a b
        split at o
        · rename_i hl
          cases vs with
          | nil => exact r2.elim
          | cons v vs =>
            obtain ⟨A1, A2, a1, a2, aj, ra, q⟩ := r2
            cases vs with
            | nil => exact q.elim
            | cons u us =>
              obtain ⟨B1, B2, b1, b2, bj, rb, q2⟩ := q
              cases us with
              | cons => exact q2.elim
              | nil =>
                have p1 := EnvR.put (S := fun x => S2 x ∨ A1 x) (er2.drop i) hl.1 ra (fun a x => .inr x) (fun a x => .inl x) fun a x y => dj1 a (m2 a y) (a1 a x)
                have p2 := EnvR.put (S := fun x => (S2 x ∨ A1 x) ∨ B1 x) (p1.drop j) (by rw [List.length_set]; exact hl.2) rb (fun a x => .inr x) (fun a x => .inl x) fun a x y => y.elim (fun z => dj1 a (m2 a z) (a2 a (b1 a x))) fun z => aj a z (b1 a x)
                refine ⟨v, u, rfl, ?_⟩
                refine o _ .non Z2 H1 _ Fp0 ⟨fun k hk => ?_, by rw [List.length_set, List.length_set]⟩ ((st1.trans st2').less fun a x => ?_) (fun _ _ x => x) p2 trivial
                · rw [List.getElem?_set_ne (fun e => by rw [← e, hj] at hk; cases hk), List.getElem?_set_ne (fun e => by rw [← e, hi] at hk; cases hk)]
                · rcases x with ((x | x) | x) | x
                  · exact .inl x
                  · exact .inr (a1 a x)
                  · exact .inr (a2 a (b1 a x))
                  · exact x.elim
        · exact o.elim
      · exact o.elim
theorem ps_P {i j : Nat} {x y : Str} {a b : Expr} {fs : M (List EV)} {px py pt pos : Pos} {kt k2 pt2} (hc : X.calm = true) (hN : X.N.Nodup) (hi : X.N[i]? = some x) (hj : X.N[j]? = some y) (hij : i ≠ j) (hAi : A i = true) (hAj : A j = true)
    (hx : X.env.scope.names.lookup x = some .local) (hy : X.env.scope.names.lookup y = some .local) (ha : PA X [a, b] (tA X.K X.mg W fs)) (hw : swappedStores [.Tuple [.Name x px, .Name y py] kt pt] (.Tuple [a, b] k2 pt2) X.env = pure (some [x, y]))
    (hs : swapsWithSole [.Tuple [.Name x px, .Name y py] kt pt] (.Tuple [a, b] k2 pt2) pos.line X.env = pure false) : PS X (.Assign [.Tuple [.Name x px, .Name y py] kt pt] (.Tuple [a, b] k2 pt2) pos) (tS X.K X.mg W A (par i j fs)) :=
  PS.of (ps_par hc hN hi hj hij hx hy ha hw hs) fun _ _ _ q => tS_par hAi hAj q
def appd (j : Nat) (fe : M EV) : M EV := fun ρ0 => match ρ0.getD j none with
  | some (.node true .lst _) => bnd fe (fun ev => bnd (use1 ev) fun d => fun ρ => match ρ.getD j none with
    | some (.node true .lst xs) => if xs.length < cap then .ok (.val .non) (ρ.set j (some (.node true .lst (xs ++ [d])))) else .stuck
    | _ => .stuck) ρ0
  | _ => .stuck
theorem push_item {j : Nat} {xs : List D} {ρ : Env} {d : D} {v : V} {T : Fp} (w : Wd Z H (fun a => S a ∨ T a)) (dj : ∀ a, S a → T a → False) (er : EnvR K Z H ρ σ S) (e : ρ.getD j none = some (.node true .lst xs)) (rv : Rep K Z H d v T) :
    ∃ p ys, σ[j]? = some (some (.ref p)) ∧ H p = some (.lst ys) ∧ ys.length = xs.length ∧ ∃ S', (∀ a, S' a → S a ∨ T a) ∧ S p ∧ EnvR K Z (upd H p (.lst (ys ++ [v]))) (ρ.set j (some (.node true .lst (xs ++ [d])))) σ S' := by
  obtain ⟨u, U1, U2, hv, u1, u2, uj, ru, eu⟩ := er.take (getD_some e)
  obtain ⟨p, ys, U', rfl, c, sa, na, sub, rl⟩ := ru
  obtain ⟨hj, ej⟩ := List.getElem?_eq_some_iff.mp hv
  have es : σ.set j (some (.ref p)) = σ := by rw [← ej, List.set_getElem_self]
  have hl : j < ρ.length := by rw [er.length]; exact hj
  have keep : ∀ {B : Fp}, (∀ a, B a → a = p → False) → ∀ a o, B a → H a = some o → upd H p (.lst (ys ++ [v])) a = some o := fun {B} n a o b q => by rw [upd_ne fun z => n a b z]; exact q
  have nT : ∀ a, T a → a = p → False := fun a x y => dj p (u1 p sa) (by rw [← y]; exact x)
  have rv' : Rep K Z (upd H p (.lst (ys ++ [v]))) d v T := rv.move (Same.refl Z) (keep nT) fun _ x => x
  have pl : RepL K Z (upd H p (.lst (ys ++ [v]))) (xs ++ [d]) (ys ++ [v]) (fun a => U' a ∨ T a) := RepL.append (rl.move (Same.refl Z) (keep fun a x y => na (by rw [← y]; exact x)) fun _ x => x) ⟨T, Fp0, fun _ x => x, fun _ x => x.elim, fun _ _ x => x, rv', trivial⟩ (fun _ x => .inl x) (fun _ x => .inr x) fun a x y => dj a (u1 a (sub a x)) y
  have rn : Rep K Z (upd H p (.lst (ys ++ [v]))) (.node true .lst (xs ++ [d])) (.ref p) (fun a => a = p ∨ (U' a ∨ T a)) := ⟨p, ys ++ [v], _, rfl, upd_same, .inl rfl, fun x => x.elim na fun z => nT p z rfl, fun _ x => .inr x, pl⟩
  have q := EnvR.put (S := fun a => (a = p ∨ (U' a ∨ T a)) ∨ U2 a) (eu.move (Same.refl Z) (keep fun a x y => uj p sa (by rw [← y]; exact x)) fun _ x => x) hl rn (fun _ x => .inl x) (fun _ x => .inr x) fun a x y => by
    rcases x with x | x | x
    · exact uj p sa (by rw [← x]; exact y)
    · exact uj a (sub a x) y
    · exact dj a (u2 a y) x
  rw [es] at q
  refine ⟨p, ys, hv, c, rl.length.symm, _, fun a x => ?_, u1 p sa, q⟩
  rcases x with (x | x | x) | x
  · exact .inl (by rw [x]; exact u1 p sa)
  · exact .inl (u1 a (sub a x))
  · exact .inr x
  · exact .inl (u2 a x)
theorem tE_appd {j : Nat} {fe : M EV} {Q : VK} (h : tE K mg W (appd j fe) σ H Q) : tBM K "list" rAppend (tVar j) (tCons (tE K mg W fe) tNil) σ H Q := by
  obtain ⟨Z, ρ, S, w, er, o⟩ := h
  simp only [appd] at o
  split at o
  · rename_i xs0 h0
    obtain ⟨u, U1, U2, hv, u1, u2, uj, ru, eu⟩ := er.take (getD_some h0)
    obtain ⟨p, ys0, U', rfl, c0, _⟩ := ru
    refine ⟨.ref p, hv, .inl ⟨rfl, ys0, SqL.of c0⟩, Z, ρ, S, w, er, ?_⟩
    simp only [bnd] at o
    cases e1 : fe ρ with
    | stuck => rw [e1] at o; exact o
    | exc x ρ1 => rw [e1] at o; exact o
    | ok ev ρ1 =>
      simp only [e1] at o
      intro v Z1 H1 S1 Sa st1 dj1 er1 r1
      cases e2 : use1 ev ρ1 with
      | stuck => rw [e2] at o; exact o.elim
      | exc x ρ2 => exact absurd e2 use1_noexc
      | ok d ρ2 =>
        simp only [e2] at o
        have w1 : Wd Z1 H1 (fun a => (S1 a ∨ Sa a) ∨ Fp0 a) := st1.wd.less fun a x => x.elim id False.elim
        obtain ⟨Z2, S2, st2, m2, er2, r2⟩ := use1_ok w1 dj1 (fun _ _ x => x) er1 r1 e2
        have st2' : Step Z1 H1 (fun a => S1 a ∨ Sa a) Z2 H1 (fun a => S2 a ∨ Sa a) := ⟨st2.wd.less fun a x => .inl x, st2.zz, fun a o n e _ => e, fun a x => .inl (x.elim (fun y => .inl (m2 a y)) .inr), fun a o e => (st2.znew a o e).elim .inl fun y => .inr (y.elim (fun z => z.elim .inl False.elim) .inr)⟩
        split at o
        · rename_i xs h1
          split at o
          · rename_i hz
            obtain ⟨p', ys, hv2, hp, hl, S', m', sp, er'⟩ := push_item st2'.wd (fun a x y => dj1 a (m2 a x) y) er2 h1 r2
            rw [hv] at hv2
            cases hv2
            refine ⟨p, ys, v, rfl, rfl, hp, by rw [hl]; exact Nat.lt_trans hz (by rw [sizeLine_eq]; decide), ?_⟩
            exact o .non Z2 _ S' Fp0 ((((st1.trans st2').trans (Step.write st2'.wd (.inl sp))).less m').less fun a x => x.elim id False.elim) (fun _ _ x => x) er' rfl
          · exact o.elim
        · exact o.elim
  · exact o.elim
theorem pe_append {j : Nat} {x : Str} {e : Expr} {fe : M EV} {p2 apos cpos : Pos} (hj : X.N[j]? = some x) (hv : Vis X.env.scope x) (hd : (x == ("__debug__" : Str)) = false) (hcd : (x == ("__classdict__" : Str)) = false) (he : PE X e (tE X.K X.mg W fe))
    (hbase : attributeBase (.Name x p2) "append" X.env (eval (.Name x p2) X.env) = eval (.Name x p2) X.env)
    (hfew : ((backTo cpos (starEach [e] X.env)).all (fun x => !x.1) && (backToKw cpos (keywordEach [] X.env)).all (fun x => x.1.isSome)
      && decide ([e].length + ([] : List Keyword).length + (if ([] : List Keyword).isEmpty then 0 else 1) < 30)) = true)
    (hline : (apos.endLine == cpos.line) = true) (hs : starEach [e] X.env = (false, eval e X.env) :: starEach [] X.env) (hplain : (backTo cpos (starEach [] X.env)).any (·.1) = false) :
    PE X (.Call (.Attribute (.Name x p2) "append" apos) [e] [] cpos) (tE X.K X.mg W (appd j fe)) :=
  PE.of (pe_bm PySem.F.plainAttrs_list PySem.F.slot_list_append PySem.F.type_list_append mt_append (pe_var hj hv hd hcd) (pa_cons he pa_nil hs) hbase hfew hline hs hplain) fun _ _ _ q => tE_appd q
end
end Pm
namespace Pm
open PySem PySem.Spec PyProof.Rows L2
section
variable {K : PySem.W.Frag} {mg : Str → Option Value} {W : WX} {Z H : Hp} {S : Fp} {σ : Sl} {X : Cx}
/-- two argument lists, one behind the other -/
def aApp (n1 n2 : Nat) (fs fk : M (List EV)) : M (List EV) := bnd fs fun es => bnd fk fun ks => fun ρ => if es.length = n1 ∧ ks.length = n2 then .ok (es ++ ks) ρ else .stuck
theorem EVsR.stay : ∀ {es : List EV} {vs : List V} {Z' H' : Hp} {S1 Sa S' : Fp}, EVsR K Z H σ es vs Sa → Step Z H S1 Z' H' S' → (∀ a, S1 a → Sa a → False) → EVsR K Z' H' σ es vs Sa
  | [], [], _, _, _, _, _, _, _, _ => trivial
  | [], _ :: _, _, _, _, _, _, h, _, _ => h.elim
  | _ :: _, [], _, _, _, _, _, h, _, _ => h.elim
  | e :: es, v :: vs, _, _, _, _, _, ⟨T1, T2, t1, t2, tj, r, q⟩, st, dj => ⟨T1, T2, t1, t2, tj, r.stay st fun a x y => dj a x (t1 a y), EVsR.stay q st fun a x y => dj a x (t2 a y)⟩
theorem EVsR.length : ∀ {es : List EV} {vs : List V} {S : Fp}, EVsR K Z H σ es vs S → es.length = vs.length
  | [], [], _, _ => rfl
  | [], _ :: _, _, h => h.elim
  | _ :: _, [], _, h => h.elim
  | _ :: _, _ :: _, _, ⟨_, _, _, _, _, _, q⟩ => by rw [List.length_cons, List.length_cons, EVsR.length q]
/-- the arguments put in the order of the parameters -/
def sel {α : Type} (p : List Nat) (xs : List α) : List α := p.filterMap (xs[·]?)
theorem sel_set {α : Type} {xs : List α} {y : α} {i : Nat} : ∀ {p : List Nat}, i ∉ p → sel p (xs.set i y) = sel p xs
  | [], _ => rfl
  | j :: p, h => by
    have e : (xs.set i y)[j]? = xs[j]? := List.getElem?_set_ne fun e => h (by rw [e]; exact List.mem_cons_self)
    have q := sel_set (xs := xs) (y := y) (i := i) (p := p) fun z => h (List.mem_cons_of_mem _ z)
    unfold sel at q ⊢
    rw [List.filterMap_cons, List.filterMap_cons, e, q]
theorem EVsR.pick : ∀ {es : List EV} {vs : List V} {S : Fp} {i : Nat} {e : EV}, EVsR K Z H σ es vs S → es[i]? = some e →
    ∃ v, ∃ S1 S2 : Fp, vs[i]? = some v ∧ (∀ a, S1 a → S a) ∧ (∀ a, S2 a → S a) ∧ (∀ a, S1 a → S2 a → False) ∧ EVR K Z H σ e v S1 ∧ EVsR K Z H σ (es.set i (.val .non)) (vs.set i .non) S2
  | [], _, _, _, _, _, e => by simp at e
  | _ :: _, [], _, _, _, h, _ => h.elim
  | e :: es, v :: vs, S, 0, e', ⟨T1, T2, t1, t2, tj, r, q⟩, h => by
    simp only [List.getElem?_cons_zero, Option.some.injEq] at h
    subst h
    exact ⟨v, T1, T2, rfl, t1, t2, tj, r, Fp0, T2, fun _ x => x.elim, fun _ x => x, fun _ x _ => x, rfl, q⟩
  | e :: es, v :: vs, S, i + 1, e', ⟨T1, T2, t1, t2, tj, r, q⟩, h => by
    simp only [List.getElem?_cons_succ] at h
    obtain ⟨u, U1, U2, hu, u1, u2, uj, ru, rest⟩ := EVsR.pick q h
    exact ⟨u, U1, fun a => T1 a ∨ U2 a, by simpa using hu, fun a x => t2 a (u1 a x), fun a x => x.elim (t1 a) fun y => t2 a (u2 a y), fun a x y => y.elim (fun z => tj a z (u1 a x)) (uj a x), ru, T1, U2, fun _ x => .inl x, fun _ x => .inr x, fun a x y => tj a x (u2 a y), r, rest⟩
theorem EVsR.sel : ∀ {p : List Nat} {es : List EV} {vs : List V} {S : Fp}, p.Nodup → (∀ i ∈ p, i < es.length) → EVsR K Z H σ es vs S → EVsR K Z H σ (Pm.sel p es) (Pm.sel p vs) S
  | [], _, _, _, _, _, _ => trivial
  | i :: p, es, vs, S, nd, hl, r => by
    have hi := hl i List.mem_cons_self
    obtain ⟨v, S1, S2, hv, s1, s2, dj, re, rest⟩ := r.pick (List.getElem?_eq_getElem hi)
    have nd' := List.nodup_cons.mp nd
    have ih := EVsR.sel nd'.2 (fun j hj => by rw [List.length_set]; exact hl j (List.mem_cons_of_mem _ hj)) rest
    have same : ∀ {α : Type} (xs : List α) (y : α), Pm.sel p (xs.set i y) = Pm.sel p xs := fun {α} xs y => sel_set nd'.1
    rw [same, same] at ih
    have e1 : Pm.sel (i :: p) es = es[i] :: Pm.sel p es := by
      unfold Pm.sel
      rw [List.filterMap_cons, List.getElem?_eq_getElem hi]
    have e2 : Pm.sel (i :: p) vs = v :: Pm.sel p vs := by
      unfold Pm.sel
      rw [List.filterMap_cons, hv]
    rw [e1, e2]
    exact ⟨S1, S2, s1, s2, dj, re, ih⟩
def selA (n : Nat) (p : List Nat) (fs : M (List EV)) : M (List EV) := bnd fs fun es => fun ρ => if es.length = n ∧ p.Nodup ∧ (∀ i ∈ p, i < n) then .ok (sel p es) ρ else .stuck
theorem tA_sel {p : List Nat} {fs : M (List EV)} {Q : List V → Hp → Prop} {n : Nat} (h : tA K mg W (selA n p fs) σ H Q) : tA K mg W fs σ H fun vs H1 => vs.length = n ∧ Q (sel p vs) H1 := by
  obtain ⟨Z, ρ, S, w, er, o⟩ := h
  refine ⟨Z, ρ, S, w, er, ?_⟩
  simp only [selA, bnd] at o
  cases e1 : fs ρ with
  | stuck => rw [e1] at o; exact o
  | exc x ρ1 => rw [e1] at o; exact o
  | ok es ρ1 =>
    simp only [e1] at o
    intro vs Z1 H1 S1 Sa st1 dj1 er1 r1
    by_cases hn : es.length = n ∧ p.Nodup ∧ (∀ i ∈ p, i < n)
    · rw [if_pos hn] at o
      exact ⟨r1.length.symm.trans hn.1, o (sel p vs) Z1 H1 S1 Sa st1 dj1 er1 (r1.sel hn.2.1 fun i hi => by rw [hn.1]; exact hn.2.2 i hi)⟩
    · rw [if_neg hn] at o
      exact o.elim
/-- how n values and the keywords ks behind them bind: in the order p -/
def KwB (K : PySem.W.Frag) (fd : FuncData) (ps ks : List Str) (n : Nat) (p : List Nat) : Prop := ∀ (s : Shared) (us ws : List Value), K.In s.heap → us.length = n → ws.length = ks.length → BindsTo s fd ⟨us, ks.zip ws⟩ (ps.zip (sel p (us ++ ws)))
theorem KwB.of {fd : FuncData} {ps ks : List Str} {n : Nat} {p : List Nat} (h : ∀ us ws : List Value, us.length = n → ws.length = ks.length → bindArgs fd ⟨us, ks.zip ws⟩ = pure (ps.zip (sel p (us ++ ws)))) : KwB K fd ps ks n p := fun _ us ws _ h1 h2 => .of_eq (h us ws h1 h2)
theorem vals_sel {p : List Nat} {vs : List V} {us : List Value} (r : Vals vs us) : Vals (sel p vs) (sel p us) := by
  induction p with
  | nil => exact .nil
  | cons i p ih =>
    unfold Pm.sel
    rw [List.filterMap_cons, List.filterMap_cons]
    cases e : vs[i]? with
    | none =>
      have e2 : us[i]? = none := by
        rw [List.getElem?_eq_none_iff] at e ⊢
        rw [← r.length]; exact e
      rw [e2]
      exact ih
    | some v =>
      obtain ⟨u, e2, ru⟩ := r.get e
      rw [e2]
      exact .cons ru ih
theorem PK.of {kws : List Keyword} {t t' : TA} (h : PK X kws t) (i : ∀ σ H Q, t' σ H Q → t σ H Q) : PK X kws t' := ⟨fun o p s σ H Q I q => h.run o p s σ H Q I (i σ H Q q)⟩
theorem pk_N : PK X [] (tA X.K X.mg W aNil) := PK.of pk_nil fun _ _ _ => tA_nil
theorem pk_C {nm : Option Str} {e : Expr} {kpos : Pos} {kws : List Keyword} {f : M EV} {fs : M (List EV)} (h : PE X e (tE X.K X.mg W f)) (hs : PK X kws (tA X.K X.mg W fs)) : PK X (⟨nm, e, kpos⟩ :: kws) (tA X.K X.mg W (aCons f fs)) := PK.of (pk_cons h hs) fun _ _ _ => tA_cons
theorem end_run {pins : List (Addr × Obj)} {s : Shared} {Q : VK} {a : Args} {f : Addr} (h : codeAny (model X.prog X.w) X.A (.call (.ref f) a) (fun r s' => match r with
      | .ok (.ret u) => EP X pins σ Q u s'
      | .ok _ => False
      | .error e => X.xe e s') s) : wpAny (model X.prog X.w) X.A (call (.ref f) a.pos a.kw) (EP X pins σ Q) X.xe s := by
  refine wpAny_call (codeAny_mono h fun r s' hq => ?_)
  cases r with
  | error e => exact hq
  | ok fl =>
    cases fl with
    | ret u => exact hq
    | next => exact hq.elim
    | brk => exact hq.elim
    | cont => exact hq.elim
theorem pe_callGK0 {k m : Nat} {f : Addr} {fd : FuncData} {ps ks : List Str} {pm : List Nat} {g : FSem} {x : Str} {p pos : Pos} {kws : List Keyword} {fk : M (List EV)} (F : FnG X.prog X.w X.K X.mg X.base k f fd ps g) (hgd : X.A.guards = some []) (hr : Room k X.A) (tk : Takes X W)
    (hg : Gl X x) (hm : X.mg x = some (.ref f)) (hk : PySem.W.keepIn X.K (.ref f) = true) (hb : KwB X.K fd ps ks 0 pm) (hkw : PK X kws (tA X.K X.mg W fk)) (hdb : (x == ("__debug__" : Str)) = false)
    (hall : (backToKw pos (keywordEach kws X.env)).all (·.1.isSome) = true) (hks : (backToKw pos (keywordEach kws X.env)).filterMap (·.1) = ks) (hpl : ((backTo pos (starEach [] X.env)).any (·.1) || (backToKw pos (keywordEach kws X.env)).any (·.1.isNone)) = false) (hn : ks.length = m) :
    PE X (.Call (.Name x p) [] kws pos) (tE X.K X.mg W (callF g (selA m pm fk))) := by
  refine ⟨fun pins s σ H Q I h => ?_⟩
  refine wpAny_Call_Name_kw (ld_glob I hg hm ?_ hdb)
  refine PySem.W.callWith_KW0 (h₀ := X.base) I.ok.mod.kin hk hall ?_ hpl
  refine thn (hkw.run pos pins s σ H _ I (tA_sel (tE_call h))) fun ws s2 ⟨zs, H2, I2, r2, l2, q⟩ => ⟨I2.kIn, ?_⟩
  rw [hks]
  refine end_run (run_G (ws := sel pm ws) F hgd hr tk (fun hl => ?_) I2 (vals_sel r2) q)
  exact hb s2 [] ws I2.kIn rfl (r2.length.symm.trans (l2.trans hn.symm))
end
end Pm
namespace Pm
open PySem PySem.Spec PyProof.Rows L2
section
variable {K : PySem.W.Frag} {mg : Str → Option Value} {W : WX} {Z H : Hp} {S : Fp} {σ : Sl} {X : Cx} {A : Nat → Bool} {a b c e l tg iter : Expr} {es rest : List Expr} {pos p2 : Pos} {f fa fb fc : M EV} {fs : M (List EV)} {ta tb : M Bool}
theorem E_loc (i : Nat) {x : Str} (hN : X.N[i]? = some x := by rfl) (hv : Vis X.env.scope x := by first | exact Or.inl rfl | exact Or.inr (Or.inl rfl) | exact Or.inr (Or.inr rfl)) (hd : (x == ("__debug__" : Str)) = false := by decide) (hcd : (x == ("__classdict__" : Str)) = false := by decide) :
    PE X (.Name x pos) (tE X.K X.mg W (loc i)) := pe_loc hN hv hd hcd
theorem E_int {i j} : PE X (.Constant (.int i) j pos) (tE X.K X.mg W (con (.int i))) := PE.of pe_int fun _ _ _ => tE_con fun _ _ => rfl
theorem E_str {x j} : PE X (.Constant (.str x) j pos) (tE X.K X.mg W (con (.str x))) := PE.of pe_str fun _ _ _ => tE_con fun _ _ => rfl
theorem E_bl {x j} : PE X (.Constant (.bool x) j pos) (tE X.K X.mg W (con (.bl x))) := PE.of pe_bl fun _ _ _ => tE_con fun _ _ => rfl
theorem E_non {j} : PE X (.Constant .none j pos) (tE X.K X.mg W (con .non)) := PE.of pe_non fun _ _ _ => tE_con fun _ _ => rfl
/-- a builtin's name as a value -/
theorem E_blt {x : Str} {u : V} {w : Value} (hm : X.mg x = none) (hv : bootBuiltins x = some w) (r : RelV u w := by rfl) (hg : Gl X x := by rfl) (hn : x ≠ "__name__" := by decide) (hd : (x == ("__debug__" : Str)) = false := by decide) : PE X (.Name x pos) (tE X.K X.mg W (con (.op u))) :=
  PE.of (pe_bltn hg hm hv r hn hd) fun _ _ _ => tE_con fun _ _ => rfl
theorem A_0 : PA X [] (tA X.K X.mg W aNil) := pa_n
theorem A_c (h : PE X e (tE X.K X.mg W f)) (hr : PA X es (tA X.K X.mg W fs)) (hs : starEach (e :: es) X.env = (false, eval e X.env) :: starEach es X.env := by rfl) : PA X (e :: es) (tA X.K X.mg W (aCons f fs)) := pa_c h hr hs
theorem E_op {op : Operator} {g : List D → Option D} (ho : Opd X (binaryOp op) g) (ha : PE X a (tE X.K X.mg W fa)) (hb : PE X b (tE X.K X.mg W fb)) : PE X (.BinOp a op b pos) (tE X.K X.mg W (bin g fa fb)) := pe_bin ho ha hb
theorem E_cmp {op : CmpOp} {g : List D → Option D} (ho : Opd X (compareOp op) g) (ha : PE X a (tE X.K X.mg W fa)) (hb : PE X b (tE X.K X.mg W fb)) (hm : behindInMarks op b = false := by first | exact nomark _ | rfl) : PE X (.Compare a [op] [b] pos) (tE X.K X.mg W (bin g fa fb)) := pe_cmpG ho ha hb hm
theorem T_cmp {op : CmpOp} {g : List D → Option D} (ho : Opd X (compareOp op) g) (ha : PE X a (tE X.K X.mg W fa)) (hb : PE X b (tE X.K X.mg W fb)) (hm : behindInMarks op b = false := by first | exact nomark _ | rfl) : PT X (.Compare a [op] [b] pos) (tT X.K X.mg W (tst (bin g fa fb))) := pt_cmpG ho ha hb hm
theorem T_v (h : PE X e (tE X.K X.mg W f)) (he : ∀ whole, isTrue e X.env whole = (do let v ← whole; standAt e.pos; holding [v] (truthy v)) := by intro _; rfl) : PT X e (tT X.K X.mg W (tst f)) := pt_v h he
theorem T_not (h : PT X a (tT X.K X.mg W ta)) : PT X (.UnaryOp .Not a pos) (tT X.K X.mg W (notT ta)) := PT.of (pt_not h) fun _ _ _ q => tT_not q
theorem W_and1 (h : PT X a (tT X.K X.mg W ta)) : PW X (.BoolOp .And [a] pos) (tT X.K X.mg W ta) := pw_and1 h
theorem W_or1 (h : PT X a (tT X.K X.mg W ta)) : PW X (.BoolOp .Or [a] pos) (tT X.K X.mg W ta) := pw_or1 h
theorem W_and (h : PT X a (tT X.K X.mg W ta)) (h2 : PW X (.BoolOp .And (b :: rest) pos) (tT X.K X.mg W tb)) : PW X (.BoolOp .And (a :: b :: rest) pos) (tT X.K X.mg W (andT ta tb)) := PW.of (pw_and h h2) fun _ _ _ q => tT_and q
theorem W_or (h : PT X a (tT X.K X.mg W ta)) (h2 : PW X (.BoolOp .Or (b :: rest) pos) (tT X.K X.mg W tb)) : PW X (.BoolOp .Or (a :: b :: rest) pos) (tT X.K X.mg W (orT ta tb)) := PW.of (pw_or h h2) fun _ _ _ q => tT_or q
theorem E_one {op} (h : PE X a (tE X.K X.mg W f)) : PE X (.BoolOp op [a] pos) (tE X.K X.mg W f) := pe_one h
theorem E_and (h : PE X a (tE X.K X.mg W fa)) (h2 : PE X (.BoolOp .And (b :: rest) pos) (tE X.K X.mg W fb)) : PE X (.BoolOp .And (a :: b :: rest) pos) (tE X.K X.mg W (andE fa fb)) := PE.of (pe_and h h2) fun _ _ _ q => tE_and q
theorem E_or (h : PE X a (tE X.K X.mg W fa)) (h2 : PE X (.BoolOp .Or (b :: rest) pos) (tE X.K X.mg W fb)) : PE X (.BoolOp .Or (a :: b :: rest) pos) (tE X.K X.mg W (orE fa fb)) := PE.of (pe_or h h2) fun _ _ _ q => tE_or q
theorem E_not (h : PE X a (tE X.K X.mg W fa)) : PE X (.UnaryOp .Not a pos) (tE X.K X.mg W (notE fa)) := PE.of (pe_not h) fun _ _ _ q => tE_not q
theorem E_if (h : PT X c (tT X.K X.mg W ta)) (h1 : PE X a (tE X.K X.mg W fa)) (h2 : PE X b (tE X.K X.mg W fb)) : PE X (.IfExp c a b pos) (tE X.K X.mg W (ifE ta fa fb)) := PE.of (pe_ifExp h h1 h2) fun _ _ _ q => tE_if q
def opNeg : List D → Option D
  | [.int i] => some (.int (-i))
  | _ => none
theorem E_idx (ha : PE X a (tE X.K X.mg W fa)) (hb : PE X b (tE X.K X.mg W fb)) (hs : PlainIx b := by exact fun _ _ => rfl) : PE X (.Subscript a b pos) (tE X.K X.mg W (idx (aCons fa (aCons fb aNil)))) := pe_idx ha hb hs
theorem E_cut {lo hi : Option Expr} {lf hf : Option (M EV)} (he : PE X e (tE X.K X.mg W f)) (hl : PO X lo (tO X.K X.mg W (partO lf))) (hh : PO X hi (tO X.K X.mg W (partO hf))) : PE X (.Subscript e (.Slice lo hi none p2) pos) (tE X.K X.mg W (cut f lf hf)) :=
  PE.of (pe_slice (SlR.or sl_list (SlR.or sl_tupA sl_str)) he hl hh) fun _ _ _ q => tE_cut q
theorem O_0 : PO X none (tO X.K X.mg W (partO none)) := po_N
theorem O_1 (h : PE X e (tE X.K X.mg W f)) : PO X (some e) (tO X.K X.mg W (partO (some f))) := po_S h
theorem E_T {x1 : Nat} (h : PA X es (tA X.K X.mg W fs)) : PE X (.Tuple es x1 pos) (tE X.K X.mg W (disp false .tup fs)) := pe_T h
theorem E_L (h : PA X es (tA X.K X.mg W fs)) : PE X (.List es pos) (tE X.K X.mg W (disp true .lst fs)) := pe_L h
theorem E_blF {x : Str} {id : String} {p : Pos} {r : List V → Hp → VK → Prop} {g : List D → Option D} (hs : Snd X r g) (hc : CallR X (.builtin id) r) (hm : X.mg x = none) (ha : PA X (e :: es) (tA X.K X.mg W fs)) (hv : bootBuiltins x = some (.builtin id) := by first | exact PySem.boot_len | rfl) (hg : Gl X x := by rfl)
    (hn : x ≠ "__name__" := by decide) (hdb : (x == ("__debug__" : Str)) = false := by decide) (he : starEach (e :: es) X.env = (false, eval e X.env) :: starEach es X.env := by rfl) (hpl : (backTo pos (starEach es X.env)).any (·.1) = false := by rfl) :
    PE X (.Call (.Name x p) (e :: es) [] pos) (tE X.K X.mg W (app g fs)) := pe_blt hs hc hg hm hv ha hn hdb he hpl
theorem E_ty {x : Str} {T : String} {p : Pos} {r : List V → Hp → VK → Prop} {g : List D → Option D} (hs : Snd X r g) (hc : CallR X (.type T) r) (hm : X.mg x = none) (ha : PA X (e :: es) (tA X.K X.mg W fs)) (hv : bootBuiltins x = some (.type T) := by rfl) (hg : Gl X x := by rfl)
    (hn : x ≠ "__name__" := by decide) (hdb : (x == ("__debug__" : Str)) = false := by decide) (he : starEach (e :: es) X.env = (false, eval e X.env) :: starEach es X.env := by rfl) (hpl : (backTo pos (starEach es X.env)).any (·.1) = false := by rfl) :
    PE X (.Call (.Name x p) (e :: es) [] pos) (tE X.K X.mg W (app g fs)) := pe_bty hs hc hg hm hv ha hn hdb he hpl
theorem E_app {j : Nat} {x : Str} {fe : M EV} {apos cpos : Pos} (he : PE X e (tE X.K X.mg W fe)) (hj : X.N[j]? = some x := by rfl) (hv : Vis X.env.scope x := by first | exact Or.inl rfl | exact Or.inr (Or.inl rfl) | exact Or.inr (Or.inr rfl)) (hd : (x == ("__debug__" : Str)) = false := by decide) (hcd : (x == ("__classdict__" : Str)) = false := by decide)
    (hbase : attributeBase (.Name x p2) "append" X.env (eval (.Name x p2) X.env) = eval (.Name x p2) X.env := by rfl)
    (hfew : ((backTo cpos (starEach [e] X.env)).all (fun x => !x.1) && (backToKw cpos (keywordEach [] X.env)).all (fun x => x.1.isSome)
      && decide ([e].length + ([] : List Keyword).length + (if ([] : List Keyword).isEmpty then 0 else 1) < 30)) = true := by rfl)
    (hline : (apos.endLine == cpos.line) = true := by rfl) (hs : starEach [e] X.env = (false, eval e X.env) :: starEach [] X.env := by rfl) (hplain : (backTo cpos (starEach [] X.env)).any (·.1) = false := by rfl) :
    PE X (.Call (.Attribute (.Name x p2) "append" apos) [e] [] cpos) (tE X.K X.mg W (appd j fe)) := pe_append hj hv hd hcd he hbase hfew hline hs hplain
/-- what a body needs to call a def -/
structure Fit (X : Cx) (W : WX) (k : Nat) : Prop where
  gd : X.A.guards = some []
  room : Room k X.A
  tk : Takes X W
theorem Fit.blk {k : Nat} {s : Shared} {H0 : Hp} {scope : Scope} {cenv : PySem.Env} {fp : List Addr} (h : Fit X W k) : Fit (X.blk s H0 scope cenv fp) wF k := ⟨h.gd, h.room, fun u s' ⟨_, _, _, _, _, _, _, _, _, _, _, _, _, _, _, _, z⟩ => z.elim⟩
theorem E_ty1 {T : String} (hm : X.mg T = none) (hv : bootBuiltins (T : Str) = some (.type T) := by rfl) (hg : Gl X (T : Str) := by rfl) (hn : (T : Str) ≠ "__name__" := by decide) (hd : ((T : Str) == ("__debug__" : Str)) = false := by decide) : PE X (.Name (T : Str) pos) (tE X.K X.mg W (con (.op (.ty T)))) :=
  E_blt hm hv rfl hg hn hd
/-- a def as the module knows it -/
structure Def (P : Program) (w : World) (K : PySem.W.Frag) (mg : Str → Option Value) (base : Heap) (k : Nat) (x : Str) (f : Addr) (fd : FuncData) (ps : List Str) (g : FSem) : Prop where
  ok : FnG P w K mg base k f fd ps g
  mg : mg x = some (.ref f)
  kp : PySem.W.keepIn K (.ref f) = true
  bd : Binds K fd ps []
theorem E_call {k n : Nat} {fA : Addr} {fd : FuncData} {ps : List Str} {g : FSem} {x : Str} {p : Pos} (F : Def X.prog X.w X.K X.mg X.base k x fA fd ps g) (ft : Fit X W n) (ha : PA X (e :: es) (tA X.K X.mg W fs)) (hk : k ≤ n := by first | decide | omega) (hg : Gl X x := by rfl) (hdb : (x == ("__debug__" : Str)) = false := by decide)
    (he : starEach (e :: es) X.env = (false, eval e X.env) :: starEach es X.env := by rfl) (hpl : (backTo pos (starEach es X.env)).any (·.1) = false := by rfl) : PE X (.Call (.Name x p) (e :: es) [] pos) (tE X.K X.mg W (callF g fs)) :=
  pe_callG F.ok ft.gd (ft.room.mono hk) ft.tk hg F.mg F.kp F.bd ha hdb he hpl
theorem K_0 : PK X [] (tA X.K X.mg W aNil) := pk_N
theorem K_c {nm : Option Str} {kpos : Pos} {kws : List Keyword} (h : PE X e (tE X.K X.mg W f)) (hs : PK X kws (tA X.K X.mg W fs)) : PK X (⟨nm, e, kpos⟩ :: kws) (tA X.K X.mg W (aCons f fs)) := pk_C h hs
theorem E_callK0 {k r m : Nat} {fA : Addr} {fd : FuncData} {ps ks : List Str} {pm : List Nat} {g : FSem} {x : Str} {p : Pos} {kws : List Keyword} {fk : M (List EV)} (F : Def X.prog X.w X.K X.mg X.base k x fA fd ps g) (ft : Fit X W r) (hb : KwB X.K fd ps ks 0 pm) (hkw : PK X kws (tA X.K X.mg W fk))
    (hk : k ≤ r := by first | decide | omega) (hg : Gl X x := by rfl) (hdb : (x == ("__debug__" : Str)) = false := by decide) (hall : (backToKw pos (keywordEach kws X.env)).all (·.1.isSome) = true := by rfl) (hks : (backToKw pos (keywordEach kws X.env)).filterMap (·.1) = ks := by rfl)
    (hpl : ((backTo pos (starEach [] X.env)).any (·.1) || (backToKw pos (keywordEach kws X.env)).any (·.1.isNone)) = false := by rfl) (hn : ks.length = m := by rfl) :
    PE X (.Call (.Name x p) [] kws pos) (tE X.K X.mg W (callF g (selA m pm fk))) := pe_callGK0 F.ok ft.gd (ft.room.mono hk) ft.tk hg F.mg F.kp hb hkw hdb hall hks hpl hn
variable {st : Stmt} {sts s1 s2 : List Stmt} {m1 m2 : M Fl}
theorem B_0 : PSs X [] (tS X.K X.mg W A sNx) := PSs.of pss_nil fun _ _ _ q => tS_nx q
theorem B_c (h : PS X st (tS X.K X.mg W A m1)) (h2 : PSs X sts (tS X.K X.mg W A m2)) : PSs X (st :: sts) (tS X.K X.mg W A (seq m1 m2)) := PSs.of (pss_cons h h2) fun _ _ _ q => tS_seq q
theorem B_1 (h : PS X st (tS X.K X.mg W A m1)) : PSs X [st] (tS X.K X.mg W A m1) := pss_one h
theorem S_if (h : PT X c (tT X.K X.mg W ta)) (h1 : PSs X s1 (tS X.K X.mg W A m1)) (h2 : PSs X s2 (tS X.K X.mg W A m2)) : PS X (.If c s1 s2 pos) (tS X.K X.mg W A (ite ta m1 m2)) := PS.of (ps_if h h1 h2) fun _ _ _ q => tS_if q
theorem S_ret (h : PE X e (tE X.K X.mg W f)) : PS X (.Return (some e) pos) (tS X.K X.mg W A (rtn f)) := PS.of (ps_ret h) fun _ _ _ q => tS_rtn q
/-- a def's own local handed back: it moves -/
theorem E_mov (i : Nat) {x : Str} (hN : X.N[i]? = some x := by rfl) (hv : Vis X.env.scope x := by first | exact Or.inl rfl | exact Or.inr (Or.inl rfl) | exact Or.inr (Or.inr rfl)) (hd : (x == ("__debug__" : Str)) = false := by decide) (hcd : (x == ("__classdict__" : Str)) = false := by decide) :
    PE X (.Name x pos) (tE X.K X.mg W (mov i)) := PE.of (pe_var hN hv hd hcd) fun _ _ _ => tE_mov
theorem S_ex (h : PE X e (tE X.K X.mg W f)) (hs : swapsWith e none pos.line X.env = pure false := by rfl) : PS X (.Expr e pos) (tS X.K X.mg W A (drp f)) := PS.of (ps_expr h hs) fun _ _ _ q => tS_drp q
theorem S_wh (hp : PassesOwn (model X.prog X.w) X.A X.env X.xe) (hc : PT X c (tT X.K X.mg W ta)) (hb : PSs X s1 (tS X.K X.mg W A m1)) : PS X (.While c s1 [] pos) (tS X.K X.mg W A (whl ta m1)) := ps_whl hp hc hb
theorem S_for {s : M (List D)} {g : Tg} (hp : PassesOwn (model X.prog X.w) X.A X.env X.xe) (hi : PI X tg iter (tI X.K X.mg W s)) (hg : PG X tg (tG X.K A g)) (hb : PSs X s1 (tS X.K X.mg W A m1)) (hc : X.calm = true := by rfl) (hs : ∀ x, foldedSetIterable iter X.env x = pure x := by intro _; rfl) :
    PS X (.For tg iter s1 [] pos) (tS X.K X.mg W A (forS s g m1)) := ps_forS hp hc hi hg hb hs
theorem S_set {i : Nat} {x : Str} {pos' : Pos} (he : PE X e (tE X.K X.mg W f)) (hN : X.N.Nodup) (hA : A i = true := by rfl) (hi : X.N[i]? = some x := by rfl) (hx : Loc X.env.scope x := by first | exact .inl rfl | exact .inr rfl) (hs : swapsWith e (some (.Name x pos')) pos.line X.env = pure false := by rfl)
    (hf : X.fn x = true ∨ X.env.scope.names.lookup x = some .local := by first | exact .inl rfl | exact .inr rfl) : PS X (.Assign [.Name x pos'] e pos) (tS X.K X.mg W A (asg f (gN i))) := ps_N hN hi hx hA he hs hf
theorem S_tg {g : Tg} (he : PE X e (tE X.K X.mg W f)) (hg : PG X tg (tG X.K A g)) (hs : swapsWithSole [tg] e pos.line X.env = pure false := by rfl) (hw : swappedStores [tg] e X.env = pure none := by rfl) (h1 : (assignEach [tg] X.env).map (·.2) = [assign tg X.env] := by rfl) :
    PS X (.Assign [tg] e pos) (tS X.K X.mg W A (asg f g)) := ps_G he hg hs hw h1
theorem G_n {i : Nat} {x : Str} (hN : X.N.Nodup) (hA : A i = true := by rfl) (hi : X.N[i]? = some x := by rfl) (hx : Loc X.env.scope x := by first | exact .inl rfl | exact .inr rfl) (hf : X.fn x = true ∨ X.env.scope.names.lookup x = some .local := by first | exact .inl rfl | exact .inr rfl) :
    PG X (.Name x pos) (tG X.K A (gN i)) := pg_N hN hi hx hA hf
theorem G_i {j : Nat} {x : Str} {fi : M EV} (hi : PE X b (tE X.K X.mg wF fi)) (hj : X.N[j]? = some x := by rfl) (hv : Vis X.env.scope x := by first | exact Or.inl rfl | exact Or.inr (Or.inl rfl) | exact Or.inr (Or.inr rfl)) (hd : (x == ("__debug__" : Str)) = false := by decide) (hcd : (x == ("__classdict__" : Str)) = false := by decide)
    (ha : ∀ v, assign (.Subscript (.Name x p2) b pos) X.env v = (do
      let ov ← holding [v] (eval (.Name x p2) X.env)
      let iv ← holding [v, ov] (eval b X.env)
      standAt pos
      holding [v, ov, iv] (setItem ov iv v)
      release [v, ov, iv] []) := by intro _; rfl) : PG X (.Subscript (.Name x p2) b pos) (tG X.K A (gI j fi)) := pg_I hj hv hd hcd hi ha
theorem Gs_0 : PGs X [] (tGs X.K A gs0) := pgs_0
theorem Gs_c {g : Tg} {gs : List D → M Unit} (h1 : PG X e (tG X.K A g)) (h2 : PGs X es (tGs X.K A gs)) (hs : (assignEach (e :: es) X.env).map (·.2) = assign e X.env :: (assignEach es X.env).map (·.2) := by rfl) : PGs X (e :: es) (tGs X.K A (gsC g gs)) := pgs_C h1 h2 hs
theorem G_t {k n : Nat} {gs : List D → M Unit} (h : PGs X es (tGs X.K A gs)) (hc : X.calm = true := by rfl) (hn : (assignEach es X.env).length = n := by rfl) (hst : (assignEach es X.env).findIdx? (·.1) = none := by rfl) : PG X (.Tuple es k pos) (tG X.K A (gT gs n)) := pg_T hc h hn hst
theorem S_par {i j : Nat} {x y : Str} {px py pt : Pos} {kt k2 pt2} (ha : PA X [a, b] (tA X.K X.mg W fs)) (hN : X.N.Nodup) (hAi : A i = true := by rfl) (hAj : A j = true := by rfl) (hi : X.N[i]? = some x := by rfl) (hj : X.N[j]? = some y := by rfl) (hij : i ≠ j := by decide) (hc : X.calm = true := by rfl)
    (hx : X.env.scope.names.lookup x = some .local := by rfl) (hy : X.env.scope.names.lookup y = some .local := by rfl) (hw : swappedStores [.Tuple [.Name x px, .Name y py] kt pt] (.Tuple [a, b] k2 pt2) X.env = pure (some [x, y]) := by rfl)
    (hs : swapsWithSole [.Tuple [.Name x px, .Name y py] kt pt] (.Tuple [a, b] k2 pt2) pos.line X.env = pure false := by rfl) : PS X (.Assign [.Tuple [.Name x px, .Name y py] kt pt] (.Tuple [a, b] k2 pt2) pos) (tS X.K X.mg W A (par i j fs)) := ps_P hc hN hi hj hij hAi hAj hx hy ha hw hs
theorem I_r1 {p : Pos} (hm : X.mg "range" = none) (ha : PE X a (tE X.K X.mg W fa)) (hg : Gl X "range" := by rfl) (h1 : starEach [a] X.env = [(false, eval a X.env)] := by rfl) : PI X tg (.Call (.Name "range" p) [a] [] pos) (tI X.K X.mg W (srcR1 (aCons fa aNil))) := pi_R1 hg hm (A_c ha A_0 h1) h1
theorem I_r2 {p : Pos} (hm : X.mg "range" = none) (ha : PE X a (tE X.K X.mg W fa)) (hb : PE X b (tE X.K X.mg W fb)) (hg : Gl X "range" := by rfl) (h1 : starEach [a, b] X.env = [(false, eval a X.env), (false, eval b X.env)] := by rfl) (h2 : starEach [b] X.env = [(false, eval b X.env)] := by rfl) : PI X tg (.Call (.Name "range" p) [a, b] [] pos) (tI X.K X.mg W (srcR2 (aCons fa (aCons fb aNil)))) := pi_R2 hg hm (A_c ha (A_c hb A_0 h2) (h1.trans (by rw [h2]))) h1 h2
theorem I_a (h : PE X l (tE X.K X.mg W f)) : PI X tg l (tI X.K X.mg W (srcA f)) := pi_A h
theorem E_lc {elt : Expr} {ifs : List Expr} {scope : Scope} {own : List (Str × Nat)} {s : M (List D)} {g : Tg} {cc : M Bool} {ee : M EV} (hN : X.N.Nodup) (hi : PI X tg iter (tI X.K X.mg W s)) (ok : BlkOk X.N X.env.scope scope own)
    (hg : ∀ (s : Shared) (H : Hp) (C : Addr) (cl : List (Str × Addr)) (fp : List Addr), PG (X.blk s H scope (compEnvC scope cl C X.env) fp) tg (tG X.K (ownA own) g)) (ht : ∀ (s : Shared) (H : Hp) (C : Addr) (cl : List (Str × Addr)) (fp : List Addr), PTs (X.blk s H scope (compEnvC scope cl C X.env) fp) ifs (tT X.K X.mg wF cc))
    (he : ∀ (s : Shared) (H : Hp) (C : Addr) (cl : List (Str × Addr)) (fp : List Addr), PE (X.blk s H scope (compEnvC scope cl C X.env) fp) elt (tE X.K X.mg wF ee)) (hc : X.calm = true := by rfl) (hs : ∀ x, foldedSetIterable iter X.env x = pure x := by intro _; rfl) :
    PE X (.ListComp elt [⟨tg, iter, ifs, 0⟩] scope pos) (tE X.K X.mg W (comp (own.map (·.2)) s g cc ee)) := pe_C hc hN hi ok hg ht he hs
theorem S_lc {i : Nat} {y : Str} {py spos : Pos} {elt : Expr} {ifs : List Expr} {scope : Scope} {own : List (Str × Nat)} {s : M (List D)} {g : Tg} {cc : M Bool} {ee : M EV} (hN : X.N.Nodup) (hi : PI X tg iter (tI X.K X.mg W s)) (ok : BlkOk X.N X.env.scope scope own)
    (hg : ∀ (s : Shared) (H : Hp) (C : Addr) (cl : List (Str × Addr)) (fp : List Addr), PG (X.blk s H scope (compEnvC scope cl C X.env) fp) tg (tG X.K (ownA own) g)) (ht : ∀ (s : Shared) (H : Hp) (C : Addr) (cl : List (Str × Addr)) (fp : List Addr), PTs (X.blk s H scope (compEnvC scope cl C X.env) fp) ifs (tT X.K X.mg wF cc))
    (he : ∀ (s : Shared) (H : Hp) (C : Addr) (cl : List (Str × Addr)) (fp : List Addr), PE (X.blk s H scope (compEnvC scope cl C X.env) fp) elt (tE X.K X.mg wF ee)) (hc : X.calm = true := by rfl) (hs : ∀ x, foldedSetIterable iter X.env x = pure x := by intro _; rfl)
    (hA : A i = true := by rfl) (hy : X.N[i]? = some y := by rfl) (hyl : X.env.scope.names.lookup y = some .local := by rfl) (hsw : swapsWith (.ListComp elt [⟨tg, iter, ifs, 0⟩] scope pos) (some (.Name y py)) spos.line X.env = pure true := by rfl) :
    PS X (.Assign [.Name y py] (.ListComp elt [⟨tg, iter, ifs, 0⟩] scope pos) spos) (tS X.K X.mg W A (asg (comp (own.map (·.2)) s g cc ee) (gN i))) := ps_C hc hN hy hyl hA hsw hi ok hg ht he hs
theorem Ts_0 : PTs X [] (tT X.K X.mg W yesT) := pts_N
theorem Ts_1 (h : PT X c (tT X.K X.mg W ta)) : PTs X [c] (tT X.K X.mg W ta) := pts_1 h
end
end Pm
namespace Pm
open PySem PySem.Spec PyProof.Rows L2
noncomputable def penS : FSem := mkF 1 1 [] (rtn (disp true .lst (aCons (app opList (aCons (cut (loc 0) none (some (con (.int 63)))) aNil)) (aCons (con (.int 0)) (aCons (con (.int 0)) aNil)))))
/-- f comes out at ρ with the value e and leaves ρ' -/
theorem seq_ok {a b : M Fl} {ρ ρ' : Env} (h : a ρ = .ok .nx ρ') : seq a b ρ = b ρ' := by unfold seq bnd; rw [h]
theorem ite_T {c : M Bool} {a b : M Fl} {ρ ρ' : Env} (h : c ρ = .ok true ρ') : ite c a b ρ = a ρ' := by unfold ite bnd; rw [h]; rfl
theorem ite_F {c : M Bool} {a b : M Fl} {ρ ρ' : Env} (h : c ρ = .ok false ρ') : ite c a b ρ = b ρ' := by unfold ite bnd; rw [h]; rfl
theorem shp_ints (n : Nat) : ∀ ns : List Int, (ns.map D.int).all (shp n) = true
  | [] => rfl
  | x :: ns => by
    rw [List.map_cons, List.all_cons, shp_ints n ns]
    cases n <;> rfl
theorem plain_ints : ∀ ns : List Int, plainL (ns.map D.int) = true
  | [] => rfl
  | x :: ns => by rw [List.map_cons, plainL, plain_ints ns]; rfl
theorem frz_ints : ∀ ns : List Int, frzL (ns.map D.int) = ns.map D.int
  | [] => rfl
  | x :: ns => by rw [List.map_cons, frzL, frz_ints ns]; rfl
theorem neNil (b c : Bool) (ns : List Int) : opNe [.node b .lst (ns.map D.int), .node c .lst []] = some (.bl (decide (ns ≠ []))) := by
  have h1 : shp 60 (.node b .lst (ns.map D.int)) = true := by
    show (ns.map D.int).all (shp 59) = true
    exact shp_ints 59 ns
  have h2 : shp 60 (.node c .lst []) = true := rfl
  show (if (shp 60 (.node b .lst (ns.map D.int)) && shp 60 (.node c .lst [])) = true then some (D.bl !deq (.node b .lst (ns.map D.int)) (.node c .lst [])) else none) = _
  rw [h1, h2]
  cases ns <;> rfl
/-- the pen: the cells, the place, what is left -/
def Pen (ns : List Int) (a : Int) (d : D) : Prop := ∃ (b : Bool) (at' left : Int), d = .node true .lst [.node b .lst (ns.map D.int), .int at', .int left] ∧ 0 ≤ at' ∧ at' ≤ a ∧ 0 ≤ left
theorem Pen.mono {ns : List Int} {a a' : Int} {d : D} (h : Pen ns a d) (l : a ≤ a') : Pen ns a' d := by
  obtain ⟨b, p, q, e, h1, h2, h3⟩ := h
  exact ⟨b, p, q, e, h1, by omega, h3⟩
theorem mulOkL {i j : Int} (h : i.natAbs < 2 ^ 64) : mulOk i j = true := decide_eq_true (.inl h)
theorem mulOkR {i j : Int} (h : j.natAbs < 2 ^ 64) : mulOk i j = true := decide_eq_true (.inr (.inl h))
theorem mulL {i j : Int} (h : i.natAbs < 2 ^ 64) : iMul i j = some (.int (i * j)) := by unfold iMul; rw [mulOkL h]; rfl
theorem mulR {i j : Int} (h : j.natAbs < 2 ^ 64) : iMul i j = some (.int (i * j)) := by unfold iMul; rw [mulOkR h]; rfl
theorem powN {i : Int} {j : Nat} (h : i.natAbs < 2 ^ 64) (hj : j ≤ 1000000) : iPow i (j : Int) = some (.int (i ^ j)) := by
  unfold iPow
  rw [if_pos]
  · rw [Int.toNat_natCast]
  · exact decide_eq_true ⟨by omega, by omega, h⟩
theorem pow10_18 : iPow 10 18 = some (.int 1000000000000000000) := rfl
theorem at_ints {ns : List Int} {p : Int} (hp : 0 ≤ p) (hn : ns ≠ []) : ∃ c, atI (ns.map D.int) (p % (ns.length : Int)) = some (.int c) := by
  have h1 : 0 < ns.length := List.length_pos_iff.mpr hn
  have h2 := Int.emod_nonneg p (show (ns.length : Int) ≠ 0 by omega)
  have h3 := Int.emod_lt_of_pos p (show (0 : Int) < ns.length by omega)
  have hi : (p % (ns.length : Int)).toNat < ns.length := by omega
  refine ⟨ns[(p % (ns.length : Int)).toNat], ?_⟩
  unfold atI ixN
  rw [List.length_map, if_pos h2, if_pos h3]
  simp [List.getElem?_map, List.getElem?_eq_getElem hi]
end Pm
namespace Pm
open PySem PySem.Spec PyProof.Rows L2
theorem whl_T {c : M Bool} {b : M Fl} {ρ ρ1 ρ2 : Env} (h : c ρ = .ok true ρ1) (h2 : b ρ1 = .ok .nx ρ2) : whl c b ρ = whl c b ρ2 := by rw [whl_eq, h]; simp only [h2]
theorem whl_C {c : M Bool} {b : M Fl} {ρ ρ1 ρ2 : Env} (h : c ρ = .ok true ρ1) (h2 : b ρ1 = .ok .ct ρ2) : whl c b ρ = whl c b ρ2 := by rw [whl_eq, h]; simp only [h2]
theorem whl_F {c : M Bool} {b : M Fl} {ρ ρ1 : Env} (h : c ρ = .ok false ρ1) : whl c b ρ = .ok .nx ρ1 := by rw [whl_eq, h]
theorem range_get {lo : Int} {n j : Nat} {d : D} (h : (rangeD lo n)[j]? = some d) : j < n ∧ d = .int (lo + (j : Int)) := by
  unfold rangeD at h
  rw [List.getElem?_map] at h
  by_cases hj : j < n
  · rw [List.getElem?_eq_getElem (by simpa using hj)] at h
    simp at h
    exact ⟨hj, h.symm⟩
  · rw [List.getElem?_eq_none (by simpa using Nat.le_of_not_lt hj)] at h
    cases h
theorem range_len {lo : Int} {n : Nat} : (rangeD lo n).length = n := by simp [rangeD]
theorem pen_ok {ns : List Int} (hl : ns.length ≤ 63) : ∃ d, penS [.scr (ns.map D.int)] = .ret d [.scr (ns.map D.int)] ∧ Pen ns 0 d := by
  have e1 : gCut none (some 63) (.node false .scr (ns.map D.int)) = some (.lst true (ns.map D.int)) := by
    have h := HT.sIx_nat (ns.map D.int).length (ns.map D.int).length 63
    have h' : HT.sIx (ns.map D.int).length (ns.map D.int).length (some 63) = (ns.map D.int).length := by
      rw [show ((63 : Nat) : Int) = (63 : Int) from rfl] at h
      rw [h, List.length_map]
      omega
    show (if plainL (ns.map D.int) = true then some (D.lst true (cutD (ns.map D.int) none (some 63))) else none) = _
    rw [if_pos (plain_ints ns)]
    unfold cutD
    rw [h', HT.sIx_none, List.drop_zero, Nat.sub_zero, List.take_length]
  have pl := plain_ints ns
  refine ⟨_, ?_, true, 0, 0, rfl, by omega, by omega, by omega⟩
  simp [penS, mkF, reFrz, ite, rtn, bnd, bin, un, app, aCons, aNil, loc, con, ret, peek1, peeks, use1, useL, D.plain, argsBack, disp, cap, cut, e1, pl, opList]
theorem Pen.owned {ns : List Int} {a : Int} {d : D} (h : Pen ns a d) : ∃ xs, d = .node true .lst xs := by
  obtain ⟨b, p, q, e, _⟩ := h
  exact ⟨_, e⟩
end Pm
namespace Pm
open PySem PySem.Spec PyProof.Rows L2
structure DK where
  c1 : Int
  c2 : Int
  p1 : Int
  q1 : Int
  r1 : Int
  p2 : Int
  s : Int
  t : Int
  p3 : Int
def DK.ok (k : DK) : Prop := (0 < k.c1 ∧ k.c1 < 4294967296) ∧ (0 < k.c2 ∧ k.c2 < 4294967296) ∧ (0 < k.p1 ∧ k.p1 < 4294967296) ∧ (0 < k.q1 ∧ k.q1 < 1000000) ∧ (0 < k.r1 ∧ k.r1 < 4294967296) ∧ (0 < k.p2 ∧ k.p2 < 4294967296) ∧ (0 < k.s ∧ k.s < 1000000) ∧ (0 < k.t ∧ k.t < 1000000) ∧ 0 < k.p3
/-- what a draw is to a law: a number below the bound, the pen one place further -/
def Draws (S : FSem) : Prop := ∀ (ns : List Int) (d : D) (a m : Int), ns.length ≤ 63 → Pen ns a d → a ≤ 1000000 → 0 < m → divOk m = true → ∃ (r : Int) (d' : D), S [d, .int m] = .ret (.int r) [d', .int m] ∧ 0 ≤ r ∧ r < m ∧ Pen ns (a + 1) d'
def mxA (k : DK) (cell p : Int) : Int := (cell % k.p1 + k.q1 * p + k.r1) ^ 5 % k.p2
theorem mxA_lt {k : DK} (h : k.ok) (cell p : Int) : 0 ≤ mxA k cell p ∧ mxA k cell p < 4294967296 := by
  obtain ⟨_, _, _, _, _, h6, _⟩ := h
  exact ⟨Int.emod_nonneg _ (by omega), Int.lt_trans (Int.emod_lt_of_pos _ h6.1) h6.2⟩
theorem k_pow5 {k : DK} (h : k.ok) {cell p : Int} (hp0 : 0 ≤ p) (hp : p ≤ 1000000) : iPow (cell % k.p1 + k.q1 * p + k.r1) 5 = some (.int ((cell % k.p1 + k.q1 * p + k.r1) ^ 5)) := by
  obtain ⟨_, _, h3, h4, h5, _⟩ := h
  have h1 := Int.emod_nonneg cell (show k.p1 ≠ 0 by omega)
  have h2 := Int.emod_lt_of_pos cell h3.1
  have h6 : k.q1 * p ≤ 1000000 * 1000000 := Int.mul_le_mul (by omega) hp hp0 (by decide)
  have h7 : 0 ≤ k.q1 * p := Int.mul_nonneg (by omega) hp0
  exact powN (j := 5) (by omega) (by decide)
end Pm
namespace Pm
open PySem PySem.Spec PyProof.Rows L2
noncomputable def drawEB (k : DK) : M Fl := (seq (ite (tst (bin (on2I iGt) (idx (aCons (loc 0) (aCons (con (.int 2)) aNil))) (con (.int 0)))) (seq (asg (bin (on2I iMod) (idx (aCons (loc 0) (aCons (con (.int 2)) aNil))) (loc 1)) (gN 2))
    (seq (asg (bin (on2I iDiv) (idx (aCons (loc 0) (aCons (con (.int 2)) aNil))) (loc 1)) (gI 0 (con (.int 2))))
    (rtn (mov 2)))) sNx)
    (seq (asg (idx (aCons (loc 0) (aCons (con (.int 1)) aNil))) (gN 3))
    (seq (asg (bin (on2I iAdd) (loc 3) (con (.int 1))) (gI 0 (con (.int 1))))
    (seq (asg (bin (on2I iAdd) (bin (on2I iMul) (con (.int k.c1)) (loc 3)) (con (.int k.c2))) (gN 4))
    (seq (ite (tst (bin opNe (idx (aCons (loc 0) (aCons (con (.int 0)) aNil))) (disp true .lst aNil))) (asg (idx (aCons (idx (aCons (loc 0) (aCons (con (.int 0)) aNil))) (aCons (bin (on2I iMod) (loc 3) (app opLen (aCons (idx (aCons (loc 0) (aCons (con (.int 0)) aNil))) aNil))) aNil))) (gN 4)) sNx)
    (seq (ite (andT (tst (bin (on2I iLt) (loc 3) (app opLen (aCons (idx (aCons (loc 0) (aCons (con (.int 0)) aNil))) aNil)))) (tst (bin (on2I iGe) (app opAbs (aCons (loc 4) aNil)) (bin (on2I iPow) (con (.int 10)) (con (.int 18)))))) (seq (asg (bin (on2I iAdd) (bin (on2I iMul) (con (.int 2)) (bin (on2I iSub) (app opAbs (aCons (loc 4) aNil)) (bin (on2I iPow) (con (.int 10)) (con (.int 18))))) (app opInt1 (aCons (bin (on2I iLt) (loc 4) (con (.int 0))) aNil))) (gN 5))
    (seq (asg (bin (on2I iDiv) (loc 5) (loc 1)) (gI 0 (con (.int 2))))
    (rtn (bin (on2I iMod) (loc 5) (loc 1))))) sNx)
    (seq (asg (bin (on2I iMod) (bin (on2I iPow) (bin (on2I iAdd) (bin (on2I iAdd) (bin (on2I iMod) (loc 4) (con (.int k.p1))) (bin (on2I iMul) (con (.int k.q1)) (loc 3))) (con (.int k.r1))) (con (.int 5))) (con (.int k.p2))) (gN 6))
    (seq (asg (bin (on2I iMod) (bin (on2I iPow) (bin (on2I iAdd) (bin (on2I iAdd) (bin (on2I iMul) (loc 6) (bin (on2I iAdd) (bin (on2I iMul) (con (.int 2)) (loc 3)) (con (.int k.s)))) (bin (on2I iMul) (bin (on2I iMul) (con (.int k.t)) (loc 3)) (loc 3))) (con (.int 7))) (con (.int 3))) (con (.int k.p3))) (gN 6))
    (rtn (bin (on2I iMod) (bin (on2I iDiv) (loc 6) (con (.int 32))) (loc 1)))))))))))
noncomputable def drawE (k : DK) : FSem := mkF 2 7 [] (drawEB k)
def mvE (k : DK) (cell p : Int) : Int := (mxA k cell p * (2 * p + k.s) + k.t * p * p + 7) ^ 3 % k.p3
theorem pw3E {k : DK} (h : k.ok) {cell p : Int} (hp0 : 0 ≤ p) (hp : p ≤ 1000000) : iPow (mxA k cell p * (2 * p + k.s) + k.t * p * p + 7) 3 = some (.int ((mxA k cell p * (2 * p + k.s) + k.t * p * p + 7) ^ 3)) := by
  obtain ⟨h1, h2⟩ := mxA_lt h cell p
  obtain ⟨_, _, _, _, _, _, h7, h8, _⟩ := h
  have h3 : mxA k cell p * (2 * p + k.s) ≤ 4294967296 * 3000000 := Int.mul_le_mul (by omega) (by omega) (by omega) (by decide)
  have h4 : 0 ≤ mxA k cell p * (2 * p + k.s) := Int.mul_nonneg h1 (by omega)
  have h5 : k.t * p ≤ 1000000 * 1000000 := Int.mul_le_mul (by omega) hp hp0 (by decide)
  have h6 : 0 ≤ k.t * p := Int.mul_nonneg (by omega) hp0
  have h9 : k.t * p * p ≤ 1000000 * 1000000 * 1000000 := Int.mul_le_mul h5 hp hp0 (by decide)
  have h10 : 0 ≤ k.t * p * p := Int.mul_nonneg h6 hp0
  exact powN (j := 3) (by omega) (by decide)
theorem drawE_left {k : DK} {c : D} {p left m : Int} (h0 : 0 < left) (hm : 0 < m) (hd : divOk m = true) : drawE k [.node true .lst [c, .int p, .int left], .int m] = .ret (.int (left % m)) [.node true .lst [c, .int p, .int (left / m)], .int m] := by
  simp [drawE, drawEB, mkF, reFrz, seq, Pm.ite, rtn, mov, asg, drp, sNx, bnd, Pm.bin, Pm.un, app, aCons, aNil, idx, loc, con, Pm.ret, peek1, peeks, itemOf, on2I, iAdd, iSub, iGt, iGe, iLt, iLe, iDiv, iMod, use1, useL, gI, gN, tst, andT, orT, notT, andE, orE, notE, ifE, ixN, D.frz, D.plain, plainL, argsBack, opLen, opAbs, opInt1, opNeg, disp, cap, callF, takes, puts, selA, sel, aApp, par, gT, gsC, gs0, appF, opDivmod, frzL, plainL, hm, hd, h0]
theorem drawE_small {k : DK} (hk : k.ok) {ns : List Int} {c : Int} {b : Bool} {p left m : Int} (h0 : ¬ 0 < left) (hm : 0 < m) (hd : divOk m = true) (hp : 0 ≤ p) (hp2 : p ≤ 1000000) (hl : ns.length ≤ 63) (hc : (ns = [] ∧ c = k.c1 * p + k.c2) ∨ (ns ≠ [] ∧ atI (ns.map D.int) (p % (ns.length : Int)) = some (.int c)))
    (hs : ¬ (p < (ns.length : Int) ∧ 1000000000000000000 ≤ (if c < 0 then -c else c))) :
    drawE k [.node true .lst [.node b .lst (ns.map D.int), .int p, .int left], .int m] = .ret (.int (mvE k c p / 32 % m)) [.node true .lst [.node false .lst (ns.map D.int), .int (p + 1), .int left], .int m] := by
  have e1 := k_pow5 hk (cell := c) hp hp2
  have e2 := pw3E hk (cell := c) hp hp2
  obtain ⟨x1, x2⟩ := mxA_lt hk c p
  obtain ⟨h1, h2, h3, h4, h5, h6, h7, h8, h9⟩ := hk
  have e3 : iMul k.c1 p = some (.int (k.c1 * p)) := mulL (by omega)
  have e4 : iMul k.q1 p = some (.int (k.q1 * p)) := mulL (by omega)
  have e5 : iMul 2 p = some (.int (2 * p)) := mulL (by decide)
  have e9 : iMul k.t p = some (.int (k.t * p)) := mulL (by omega)
  have e10 : iMul (k.t * p) p = some (.int (k.t * p * p)) := mulR (by omega)
  have e6 : iMul (mxA k c p) (2 * p + k.s) = some (.int (mxA k c p * (2 * p + k.s))) := mulR (by omega)
  have e8 : divOk 32 = true := by decide
  have y1 := h3.1
  have y2 := h6.1
  have pl := plain_ints ns
  have fz := frz_ints ns
  simp only [mxA] at e2 e6
  rcases hc with ⟨rfl, rfl⟩ | ⟨hn, hc⟩
  · have z1 : ¬ p < 0 := by omega
    have e7 : opNe [.node false .lst [], .node true .lst []] = some (.bl false) := rfl
    cases b <;> simp [drawE, drawEB, mkF, reFrz, seq, Pm.ite, rtn, mov, asg, drp, sNx, bnd, Pm.bin, Pm.un, app, aCons, aNil, idx, loc, con, Pm.ret, peek1, peeks, itemOf, on2I, iAdd, iSub, iGt, iGe, iLt, iLe, iDiv, iMod, use1, useL, gI, gN, tst, andT, orT, notT, andE, orE, notE, ifE, ixN, D.frz, D.plain, plainL, argsBack, opLen, opAbs, opInt1, opNeg, disp, cap, callF, takes, puts, selA, sel, aApp, par, gT, gsC, gs0, appF, opDivmod, frzL, plainL, hm, hd, h0, e1, e2, e3, e4, e5, e6, e7, e8, e9, e10, y1, y2, h9, z1, frzL, mvE, mxA, pow10_18]
  · have e7 : opNe [.node false .lst (ns.map D.int), .node true .lst []] = some (.bl true) := by rw [neNil, decide_eq_true hn]
    have z1 : 0 < ns.length := List.length_pos_iff.mpr hn
    have z2 : ns.length ≤ 1000000 := by omega
    by_cases q : p < (ns.length : Int)
    · have q2 : ¬ 1000000000000000000 ≤ (if c < 0 then -c else c) := fun z => hs ⟨q, z⟩
      cases b <;> simp [drawE, drawEB, mkF, reFrz, seq, Pm.ite, rtn, mov, asg, drp, sNx, bnd, Pm.bin, Pm.un, app, aCons, aNil, idx, loc, con, Pm.ret, peek1, peeks, itemOf, on2I, iAdd, iSub, iGt, iGe, iLt, iLe, iDiv, iMod, use1, useL, gI, gN, tst, andT, orT, notT, andE, orE, notE, ifE, ixN, D.frz, D.plain, plainL, argsBack, opLen, opAbs, opInt1, opNeg, disp, cap, callF, takes, puts, selA, sel, aApp, par, gT, gsC, gs0, appF, opDivmod, frzL, plainL, hm, hd, h0, e1, e2, e3, e4, e5, e6, e7, e8, e9, e10, y1, y2, h9, z1, z2, pl, fz, hc, q, q2, mvE, mxA, pow10_18]
    · cases b <;> simp [drawE, drawEB, mkF, reFrz, seq, Pm.ite, rtn, mov, asg, drp, sNx, bnd, Pm.bin, Pm.un, app, aCons, aNil, idx, loc, con, Pm.ret, peek1, peeks, itemOf, on2I, iAdd, iSub, iGt, iGe, iLt, iLe, iDiv, iMod, use1, useL, gI, gN, tst, andT, orT, notT, andE, orE, notE, ifE, ixN, D.frz, D.plain, plainL, argsBack, opLen, opAbs, opInt1, opNeg, disp, cap, callF, takes, puts, selA, sel, aApp, par, gT, gsC, gs0, appF, opDivmod, frzL, plainL, hm, hd, h0, e1, e2, e3, e4, e5, e6, e7, e8, e9, e10, y1, y2, h9, z1, z2, pl, fz, hc, q, mvE, mxA, pow10_18]
theorem drawE_great {k : DK} (hk : k.ok) {ns : List Int} {c : Int} {b : Bool} {p left m : Int} (h0 : ¬ 0 < left) (hm : 0 < m) (hd : divOk m = true) (hn : ns ≠ []) (hl : ns.length ≤ 63) (hp0 : 0 ≤ p) (hp2 : p ≤ 1000000) (hc : atI (ns.map D.int) (p % (ns.length : Int)) = some (.int c))
    (q : p < (ns.length : Int)) (q2 : 1000000000000000000 ≤ (if c < 0 then -c else c)) :
    ∃ g : Int, 0 ≤ g ∧ drawE k [.node true .lst [.node b .lst (ns.map D.int), .int p, .int left], .int m] = .ret (.int (g % m)) [.node true .lst [.node false .lst (ns.map D.int), .int (p + 1), .int (g / m)], .int m] := by
  obtain ⟨h1, h2, h3, h4, h5, h6, h7, h8, h9⟩ := hk
  have e3 : iMul k.c1 p = some (.int (k.c1 * p)) := mulL (by omega)
  have e7 : opNe [.node false .lst (ns.map D.int), .node true .lst []] = some (.bl true) := by rw [neNil, decide_eq_true hn]
  have z1 : 0 < ns.length := List.length_pos_iff.mpr hn
  have z2 : ns.length ≤ 1000000 := by omega
  have pl := plain_ints ns
  have fz := frz_ints ns
  refine ⟨2 * ((if c < 0 then -c else c) - 1000000000000000000) + (if c < 0 then 1 else 0), by split at q2 <;> split <;> omega, ?_⟩
  have e4 : iMul 2 ((if c < 0 then -c else c) - 1000000000000000000) = some (.int (2 * ((if c < 0 then -c else c) - 1000000000000000000))) := mulL (by decide)
  by_cases hc0 : c < 0
  · rw [if_pos hc0] at q2 e4
    cases b <;> simp [drawE, drawEB, mkF, reFrz, seq, Pm.ite, rtn, mov, asg, drp, sNx, bnd, Pm.bin, Pm.un, app, aCons, aNil, idx, loc, con, Pm.ret, peek1, peeks, itemOf, on2I, iAdd, iSub, iGt, iGe, iLt, iLe, iDiv, iMod, use1, useL, gI, gN, tst, andT, orT, notT, andE, orE, notE, ifE, ixN, D.frz, D.plain, plainL, argsBack, opLen, opAbs, opInt1, opNeg, disp, cap, callF, takes, puts, selA, sel, aApp, par, gT, gsC, gs0, appF, opDivmod, frzL, plainL, hm, hd, h0, e3, e4, e7, z1, z2, pl, fz, hc, q, q2, hc0, pow10_18]
  · rw [if_neg hc0] at q2 e4
    cases b <;> simp [drawE, drawEB, mkF, reFrz, seq, Pm.ite, rtn, mov, asg, drp, sNx, bnd, Pm.bin, Pm.un, app, aCons, aNil, idx, loc, con, Pm.ret, peek1, peeks, itemOf, on2I, iAdd, iSub, iGt, iGe, iLt, iLe, iDiv, iMod, use1, useL, gI, gN, tst, andT, orT, notT, andE, orE, notE, ifE, ixN, D.frz, D.plain, plainL, argsBack, opLen, opAbs, opInt1, opNeg, disp, cap, callF, takes, puts, selA, sel, aApp, par, gT, gsC, gs0, appF, opDivmod, frzL, plainL, hm, hd, h0, e3, e4, e7, z1, z2, pl, fz, hc, q, q2, hc0, pow10_18]
theorem drawsE (k : DK) (hk : k.ok) : Draws (drawE k) := by
  intro ns d a m hl h ha hm hd
  obtain ⟨b, p, left, rfl, hp, hpa, hl0⟩ := h
  have rng : ∀ x : Int, 0 ≤ x % m ∧ x % m < m := fun x => ⟨Int.emod_nonneg x (by omega), Int.emod_lt_of_pos x hm⟩
  by_cases h0 : 0 < left
  · exact ⟨_, _, drawE_left h0 hm hd, (rng _).1, (rng _).2, b, _, _, rfl, by omega, by omega, Int.ediv_nonneg hl0 (by omega)⟩
  · by_cases hn : ns = []
    · subst hn
      refine ⟨_, _, drawE_small hk (c := k.c1 * p + k.c2) h0 hm hd hp (by omega) hl (.inl ⟨rfl, rfl⟩) (fun z => ?_), (rng _).1, (rng _).2, false, _, _, rfl, by omega, by omega, hl0⟩
      have z1 := z.1
      rw [List.length_nil] at z1
      omega
    · obtain ⟨c, hc⟩ := at_ints hp hn
      by_cases hs : p < (ns.length : Int) ∧ 1000000000000000000 ≤ (if c < 0 then -c else c)
      · obtain ⟨g, hg, e⟩ := drawE_great hk (b := b) h0 hm hd hn hl hp (by omega) hc hs.1 hs.2
        exact ⟨_, _, e, (rng _).1, (rng _).2, false, _, _, rfl, by omega, by omega, Int.ediv_nonneg hg (by omega)⟩
      · exact ⟨_, _, drawE_small hk h0 hm hd hp (by omega) hl (.inr ⟨hn, hc⟩) hs, (rng _).1, (rng _).2, false, _, _, rfl, by omega, by omega, hl0⟩
end Pm
set_option maxHeartbeats 2000000
namespace Pm
open PySem PySem.Spec PyProof.Rows L2
end Pm
namespace Pm
open PySem PySem.Spec PyProof.Rows L2
section
variable {K : PySem.W.Frag} {mg : Str → Option Value} {W : WX} {Z H : Hp} {S : Fp} {σ : Sl} {X : Cx} {A : Nat → Bool}
/-- what stands within a clause: the slots and what was made so far -/
abbrev In := Env → List D → Res (List D)
variable {elt tg0 i0 tg1 i1 tg2 i2 : Expr} {ifs0 ifs1 ifs2 : List Expr} {scope : Scope} {own : List (Str × Nat)} {vs1 vs2 : List Nat} {pos : Pos} {s0 s1 s2 : M (List D)} {g0 g1 g2 : Tg} {c0 c1 c2 : M Bool} {e : M EV}
end
end Pm
namespace Pm
open PySem PySem.Spec PyProof.Rows L2
section
variable {K : PySem.W.Frag} {mg : Str → Option Value} {W : WX} {Z H : Hp} {S : Fp} {σ : Sl} {X : Cx}
def strRep (x : Str) (n : Int) : Str := if n < 1 then Str.empty else if (n == 1 || x.length == 0) = true then x else ⟨(List.replicate n.toNat x.cps).foldl (· ++ ·) #[]⟩
theorem op_repS : OpR X (binaryOp .Mult) (fun x y H Q => ∃ a k, x = .str a ∧ y = .int k ∧ k ≤ 1000000 ∧ -1000000 ≤ k ∧ a.length * k.toNat ≤ sizeLine ∧ Q (.str (strRep a k)) H) := by
  intro pins s σ H x y v u Q I rx ry h
  obtain ⟨a, k, rfl, rfl, h1, h2, hz, q⟩ := h
  obtain ⟨t, rfl⟩ := rx
  obtain ⟨t', rfl⟩ := ry
  refine PySem.P.mul_str (by
    rw [decide_eq_false (show ¬ k < -(2 ^ 63 : Int) by omega), decide_eq_false (show ¬ k ≥ 2 ^ 63 by omega)]; rfl) (fun h3 _ => ?_) (fun h3 _ => ?_) ?_
  · have e : (a.length : Int) ≤ (2 ^ 63 - 1) / k := by
      rw [Int.le_ediv_iff_mul_le (by omega)]
      have e2 : ((a.length * k.toNat : Nat) : Int) = (a.length : Int) * k := by rw [Int.natCast_mul, Int.toNat_of_nonneg (by omega)]
      have e3 : a.length * k.toNat ≤ 2 ^ 63 - 1 := Nat.le_trans hz (by rw [sizeLine_eq]; decide)
      omega
    omega
  · exact decide_eq_false (Nat.not_lt.mpr hz)
  · unfold strRep at q
    split
    · rename_i c
      rw [if_pos c] at q
      exact ⟨by decide, ⟨.str _, H, I.tok _, ⟨_, rfl⟩, q⟩⟩
    · rename_i c
      rw [if_neg c] at q
      split
      · rename_i c2
        rw [if_pos c2] at q
        exact ⟨.str _, H, I, ⟨_, rfl⟩, q⟩
      · rename_i c2
        rw [if_neg c2] at q
        exact ⟨fits_reps (decide_eq_false (Nat.not_lt.mpr hz)), ⟨.str _, H, I.tok _, ⟨_, rfl⟩, q⟩⟩
def gAddS : List D → Option D
  | [.str a, .str b] => if a.length + b.length ≤ cap then some (.str (a ++ b)) else none
  | _ => none
def gMulS : List D → Option D
  | [.str a, .int k] => if k ≤ 1000000 ∧ -1000000 ≤ k ∧ a.length * k.toNat ≤ cap then some (.str (strRep a k)) else none
  | _ => none
theorem opd_addS : Opd X (binaryOp .Add) gAddS := by
  refine ⟨_, op_add_str, snd_pure fun Z H S ds vs d Q w rb e k => ?_⟩
  unfold gAddS at e
  split at e
  · split at e
    · rename_i a b c
      obtain ⟨v, u, rfl, rv, ru⟩ := rb2 rb
      obtain rfl : v = .str a := rv
      obtain rfl : u = .str b := ru
      cases e
      exact ⟨_, _, rfl, a, b, rfl, rfl, cap_le c, k _ rfl⟩
    · cases e
  · cases e
theorem opd_mulS : Opd X (binaryOp .Mult) gMulS := by
  refine ⟨_, op_repS, snd_pure fun Z H S ds vs d Q w rb e k => ?_⟩
  unfold gMulS at e
  split at e
  · split at e
    · rename_i a b c
      obtain ⟨v, u, rfl, rv, ru⟩ := rb2 rb
      obtain rfl : v = .str a := rv
      obtain rfl : u = .int b := ru
      cases e
      exact ⟨_, _, rfl, a, b, rfl, rfl, c.1, c.2.1, cap_le c.2.2, k _ rfl⟩
    · cases e
  · cases e
def gAdd : List D → Option D
  | [.str a, .str b] => gAddS [.str a, .str b]
  | ds => on2I iAdd ds
def gMul : List D → Option D
  | [.str a, .int k] => gMulS [.str a, .int k]
  | ds => on2I iMul ds
theorem opd_gAdd : Opd X (binaryOp .Add) gAdd := Opd.or opd_addS opd_addI fun ds d h => by
  unfold gAdd at h
  split at h
  · exact .inl h
  · exact .inr h
theorem opd_gMul : Opd X (binaryOp .Mult) gMul := Opd.or opd_mulS opd_mulI fun ds d h => by
  unfold gMul at h
  split at h
  · exact .inl h
  · exact .inr h
def opInt : List D → Option D
  | [.str a] => if a.length ≤ 640 then (PySem.intText? a).map D.int else none
  | ds => opInt1 ds
theorem snd_int : Snd X (fun xs H Q => ((∃ i, xs = [.int i] ∧ Q (.int i) H) ∨ ∃ k, xs = [.bl k] ∧ Q (.int (if k then 1 else 0)) H) ∨ ∃ a n, xs = [.str a] ∧ PySem.intText? a = some n ∧ a.length ≤ 640 ∧ Q (.int n) H) opInt := by
  intro Z H S ds vs d Q w rb e k
  unfold opInt at e
  split at e
  · rename_i a
    split at e
    · rename_i c
      cases hn : PySem.intText? a with
      | none => rw [hn] at e; cases e
      | some n =>
        rw [hn] at e
        simp only [Option.map_some, Option.some.injEq] at e
        subst e
        obtain ⟨v, rfl, rv⟩ := rb1 rb
        obtain rfl : v = .str a := rv
        refine .inr ⟨a, n, rfl, hn, c, k _ Z H Fp0 ?_ (Same.refl H) (fun _ _ x => x) rfl⟩
        exact w.nil
    · cases e
  · exact .inl (snd_int1 Z H S ds vs d Q w rb e k)
theorem call_intA : CallR X (.type "int") (fun xs H Q => ((∃ i, xs = [.int i] ∧ Q (.int i) H) ∨ ∃ k, xs = [.bl k] ∧ Q (.int (if k then 1 else 0)) H) ∨ ∃ a n, xs = [.str a] ∧ PySem.intText? a = some n ∧ a.length ≤ 640 ∧ Q (.int n) H) := CallR.or call_int1 call_int_str
end
end Pm
namespace Pm
open PySem PySem.Spec PyProof.Rows L2
section
variable {K : PySem.W.Frag} {mg : Str → Option Value} {W : WX} {Z Z' H H' : Hp} {S S' : Fp} {σ : Sl} {X : Cx} {a b c e : Expr} {pos : Pos} {fa fb fc : M EV}
theorem E_gs {x z : Str} {t : Tok} (hm : X.mg x = some (.str z t)) (hg : Gl X x := by rfl) (hd : (x == ("__debug__" : Str)) = false := by decide) : PE X (.Name x pos) (tE X.K X.mg W (con (.str z))) :=
  ⟨fun _ _ _ H _ I h => ld_glob I hg hm ⟨.str z, H, I, ⟨_, rfl⟩, tE_con (d := .str z) (fun _ _ => rfl) h⟩ hd⟩
theorem E_gi {x : Str} {i : Int} {t : Tok} (hm : X.mg x = some (.int i t)) (hg : Gl X x := by rfl) (hd : (x == ("__debug__" : Str)) = false := by decide) : PE X (.Name x pos) (tE X.K X.mg W (con (.int i))) :=
  ⟨fun _ _ _ H _ I h => ld_glob I hg hm ⟨.int i, H, I, ⟨_, rfl⟩, tE_con (d := .int i) (fun _ _ => rfl) h⟩ hd⟩
def chI (p q : Int → Int → Bool) (fa fb fc : M EV) : M EV := bnd fa fun ea => bnd fb fun eb => fun ρ => match peek1 ρ ea, peek1 ρ eb with
  | some (.int i), some (.int j) => if p i j = true then (bnd fc fun ec => fun ρ' => match peek1 ρ' ec with
      | some (.int l) => .ok (.val (.bl (q j l))) ρ'
      | _ => .stuck) ρ else .ok (.val (.bl false)) ρ
  | _, _ => .stuck
theorem int_of {ev : EV} {v : V} {i : Int} {ρ : Env} (h : peek1 ρ ev = some (.int i)) (r : EVR K Z H σ ev v S) (er : EnvR K Z' H' ρ σ S') : v = .int i := by
  cases ev with
  | val d =>
    have e : d = .int i := Option.some.inj h
    subst e
    exact r
  | ref j => exact peek1_rep (Z := Z') (H := H') (Sa := Fp0) (e := .ref j) er r h
theorem tE_chI {p q : Int → Int → Bool} {Q : VK} (h : tE K mg W (chI p q fa fb fc) σ H Q) : tChain (rI0 fun i j => .bl (p i j)) (rI0 fun i j => .bl (q i j)) (tE K mg W fa) (tE K mg W fb) (tE K mg W fc) σ H Q := by
  obtain ⟨Z, ρ, S, w, er, o⟩ := h
  refine ⟨Z, ρ, S, w, er, ?_⟩
  simp only [chI, bnd] at o
  cases e1 : fa ρ with
  | stuck => rw [e1] at o; exact o
  | exc x ρ1 => rw [e1] at o; exact o
  | ok ea ρ1 =>
    rw [e1] at o
    intro x Z1 H1 S1 Sa st1 dj1 er1 r1
    have t1 := st1.less (S2 := S1) fun a x => .inl x
    refine ⟨Z1, ρ1, S1, t1.wd, er1, ?_⟩
    have o1 := OutE.after (K := K) (mg := mg) (W := W) (σ := σ) (Q := Q) t1 o
    cases e2 : fb ρ1 with
    | stuck => simp only [e2] at o1; exact o1
    | exc x ρ2 => simp only [e2] at o1; exact o1
    | ok eb ρ2 =>
      simp only [e2] at o1
      intro y Z2 H2 S2 Sb st2 dj2 er2 r2
      have t2 := st2.less (S2 := S2) fun a x => .inl x
      have o2 := OutE.after (K := K) (mg := mg) (W := W) (σ := σ) (Q := Q) t2 o1
      split at o2
      · rename_i i j h1 h2
        have ex := int_of h1 r1 er2
        have ey := int_of h2 r2 er2
        refine ⟨i, j, ex, ey, p i j, rfl, ?_⟩
        cases hp : p i j with
        | false =>
          rw [hp] at o2
          exact o2 (.bl false) Z2 H2 S2 Fp0 t2.wd.nil (fun _ _ x => x) er2 rfl
        | true =>
          rw [hp] at o2
          simp only [if_true] at o2 ⊢
          refine ⟨Z2, ρ2, S2, t2.wd, er2, ?_⟩
          cases e3 : fc ρ2 with
          | stuck => simp only [e3] at o2; exact o2
          | exc x ρ3 => simp only [e3] at o2; exact o2
          | ok ec ρ3 =>
            simp only [e3] at o2
            intro z Z3 H3 S3 Sc st3 dj3 er3 r3
            have t3 := st3.less (S2 := S3) fun a x => .inl x
            have o3 := OutE.after (K := K) (mg := mg) (W := W) (σ := σ) (Q := Q) t3 o2
            split at o3
            · rename_i l h3
              exact ⟨j, l, ey, int_of h3 r3 er3, o3 (.bl (q j l)) Z3 H3 S3 Fp0 t3.wd.nil (fun _ _ x => x) er3 rfl⟩
            · exact o3.elim
      · exact o2.elim
theorem tT_tstOf {f : M EV} {t : TE} {Q : Bool → Hp → Prop} (i : ∀ σ H Q, tE K mg W f σ H Q → t σ H Q) (h : tT K mg W (tst f) σ H Q) : tTest t σ H Q := i _ _ _ (tT_tst h)
theorem T_ch {op op' : CmpOp} {p q : Int → Int → Bool} (h1 : OpR X (compareOp op) (rI0 fun i j => .bl (p i j))) (h2 : OpR X (compareOp op') (rI0 fun i j => .bl (q i j))) (ha : PE X a (tE X.K X.mg W fa)) (hb : PE X b (tE X.K X.mg W fb)) (hc : PE X c (tE X.K X.mg W fc))
    (hm : lastMarks [op, op'] [b, c] = false := by with_unfolding_all rfl) : PT X (.Compare a [op, op'] [b, c] pos) (tT X.K X.mg W (tst (chI p q fa fb fc))) := PT.of (pt_chain h1 h2 ha hb hc hm) fun _ _ _ q => tT_tstOf (fun _ _ _ => tE_chI) q
def cLe (i j : Int) : Bool := decide (i ≤ j)
theorem oc_le : OpR X (compareOp .LtE) (rI0 fun i j => .bl (cLe i j)) := op_le
def subS (i j : Str) : Bool := !(Builtin.Str.occurrences j i 0 j.length 1).isEmpty
def opInS : List D → Option D
  | [.str i, .str j] => some (.bl (subS i j))
  | _ => none
theorem opd_inS : Opd X (compareOp .In) opInS := by
  refine ⟨_, op_in_str, snd_pure fun Z H S ds vs d Q w rb e k => ?_⟩
  unfold opInS at e
  split at e
  · rename_i x y
    obtain ⟨v, u, rfl, rv, ru⟩ := rb2 rb
    obtain rfl : v = .str x := rv
    obtain rfl : u = .str y := ru
    cases e
    exact ⟨_, _, rfl, x, y, rfl, rfl, k _ rfl⟩
  · cases e
end
end Pm
namespace Pm
open PySem PySem.Spec PyProof.Rows L2
section
variable {K : PySem.W.Frag} {mg : Str → Option Value} {W : WX} {Z Z' H H' : Hp} {S S' : Fp} {σ : Sl} {X : Cx} {a b c e : Expr} {pos : Pos} {fa fb fc : M EV}
theorem RepL.joinP : ∀ {ds es : List D} {vs ws : List V}, RepL K Z H ds vs Fp0 → RepL K Z H es ws Fp0 → RepL K Z H (ds ++ es) (vs ++ ws) Fp0 := fun {ds es vs ws} h1 h2 => RepL.append h1 h2 (fun _ x => x) (fun _ x => x) fun _ x _ => x
def opCatL : List D → Option D
  | [.node _ .lst xs, .node _ .lst ys] => if plainL xs = true ∧ plainL ys = true ∧ xs.length + ys.length ≤ cap then some (.lst true (xs ++ ys)) else none
  | _ => none
theorem opd_catL : Opd X (binaryOp .Add) opCatL := by
  refine ⟨_, op_cat, fun Z H S ds vs d Q w rb e k => ?_⟩
  unfold opCatL at e
  split at e
  · split at e
    · rename_i hp
      obtain ⟨v, u, rfl, rv, ru⟩ := rb2 rb
      obtain ⟨a, ys, rfl, c, rl⟩ := rep_lst w.same rv
      obtain ⟨a', ys', rfl, c', rl'⟩ := rep_lst w.same ru
      cases e
      refine ⟨_, _, rfl, a, a', ys, ys', rfl, rfl, c, c', by rw [← rl.length, ← rl'.length]; exact cap_le hp.2.2, fun p np => ?_⟩
      obtain ⟨f1, f2, f3, f4⟩ := fresh_lst w np ((rl.plain hp.1).joinP (rl'.plain hp.2.1))
      exact k _ _ _ _ f1 f2 f3 f4
    · cases e
  · cases e
def opCatT : List D → Option D
  | [.node _ .tup xs, .node _ .tup ys] => if plainL xs = true ∧ plainL ys = true ∧ xs.length + ys.length ≤ cap then some (.tup (xs ++ ys)) else none
  | _ => none
theorem opd_catT : Opd X (binaryOp .Add) opCatT := by
  refine ⟨_, op_catA, fun Z H S ds vs d Q w rb e k => ?_⟩
  unfold opCatT at e
  split at e
  · split at e
    · rename_i o1 xs o2 zs hp
      obtain ⟨v, u, rfl, rv, ru⟩ := rb2 rb
      have rv0 : Rep X.K Z H (.tup xs) v Fp0 := Rep.plain (rep_wk rv) (by simp [D.plain, hp.1])
      have ru0 : Rep X.K Z H (.tup zs) u Fp0 := Rep.plain (rep_wk ru) (by simp [D.plain, hp.2.1])
      obtain ⟨a, ys, rfl, c, rl⟩ := rep_tup w.same rv0
      obtain ⟨a', ys', rfl, c', rl'⟩ := rep_tup w.same ru0
      cases e
      have l1 := rl.length
      have l2 := rl'.length
      refine ⟨_, _, rfl, a, a', ys, ys', rfl, rfl, c, c', by rw [← l1, ← l2]; exact cap_le hp.2.2, fun h => ?_, fun _ h => ?_, fun _ _ p np => ?_⟩
      · have ex : xs = [] := List.length_eq_zero_iff.mp (by rw [l1, h]; rfl)
        rw [ex, List.nil_append] at k
        exact k _ _ _ Fp0 w.nil (Same.refl H) (fun _ _ x => x) ru0
      · have ex : zs = [] := List.length_eq_zero_iff.mp (by rw [l2, h]; rfl)
        rw [ex, List.append_nil] at k
        exact k _ _ _ Fp0 w.nil (Same.refl H) (fun _ _ x => x) rv0
      · obtain ⟨f1, f2, f3⟩ := fresh_tup w np ((rl.plain hp.1).joinP (rl'.plain hp.2.1))
        exact k _ _ _ _ f1 f2 (fun _ _ x => x) f3
    · cases e
  · cases e
/-- everything that is added -/
def hAdd : List D → Option D
  | [.str a, .str b] => gAddS [.str a, .str b]
  | [.node p .lst xs, .node q .lst ys] => opCatL [.node p .lst xs, .node q .lst ys]
  | [.node p .tup xs, .node q .tup ys] => opCatT [.node p .tup xs, .node q .tup ys]
  | ds => on2I iAdd ds
theorem opd_hAdd : Opd X (binaryOp .Add) hAdd := by
  refine Opd.or (g1 := gAdd) (g2 := fun ds => match opCatL ds with | some d => some d | none => opCatT ds) opd_gAdd (Opd.or opd_catL opd_catT fun ds d h => ?_) fun ds d h => ?_
  · cases e : opCatL ds with
    | some d' => simp only [e] at h; exact .inl h
    | none => simp only [e] at h; exact .inr h
  · unfold hAdd at h
    split at h
    · exact .inl h
    · exact .inr (by simp only [h])
    · exact .inr (by
        rename_i p xs q ys
        have e : opCatL [D.node p .tup xs, .node q .tup ys] = none := rfl
        simp only [e]
        exact h)
    · refine .inl ?_
      unfold gAdd
      split
      · rename_i n1 _ _
        exact absurd rfl (n1 _ _)
      · exact h
def flt : D → Option V
  | .non => some .non
  | .bl b => some (.bl b)
  | .int i => some (.int i)
  | .str x => some (.str x)
  | _ => none
def fltL : List D → Option (List V)
  | [] => some []
  | d :: ds => match flt d, fltL ds with
    | some v, some vs => some (v :: vs)
    | _, _ => none
theorem flt_ok {d : D} {v v' : V} (h : flt d = some v) (r : Rep K Z H d v' S) : v' = v ∧ flatV v = true := by
  cases d with
  | non => cases h; exact ⟨r, rfl⟩
  | bl b => cases h; exact ⟨r, rfl⟩
  | int i => cases h; exact ⟨r, rfl⟩
  | str x => cases h; exact ⟨r, rfl⟩
  | op u => cases h
  | node o k xs => cases h
theorem fltL_ok : ∀ {ds : List D} {vs vs' : List V} {S : Fp}, fltL ds = some vs → RepL K Z H ds vs' S → vs' = vs ∧ vs.all flatV = true
  | [], vs, [], _, h, _ => by cases h; exact ⟨rfl, rfl⟩
  | [], _, _ :: _, _, _, r => r.elim
  | _ :: _, _, [], _, _, r => r.elim
  | d :: ds, vs, v' :: vs', _, h, ⟨_, _, _, _, _, r, q⟩ => by
    unfold fltL at h
    split at h
    · rename_i v us h1 h2
      cases h
      obtain ⟨e1, f1⟩ := flt_ok h1 r
      obtain ⟨e2, f2⟩ := fltL_ok h2 q
      exact ⟨by rw [e1, e2], by rw [List.all_cons, f1, f2]; rfl⟩
    · cases h
def opInQ (neg : Bool) : List D → Option D
  | [x, .node _ .lst xs] => match flt x, fltL xs with
    | some v, some vs => some (.bl (if neg then !inV v vs else inV v vs))
    | _, _ => none
  | [x, .node _ .tup xs] => match flt x, fltL xs with
    | some v, some vs => some (.bl (if neg then !inV v vs else inV v vs))
    | _, _ => none
  | _ => none
theorem snd_inQ {neg : Bool} : Snd X (fun vs H Q => ∃ x y, vs = [x, y] ∧ rIn X.K neg x y H Q) (opInQ neg) := by
  refine snd_pure fun Z H S ds vs d Q w rb e k => ?_
  unfold opInQ at e
  split at e
  · split at e
    · rename_i v us h1 h2
      obtain ⟨v', u', rfl, rv, ru⟩ := rb2 rb
      obtain ⟨a, ys, rfl, c, rl⟩ := rep_lst w.same ru
      obtain ⟨e1, f1⟩ := flt_ok h1 rv
      obtain ⟨e2, f2⟩ := fltL_ok h2 rl
      subst e1
      subst e2
      cases e
      exact ⟨_, _, rfl, a, _, rfl, .inl (SqL.of c), f1, f2, k _ rfl⟩
    · cases e
  · split at e
    · rename_i v us h1 h2
      obtain ⟨v', u', rfl, rv, ru⟩ := rb2 rb
      obtain ⟨a, ys, rfl, c, rl⟩ := rep_tup w.same ru
      obtain ⟨e1, f1⟩ := flt_ok h1 rv
      obtain ⟨e2, f2⟩ := fltL_ok h2 rl
      subst e1
      subst e2
      cases e
      exact ⟨_, _, rfl, a, _, rfl, .inr c, f1, f2, k _ rfl⟩
    · cases e
  · cases e
def opIn : List D → Option D
  | [.str i, .str j] => opInS [.str i, .str j]
  | ds => opInQ false ds
theorem opd_in : Opd X (compareOp .In) opIn := Opd.or opd_inS ⟨_, op_in_seq, snd_inQ⟩ fun ds d h => by
  unfold opIn at h
  split at h
  · exact .inl h
  · exact .inr h
end
end Pm
namespace Pm
open PySem PySem.Spec PyProof.Rows L2
section
variable {K : PySem.W.Frag} {mg : Str → Option Value} {W : WX} {Z Z' H H' : Hp} {S S' : Fp} {σ : Sl} {X : Cx} {a b c e o : Expr} {pos : Pos} {fa fb fc : M EV}
def smet1 (g : List D → Option D) (f fe : M EV) : M EV := bnd f fun e1 => fun ρ => match peek1 ρ e1 with
  | some (.str a) => (bnd fe fun e2 => fun ρ' => match peek1 ρ' e2 with
    | some d => match g [.str a, d] with
      | some d' => .ok (.val d') ρ'
      | none => .stuck
    | none => .stuck) ρ
  | _ => .stuck
theorem str_of {ev : EV} {v : V} {x : Str} {ρ : Env} (h : peek1 ρ ev = some (.str x)) (r : EVR K Z H σ ev v S) (er : EnvR K Z' H' ρ σ S') : v = .str x := by
  cases ev with
  | val d =>
    have e : d = .str x := Option.some.inj h
    subst e
    exact r
  | ref j => exact peek1_rep (Z := Z') (H := H') (Sa := Fp0) (e := .ref j) er r h
theorem tE_smet1 {g : List D → Option D} {r : V → List V → Hp → VK → Prop} {Q : VK} (hs : Snd X (fun vs H Q => ∃ x y, vs = [x, y] ∧ r x [y] H Q) g) (h : tE X.K X.mg W (smet1 g fa fb) σ H Q) : tM1 r (tE X.K X.mg W fa) (tE X.K X.mg W fb) σ H Q := by
  obtain ⟨Z, ρ, S, w, er, o⟩ := h
  refine ⟨Z, ρ, S, w, er, ?_⟩
  simp only [smet1, bnd] at o
  cases e1 : fa ρ with
  | stuck => rw [e1] at o; exact o
  | exc x ρ1 => rw [e1] at o; exact o
  | ok ea ρ1 =>
    rw [e1] at o
    intro x Z1 H1 S1 Sa st1 dj1 er1 r1
    have t1 := st1.less (S2 := S1) fun a x => .inl x
    simp only at o
    have o1 := OutE.after (K := X.K) (mg := X.mg) (W := W) (σ := σ) (Q := Q) t1 o
    split at o1
    · rename_i z hz
      have ex := str_of hz r1 er1
      subst ex
      refine ⟨⟨z, rfl⟩, Z1, ρ1, S1, t1.wd, er1, ?_⟩
      cases e2 : fb ρ1 with
      | stuck => simp only [e2] at o1; exact o1
      | exc x ρ2 => simp only [e2] at o1; exact o1
      | ok eb ρ2 =>
        simp only [e2] at o1
        intro y Z2 H2 S2 Sb st2 dj2 er2 r2
        have o2 := OutE.after (K := X.K) (mg := X.mg) (W := W) (σ := σ) (Q := Q) st2 o1
        split at o2
        · rename_i d hd
          split at o2
          · rename_i d' hg
            obtain ⟨x', y', hx, q⟩ := hs Z2 H2 _ [.str z, d] [.str z, y] d' Q st2.wd ⟨rfl, peek1_rep er2 r2 hd, trivial⟩ hg fun v Z3 H3 Sd st3 sm dj3 rd =>
              o2 v Z3 H3 S2 Sd (st3.less fun a x => x.elim (fun y => .inl (.inl y)) .inr) (fun a x y => dj3 a (.inl x) y) (er2.move st3.zz (fun a ob _ e => sm a ob e) fun _ x => x) rd
            cases hx
            exact q
          · exact o2.elim
        · exact o2.elim
    · exact o1.elim
def strsD : List D → Option (List Str)
  | [] => some []
  | .str x :: ds => (strsD ds).map (x :: ·)
  | _ => none
theorem strsD_map : ∀ xs : List Str, strsD (xs.map D.str) = some xs
  | [] => rfl
  | x :: xs => by rw [List.map_cons, strsD, strsD_map xs]; rfl
theorem strsD_inv : ∀ {ds : List D} {xs : List Str}, strsD ds = some xs → ds = xs.map D.str
  | [], xs, h => by
    simp only [strsD, Option.some.injEq] at h
    subst h
    rfl
  | d :: ds, xs, h => by
    cases d with
    | str x =>
      simp only [strsD, Option.map_eq_some_iff] at h
      obtain ⟨ys, h1, rfl⟩ := h
      rw [strsD_inv h1]
      rfl
    | _ => simp [strsD] at h
theorem reps_strs : ∀ {xs : List Str} {vs : List V} {S : Fp}, RepL K Z H (xs.map D.str) vs S → vs = xs.map V.str
  | [], [], _, _ => rfl
  | [], _ :: _, _, h => h.elim
  | _ :: _, [], _, h => h.elim
  | x :: xs, v :: vs, S, ⟨_, _, _, _, _, r, q⟩ => by
    have e : v = .str x := r
    rw [e, reps_strs q]
    rfl
def opJoin : List D → Option D
  | [.str a, .node _ .lst xs] => match strsD xs with
    | some ys => if (ys.map (·.length)).sum + ys.length * a.length ≤ cap then some (.str (Txt.join a ys)) else none
    | none => none
  | [.str a, .node _ .tup xs] => match strsD xs with
    | some ys => if (ys.map (·.length)).sum + ys.length * a.length ≤ cap then some (.str (Txt.join a ys)) else none
    | none => none
  | _ => none
def rJoin (K : PySem.W.Frag) : V → List V → Hp → VK → Prop := fun x xs H Q => ∃ a p, ∃ ys : List Str, x = .str a ∧ xs = [.ref p] ∧ (SqL K H p (ys.map V.str) ∨ SqT K H p (ys.map V.str)) ∧ (ys.map (·.length)).sum + ys.length * a.length ≤ 16777216 ∧ Q (.str (Txt.join a ys)) H
theorem snd_join : Snd X (fun vs H Q => ∃ x y, vs = [x, y] ∧ rJoin X.K x [y] H Q) opJoin := by
  refine snd_pure fun Z H S ds vs d Q w rb e k => ?_
  unfold opJoin at e
  split at e
  · split at e
    · rename_i ys hy
      split at e
      · rename_i hl
        obtain ⟨v, u, rfl, rv, ru⟩ := rb2 rb
        obtain ⟨p, zs, rfl, c, rl⟩ := rep_lst w.same ru
        rw [strsD_inv hy] at rl
        have ez := reps_strs rl
        subst ez
        cases e
        exact ⟨_, _, rfl, _, p, ys, rv, rfl, .inl (SqL.of c), Nat.le_trans hl (by decide), k _ rfl⟩
      · cases e
    · cases e
  · split at e
    · rename_i ys hy
      split at e
      · rename_i hl
        obtain ⟨v, u, rfl, rv, ru⟩ := rb2 rb
        obtain ⟨p, zs, rfl, c, rl⟩ := rep_tup w.same ru
        rw [strsD_inv hy] at rl
        have ez := reps_strs rl
        subst ez
        cases e
        exact ⟨_, _, rfl, _, p, ys, rv, rfl, .inr c, Nat.le_trans hl (by decide), k _ rfl⟩
      · cases e
    · cases e
  · cases e
theorem E_join {apos : Pos} (ho : PE X o (tE X.K X.mg W fa)) (he : PE X e (tE X.K X.mg W fb)) (hs : starEach [e] X.env = [(false, eval e X.env)] := by rfl) (hbase : attributeBase o "join" X.env (eval o X.env) = eval o X.env := by rfl) (hline : (apos.endLine == pos.line) = true := by rfl) :
    PE X (.Call (.Attribute o "join" apos) [e] [] pos) (tE X.K X.mg W (smet1 opJoin fa fb)) := PE.of (pe_join ho he hs hbase hline) fun _ _ _ q => tE_smet1 (r := rJoin X.K) snd_join q
end
end Pm
namespace Pm
open PySem PySem.Spec PyProof.Rows L2
section
variable {K : PySem.W.Frag} {mg : Str → Option Value} {W : WX} {Z Z' H H' : Hp} {S S' : Fp} {σ : Sl} {X : Cx} {a b c e o : Expr} {pos : Pos} {fa fb fc : M EV}
theorem RepL.erase : ∀ {ds : List D} {vs : List V} {S : Fp} {i : Nat} {d : D}, RepL K Z H ds vs S → ds[i]? = some d →
    ∃ v, ∃ S1 S2 : Fp, vs[i]? = some v ∧ (∀ a, S1 a → S a) ∧ (∀ a, S2 a → S a) ∧ (∀ a, S1 a → S2 a → False) ∧ Rep K Z H d v S1 ∧ RepL K Z H (ds.eraseIdx i) (vs.eraseIdx i) S2
  | [], _, _, _, _, _, e => by simp at e
  | _ :: _, [], _, _, _, h, _ => h.elim
  | d :: ds, v :: vs, S, 0, d', ⟨S1, S2, s1, s2, dj, r, q⟩, e => by
    simp only [List.getElem?_cons_zero, Option.some.injEq] at e
    subst e
    exact ⟨v, S1, S2, rfl, s1, s2, dj, r, q⟩
  | d :: ds, v :: vs, S, i + 1, d', ⟨S1, S2, s1, s2, dj, r, q⟩, e => by
    simp only [List.getElem?_cons_succ] at e
    obtain ⟨u, U1, U2, hu, u1, u2, uj, ru, rest⟩ := RepL.erase q e
    exact ⟨u, U1, fun a => S1 a ∨ U2 a, by simpa using hu, fun a x => s2 a (u1 a x), fun a x => x.elim (s1 a) fun y => s2 a (u2 a y), fun a x y => y.elim (fun z => dj a z (u1 a x)) (uj a x), ru, S1, U2, fun _ x => .inl x, fun _ x => .inr x, fun a x y => dj a x (u2 a y), r, rest⟩
theorem pop_item {i j : Nat} {xs : List D} {ρ : Env} {d : D} (w : Wd Z H S) (er : EnvR K Z H ρ σ S) (e : ρ.getD j none = some (.node true .lst xs)) (hi : xs[i]? = some d) :
    ∃ p ys y, ∃ S' T : Fp, σ[j]? = some (some (.ref p)) ∧ H p = some (.lst ys) ∧ ys.length = xs.length ∧ ys[i]? = some y ∧ (∀ a, S' a → S a) ∧ (∀ a, T a → S a) ∧ (∀ a, S' a → T a → False) ∧ S p ∧
      Rep K Z (upd H p (.lst (ys.eraseIdx i))) d y T ∧ EnvR K Z (upd H p (.lst (ys.eraseIdx i))) (ρ.set j (some (.node true .lst (xs.eraseIdx i)))) σ S' := by
  obtain ⟨u, U1, U2, hv, u1, u2, uj, ru, eu⟩ := er.take (getD_some e)
  obtain ⟨p, ys, U', rfl, c, sa, na, sub, rl⟩ := ru
  obtain ⟨hj, ej⟩ := List.getElem?_eq_some_iff.mp hv
  have es : σ.set j (some (.ref p)) = σ := by rw [← ej, List.set_getElem_self]
  have hl : j < ρ.length := by rw [er.length]; exact hj
  obtain ⟨y, T1, T2, hy, t1, t2, tj, ry, rest⟩ := rl.erase hi
  have keep : ∀ {B : Fp}, (∀ a, B a → a = p → False) → ∀ a o, B a → H a = some o → upd H p (.lst (ys.eraseIdx i)) a = some o := fun {B} n a o b q => by rw [upd_ne fun z => n a b z]; exact q
  have n1 : ∀ a, U' a → a = p → False := fun a x y => na (by rw [← y]; exact x)
  have rn : Rep K Z (upd H p (.lst (ys.eraseIdx i))) (.node true .lst (xs.eraseIdx i)) (.ref p) (fun a => a = p ∨ T2 a) := ⟨p, ys.eraseIdx i, T2, rfl, upd_same, .inl rfl, fun x => n1 p (t2 p x) rfl, fun _ x => .inr x, rest.move (Same.refl Z) (keep fun a x => n1 a (t2 a x)) fun _ x => x⟩
  have q := EnvR.put (S := fun a => (a = p ∨ T2 a) ∨ U2 a) (eu.move (Same.refl Z) (keep fun a x y => uj p sa (by rw [← y]; exact x)) fun _ x => x) hl rn (fun _ x => .inl x) (fun _ x => .inr x) fun a x y => by
    rcases x with x | x
    · exact uj p sa (by rw [← x]; exact y)
    · exact uj a (sub a (t2 a x)) y
  rw [es] at q
  refine ⟨p, ys, y, _, T1, hv, c, rl.length.symm, hy, fun a x => ?_, fun a x => u1 a (sub a (t1 a x)), fun a x t => ?_, u1 p sa, ry.move (Same.refl Z) (keep fun a x => n1 a (t1 a x)) fun _ x => x, q⟩
  · rcases x with (x | x) | x
    · rw [x]; exact u1 p sa
    · exact u1 a (sub a (t2 a x))
    · exact u2 a x
  · rcases x with (x | x) | x
    · exact n1 a (t1 a t) x
    · exact tj a t x
    · exact uj a (sub a (t1 a t)) x
/-- x.pop(), x.pop(i) of a slot's own list -/
def popd (j : Nat) : M EV := fun ρ => match ρ.getD j none with
  | some (.node true .lst xs) => match xs[xs.length - 1]? with
    | some d => .ok (.val d) (ρ.set j (some (.node true .lst (xs.eraseIdx (xs.length - 1)))))
    | none => .stuck
  | _ => .stuck
theorem drop_erase {α : Type} (xs : List α) : xs.dropLast = xs.eraseIdx (xs.length - 1) := by
  rw [List.dropLast_eq_take, List.eraseIdx_eq_take_drop_succ]
  cases xs with
  | nil => rfl
  | cons x xs => simp
theorem tE_popd {j : Nat} {Q : VK} (h : tE K mg W (popd j) σ H Q) : tBM0 K "list" rPop (tVar j) σ H Q := by
  obtain ⟨Z, ρ, S, w, er, o⟩ := h
  simp only [popd] at o
  split at o
  · rename_i xs h0
    split at o
    · rename_i d hd
      obtain ⟨p, ys, y, S', T, hv, hp, hl, hy, m1, m2, dj, sp, rd, er'⟩ := pop_item w er h0 hd
      refine ⟨.ref p, hv, .inl ⟨rfl, ys, SqL.of hp⟩, p, ys, y, rfl, rfl, hp, by rw [hl]; exact hy, ?_⟩
      rw [drop_erase, hl]
      exact o y Z _ S' T ((Step.write w sp).less fun a x => x.elim (m1 a) (m2 a)) dj er' rd
    · exact o.elim
  · exact o.elim
theorem E_popd {j : Nat} {x : Str} {p2 apos cpos : Pos} (hj : X.N[j]? = some x := by rfl) (hv : Vis X.env.scope x := by first | exact Or.inl rfl | exact Or.inr (Or.inl rfl) | exact Or.inr (Or.inr rfl)) (hd : (x == ("__debug__" : Str)) = false := by decide) (hcd : (x == ("__classdict__" : Str)) = false := by decide)
    (hbase : attributeBase (.Name x p2) "pop" X.env (eval (.Name x p2) X.env) = eval (.Name x p2) X.env := by rfl) (hline : (apos.endLine == cpos.line) = true := by rfl) : PE X (.Call (.Attribute (.Name x p2) "pop" apos) [] [] cpos) (tE X.K X.mg W (popd j)) :=
  PE.of (pe_bm0 PySem.F.plainAttrs_list PySem.F.slot_list_pop PySem.F.type_list_pop mt_pop (pe_var hj hv hd hcd) hbase hline) fun _ _ _ q => tE_popd q
end
end Pm
namespace Pm
open PySem PySem.Spec PyProof.Rows L2
end Pm
namespace Pm
open PySem PySem.Spec PyProof.Rows L2
section
variable {K : PySem.W.Frag} {mg : Str → Option Value} {W : WX} {Z Z' H H' : Hp} {S S' : Fp} {σ : Sl} {X : Cx} {a b c e o : Expr} {pos : Pos} {fa fb fc : M EV}
def enumD : Nat → List D → List D
  | _, [] => []
  | i, d :: ds => .tup [.int (i : Int), d] :: enumD (i + 1) ds
end
end Pm
namespace Pm
open PySem PySem.Spec PyProof.Rows L2
section
variable {K : PySem.W.Frag} {mg : Str → Option Value} {W : WX} {Z Z' H H' : Hp} {S S' : Fp} {σ : Sl} {X : Cx} {a b c e e2 o : Expr} {pos : Pos} {fa fb fc : M EV}
def zipD : List D → List D → List D
  | d :: ds, e :: es => .tup [d, e] :: zipD ds es
  | _, _ => []
theorem zipD_length : ∀ ds es : List D, (zipD ds es).length = min ds.length es.length
  | [], es => by simp [zipD]
  | d :: ds, [] => by simp [zipD]
  | d :: ds, e :: es => by rw [zipD, List.length_cons, zipD_length ds es, List.length_cons, List.length_cons]; omega
theorem zipD_get : ∀ (ds es : List D) (i : Nat) (x : D), (zipD ds es)[i]? = some x → ∃ d e, ds[i]? = some d ∧ es[i]? = some e ∧ x = .tup [d, e]
  | [], _, _, _, h => by simp [zipD] at h
  | _ :: _, [], _, _, h => by simp [zipD] at h
  | d :: ds, e :: es, 0, x, h => by
    simp only [zipD, List.getElem?_cons_zero, Option.some.injEq] at h
    exact ⟨d, e, rfl, rfl, h.symm⟩
  | d :: ds, e :: es, i + 1, x, h => by
    simp only [zipD, List.getElem?_cons_succ] at h
    obtain ⟨d', e', h1, h2, h3⟩ := zipD_get ds es i x h
    exact ⟨d', e', by simpa using h1, by simpa using h2, h3⟩
theorem WalkR.more {J : It} {ds : List D} (h : WalkR K J Z ds) (s : Same Z Z') : WalkR K J Z' ds := fun Z1 H1 z1 z2 => h Z1 H1 (s.trans z1) z2
end
end Pm
namespace Pm
open PySem PySem.Spec PyProof.Rows L2
section
variable {K : PySem.W.Frag} {mg : Str → Option Value} {W : WX} {Z Z' H H' : Hp} {S S' : Fp} {σ : Sl} {X : Cx} {A : Nat → Bool} {a b c e e2 o : Expr} {pos : Pos} {fa fb fc : M EV} {f : M EV} {g1 g2 g3 : Tg}
/-- the same plain thing to two, to three targets -/
def asg2 (f : M EV) (g1 g2 : Tg) : M Fl := bnd f fun e => bnd (use1 e) fun d => fun ρ => if d.plain = true then (match g1 d ρ with
  | .ok _ ρ1 => match g2 d ρ1 with
    | .ok _ ρ2 => .ok .nx ρ2
    | _ => .stuck
  | _ => .stuck) else .stuck
end
end Pm
namespace Pm
open PySem PySem.Spec PyProof.Rows L2
end Pm
namespace Pm
open PySem PySem.Spec PyProof.Rows L2
section
variable {K : PySem.W.Frag} {mg : Str → Option Value} {W : WX} {Z H : Hp} {S : Fp} {σ : Sl} {X : Cx} {e : Expr} {fa fe : M EV}
theorem push_items {j : Nat} {xs : List D} {ρ : Env} {ds : List D} {vs : List V} (w : Wd Z H S) (er : EnvR K Z H ρ σ S) (e : ρ.getD j none = some (.node true .lst xs)) (rv : RepL K Z H ds vs Fp0) :
    ∃ p ys, σ[j]? = some (some (.ref p)) ∧ H p = some (.lst ys) ∧ ys.length = xs.length ∧ ∃ S', (∀ a, S' a → S a) ∧ S p ∧ EnvR K Z (upd H p (.lst (ys ++ vs))) (ρ.set j (some (.node true .lst (xs ++ ds)))) σ S' := by
  obtain ⟨u, U1, U2, hv, u1, u2, uj, ru, eu⟩ := er.take (getD_some e)
  obtain ⟨p, ys, U', rfl, c, sa, na, sub, rl⟩ := ru
  obtain ⟨hj, ej⟩ := List.getElem?_eq_some_iff.mp hv
  have es : σ.set j (some (.ref p)) = σ := by rw [← ej, List.set_getElem_self]
  have hl : j < ρ.length := by rw [er.length]; exact hj
  have keep : ∀ {B : Fp}, (∀ a, B a → a = p → False) → ∀ a o, B a → H a = some o → upd H p (.lst (ys ++ vs)) a = some o := fun {B} n a o b q => by rw [upd_ne fun z => n a b z]; exact q
  have n1 : ∀ a, U' a → a = p → False := fun a x y => na (by rw [← y]; exact x)
  have pl : RepL K Z (upd H p (.lst (ys ++ vs))) (xs ++ ds) (ys ++ vs) U' := RepL.append (rl.move (Same.refl Z) (keep n1) fun _ x => x) (rv.move (Same.refl Z) (fun _ _ x => x.elim) fun _ x => x) (fun _ x => x) (fun _ x => x.elim) fun _ _ x => x
  have rn : Rep K Z (upd H p (.lst (ys ++ vs))) (.node true .lst (xs ++ ds)) (.ref p) (fun a => a = p ∨ U' a) := ⟨p, ys ++ vs, U', rfl, upd_same, .inl rfl, fun x => n1 p x rfl, fun _ x => .inr x, pl⟩
  have q := EnvR.put (S := fun a => (a = p ∨ U' a) ∨ U2 a) (eu.move (Same.refl Z) (keep fun a x y => uj p sa (by rw [← y]; exact x)) fun _ x => x) hl rn (fun _ x => .inl x) (fun _ x => .inr x) fun a x y => by
    rcases x with x | x
    · exact uj p sa (by rw [← x]; exact y)
    · exact uj a (sub a x) y
  rw [es] at q
  refine ⟨p, ys, hv, c, rl.length.symm, _, fun a x => ?_, u1 p sa, q⟩
  rcases x with (x | x) | x
  · rw [x]; exact u1 p sa
  · exact u1 a (sub a x)
  · exact u2 a x
/-- x.extend(a list of plain things) of a slot's own list -/
def extd (j : Nat) (fe : M EV) : M EV := fun ρ0 => match ρ0.getD j none with
  | some (.node true .lst _) => bnd fe (fun ev => fun ρ => match ρ.getD j none, peek1 ρ ev with
    | some (.node true .lst xs), some (.node _ .lst ys) => if plainL ys = true ∧ xs.length + ys.length ≤ cap then .ok (.val .non) (ρ.set j (some (.node true .lst (xs ++ ys)))) else .stuck
    | _, _ => .stuck) ρ0
  | _ => .stuck
theorem tE_extd {j : Nat} {Q : VK} (h : tE K mg W (extd j fe) σ H Q) : tBM K "list" rExtend (tVar j) (tCons (tE K mg W fe) tNil) σ H Q := by
  obtain ⟨Z, ρ, S, w, er, o⟩ := h
  simp only [extd] at o
  split at o
  · rename_i xs0 h0
    obtain ⟨u, U1, U2, hv, u1, u2, uj, ru, eu⟩ := er.take (getD_some h0)
    obtain ⟨p0, ys0, U', rfl, c0, _⟩ := ru
    refine ⟨.ref p0, hv, .inl ⟨rfl, ys0, SqL.of c0⟩, Z, ρ, S, w, er, ?_⟩
    simp only [bnd] at o
    cases e1 : fe ρ with
    | stuck => rw [e1] at o; exact o
    | exc x ρ1 => rw [e1] at o; exact o
    | ok ev ρ1 =>
      simp only [e1] at o
      intro v Z1 H1 S1 Sa st1 dj1 er1 r1
      have t1 := st1.less (S2 := S1) fun a x => .inl x
      have o1 := OutE.after (K := K) (mg := mg) (W := W) (σ := σ) (Q := Q) t1 o
      split at o1
      · rename_i xs b ys hx hk
        split at o1
        · rename_i hc
          have rb := peek1_rep er1 r1 hk
          obtain ⟨b2, zs, rfl, cb, rl⟩ := rep_lst t1.wd.same rb
          obtain ⟨p, ws, hv2, hp, hl, S', m', sp, er'⟩ := push_items t1.wd er1 hx (rl.plain hc.1)
          rw [hv] at hv2
          cases hv2
          refine ⟨p0, b2, ws, zs, rfl, rfl, hp, cb, by rw [hl, ← rl.length]; exact cap_le hc.2, ?_⟩
          exact o1 .non Z1 _ S' Fp0 ((Step.write t1.wd sp).less fun a x => x.elim (m' a) False.elim) (fun _ _ x => x) er' rfl
        · exact o1.elim
      · exact o1.elim
  · exact o.elim
theorem E_ext {j : Nat} {x : Str} {p2 apos cpos : Pos} (he : PE X e (tE X.K X.mg W fe)) (hj : X.N[j]? = some x := by rfl) (hv : Vis X.env.scope x := by first | exact Or.inl rfl | exact Or.inr (Or.inl rfl) | exact Or.inr (Or.inr rfl)) (hd : (x == ("__debug__" : Str)) = false := by decide) (hcd : (x == ("__classdict__" : Str)) = false := by decide)
    (hbase : attributeBase (.Name x p2) "extend" X.env (eval (.Name x p2) X.env) = eval (.Name x p2) X.env := by rfl)
    (hfew : ((backTo cpos (starEach [e] X.env)).all (fun x => !x.1) && (backToKw cpos (keywordEach [] X.env)).all (fun x => x.1.isSome)
      && decide ([e].length + ([] : List Keyword).length + (if ([] : List Keyword).isEmpty then 0 else 1) < 30)) = true := by rfl)
    (hline : (apos.endLine == cpos.line) = true := by rfl) (hs : starEach [e] X.env = (false, eval e X.env) :: starEach [] X.env := by rfl) (hplain : (backTo cpos (starEach [] X.env)).any (·.1) = false := by rfl) :
    PE X (.Call (.Attribute (.Name x p2) "extend" apos) [e] [] cpos) (tE X.K X.mg W (extd j fe)) :=
  PE.of (pe_bm PySem.F.plainAttrs_list PySem.F.slot_list_extend PySem.F.type_list_extend mt_extend (pe_var hj hv hd hcd) (pa_cons he pa_nil hs) hbase hfew hline hs hplain) fun _ _ _ q => tE_extd q
end
end Pm
namespace Pm
open PySem PySem.Spec PyProof.Rows L2 StX
section
variable {K : PySem.W.Frag} {mg : Str → Option Value} {W : WX} {Z Z' H H' : Hp} {S S' : Fp} {σ : Sl} {X : Cx} {A : Nat → Bool} {a b c e o : Expr} {es : List Expr} {pos p : Pos} {fa fb fc f : M EV} {fs : M (List EV)}
def onS2 (g : Str → Str → Bool) : List D → Option D
  | [.str a, .str b] => some (.bl (g a b))
  | _ => none
theorem opd_S2 {fo : Value → Value → Sem Value} {g : Str → Str → Bool} (ho : OpR X fo (fun x y H Q => ∃ i j, x = .str i ∧ y = .str j ∧ Q (.bl (g i j)) H)) : Opd X fo (onS2 g) := by
  refine ⟨_, ho, snd_pure fun Z H S ds vs d Q w rb e k => ?_⟩
  unfold onS2 at e
  split at e
  · rename_i a b
    obtain ⟨v, u, rfl, rv, ru⟩ := rb2 rb
    obtain rfl : v = .str a := rv
    obtain rfl : u = .str b := ru
    cases e
    exact ⟨_, _, rfl, a, b, rfl, rfl, k _ rfl⟩
  · cases e
def ltS (a b : Str) : Bool := decide (a.cps.toList < b.cps.toList)
def opLtT : List D → Option D
  | [.node _ .tup xs, .node _ .tup ys] => match intsD xs, intsD ys with
    | some ns, some ms => some (.bl (HT.lexLt ns ms))
    | _, _ => none
  | _ => none
theorem opd_ltT (hu : X.A.units + 64 < cLine) : Opd X (compareOp .Lt) opLtT := by
  refine ⟨_, op_ltT (by omega), snd_pure fun Z H S ds vs d Q w rb e k => ?_⟩
  unfold opLtT at e
  split at e
  · split at e
    · rename_i ns ms h1 h2
      obtain ⟨v, u, rfl, rv, ru⟩ := rb2 rb
      obtain ⟨a, ys, rfl, c, rl⟩ := rep_tup w.same rv
      obtain ⟨b, zs, rfl, c2, rl2⟩ := rep_tup w.same ru
      rw [intsD_inv h1] at rl
      rw [intsD_inv h2] at rl2
      have e1 := reps_intsV rl
      have e2 := reps_intsV rl2
      subst e1
      subst e2
      cases e
      exact ⟨_, _, rfl, a, b, ns, ms, rfl, rfl, c, c2, k _ rfl⟩
    · cases e
  · cases e
/-- < of all kinds -/
def opLtA : List D → Option D
  | [.int i, .int j] => on2I iLt [.int i, .int j]
  | [.str i, .str j] => onS2 ltS [.str i, .str j]
  | ds => opLtT ds
theorem opd_ltA (hu : X.A.units + 64 < cLine) : Opd X (compareOp .Lt) opLtA := by
  refine Opd.or (g1 := on2I iLt) (g2 := fun ds => match onS2 ltS ds with | some d => some d | none => opLtT ds) opd_ltI (Opd.or (opd_S2 op_lt_str) (opd_ltT hu) fun ds d h => ?_) fun ds d h => ?_
  · cases e : onS2 ltS ds with
    | some d' => simp only [e] at h; exact .inl (show onS2 ltS ds = some d by rw [e]; exact h)
    | none => simp only [e] at h; exact .inr h
  · unfold opLtA at h
    split at h
    · exact .inl h
    · exact .inr (by simp only [h])
    · refine .inr ?_
      rename_i n1 n2
      have e : onS2 ltS ds = none := by
        unfold onS2
        split
        · first
            | exact (n2 _ _ rfl).elim
            | exact (n1 _ _ rfl).elim
        · rfl
      simp only [e]
      exact h
def orS (g : Int → Int → Option D) (q : Str → Str → Bool) : List D → Option D
  | [.str i, .str j] => onS2 q [.str i, .str j]
  | ds => on2I g ds
theorem opd_orS {fo : Value → Value → Sem Value} {g : Int → Int → Option D} {q : Str → Str → Bool} (h1 : Opd X fo (on2I g)) (h2 : Opd X fo (onS2 q)) : Opd X fo (orS g q) := Opd.or h1 h2 fun ds d h => by
  unfold orS at h
  split at h
  · exact .inr h
  · exact .inl h
abbrev opLeA : List D → Option D := orS iLe fun a b => !decide (b.cps.toList < a.cps.toList)
abbrev opGtA : List D → Option D := orS iGt fun a b => decide (b.cps.toList < a.cps.toList)
theorem opd_leA : Opd X (compareOp .LtE) opLeA := opd_orS opd_leI (opd_S2 op_le_str)
theorem opd_gtA : Opd X (compareOp .Gt) opGtA := opd_orS opd_gtI (opd_S2 op_gt_str)
def opRepL : List D → Option D
  | [.node true .lst xs, .int k] => if plainL xs = true ∧ -(2 ^ 63) ≤ k ∧ k < 2 ^ 63 ∧ xs.length * k.toNat ≤ cap then some (.lst true (List.replicate k.toNat xs).flatten) else none
  | _ => none
theorem reps_rep {ds : List D} {vs : List V} (r : RepL K Z H ds vs Fp0) : ∀ n : Nat, RepL K Z H (List.replicate n ds).flatten (List.replicate n vs).flatten Fp0
  | 0 => trivial
  | n + 1 => by
    rw [List.replicate_succ, List.replicate_succ, List.flatten_cons, List.flatten_cons]
    exact r.joinP (reps_rep r n)
theorem opd_repL : Opd X (binaryOp .Mult) opRepL := by
  refine ⟨_, op_rep, fun Z H S ds vs d Q w rb e k => ?_⟩
  unfold opRepL at e
  split at e
  · split at e
    · rename_i xs n hp
      obtain ⟨v, u, rfl, rv, ru⟩ := rb2 rb
      obtain ⟨a, ys, S', rfl, c, sa, na, sub, rl⟩ := rv
      obtain rfl : u = .int n := ru
      cases e
      refine ⟨_, _, rfl, a, n, ys, rfl, rfl, c, hp.2.1, hp.2.2.1, by rw [← rl.length]; exact cap_le hp.2.2.2, fun p np => ?_⟩
      obtain ⟨f1, f2, f3, f4⟩ := fresh_lst w np (reps_rep (rl.plain (H' := H) hp.1) n.toNat)
      exact k _ _ _ _ f1 f2 f3 f4
    · cases e
  · cases e
/-- everything that is multiplied -/
def hMul : List D → Option D
  | [.node o .lst xs, .int k] => opRepL [.node o .lst xs, .int k]
  | ds => gMul ds
theorem opd_hMul : Opd X (binaryOp .Mult) hMul := Opd.or opd_gMul opd_repL fun ds d h => by
  unfold hMul at h
  split at h
  · exact .inr h
  · exact .inl h
end
end Pm
namespace Pm
open PySem PySem.Spec PyProof.Rows L2
section
variable {K : PySem.W.Frag} {mg : Str → Option Value} {W : WX} {Z Z' H H' : Hp} {S S' : Fp} {σ : Sl} {X : Cx} {A : Nat → Bool} {a b c e o : Expr} {pos : Pos} {fa fb fc f : M EV}
def keyP : Key → PyData
  | .inl i => .int i
  | .inr x => .str x
def pyF : V → PyData
  | .bl b => .bool b
  | .int i => .int i
  | .str x => .str x
  | _ => .none
theorem reads_flat {h : Heap} {v : V} {u : Value} (hf : flatV v = true) (r : RelV v u) : Reads h u (pyF v) [] := by
  cases v with
  | non => cases r; exact .none
  | bl b => cases r; exact .bool b
  | int i => obtain ⟨t, rfl⟩ := r; exact .int i t
  | str x => obtain ⟨t, rfl⟩ := r; exact .str x t
  | _ => cases hf
theorem pairsRead_of {h : Heap} : ∀ {kvs : List (Key × V)} {vs : List (Key × Value)}, KV kvs vs → (kvs.all fun kv => flatV kv.2) = true → PyProof.V.PairsRead h keyP vs (kvs.map fun kv => (keyP kv.1, pyF kv.2)) []
  | [], _, r, _ => by cases r; exact .nil
  | p :: kvs, _, r, hf => by
    rw [List.all_cons, Bool.and_eq_true] at hf
    cases r with
    | @cons a b as bs h1 h2 =>
      obtain ⟨k, u⟩ := b
      obtain ⟨k', v⟩ := p
      obtain ⟨e, ru⟩ := h1
      cases e
      exact .cons (as := []) (reads_flat hf.1 ru) (pairsRead_of h2 hf.2)
def dctP (ks : List Key) (vs : List V) : PyData := .dict ((ks.zip vs).map fun kv => (keyP kv.1, pyF kv.2))
def rReprD : List V → Hp → VK → Prop := fun xs H Q => ∃ a kvs, xs = [.ref a] ∧ Rd H a (.dK kvs) ∧ (kvs.all fun kv => flatV kv.2) = true ∧ PyData.showable (.dict (kvs.map fun kv => (keyP kv.1, pyF kv.2))) = true ∧
  PyData.depth (.dict (kvs.map fun kv => (keyP kv.1, pyF kv.2))) ≤ 60 ∧ (PyData.shown (.dict (kvs.map fun kv => (keyP kv.1, pyF kv.2)))).length ≤ sizeLine ∧ Q (.str (PyData.shown (.dict (kvs.map fun kv => (keyP kv.1, pyF kv.2))))) H
theorem call_reprD (hg : X.A.guards = some []) (hu : X.A.units + 64 < cLine) : CallR X (.builtin "repr") rReprD := by
  intro pins s σ H xs us Q I r h
  obtain ⟨a, kvs, rfl, hr, hf, hs, hp, hz, q⟩ := h
  obtain ⟨u, rfl, rx⟩ := vals1 r
  cases rx
  obtain ⟨_, hd, vs, rel, dd⟩ := dk_rd I.hok hr
  have rd : Reads s.heap (.ref a) (.dict (kvs.map fun kv => (keyP kv.1, pyF kv.2))) (a :: []) := PyProof.V.reads_dictOf (fun k key hk => by
    rcases keyIs_shape (show keyIs k key = true from hk) with ⟨i, t, rfl, rfl⟩ | ⟨x, t, rfl, rfl⟩
    · exact .int i t
    · exact .str x t) dd (pairsRead_of rel hf)
  refine repr_of_reads' rd hs (fun _ hm => ?_) hg (by omega) (fun _ _ e => e) (fun h' u tk k => ⟨.str _, H, I.kept k, ⟨_, rfl⟩, q⟩) hz
  rcases List.mem_cons.mp hm with e | e
  · rw [← e] at hd
    exact absurd hd (by simp)
  · cases e
theorem zip_all : ∀ (ks : List Key) (vs : List V), vs.all flatV = true → ((ks.zip vs).all fun kv => flatV kv.2) = true
  | [], _, _ => rfl
  | _ :: _, [], _ => rfl
  | k :: ks, v :: vs, h => by
    rw [List.all_cons, Bool.and_eq_true] at h
    rw [List.zip_cons_cons, List.all_cons, Bool.and_eq_true]
    exact ⟨h.1, zip_all ks vs h.2⟩
def isDct : D → Bool
  | .node _ (.dct _) _ => true
  | _ => false
def dItemP : D → Option PyData
  | .node _ (.dct ks) xs => match fltL xs with
    | some vs => if ks.length = vs.length then some (dctP ks vs) else none
    | none => none
  | d => (flt d).map pyF
def dItemsP : List D → Option (List PyData)
  | [] => some []
  | d :: ds => match dItemP d, dItemsP ds with
    | some p, some ps => some (p :: ps)
    | _, _ => none
/-- an item as it is read -/
inductive ItP (H : Hp) : V → PyData → Prop where
  | flat {v : V} : flatV v = true → ItP H v (pyF v)
  | dct {a : Addr} {kvs : List (Key × V)} : Rd H a (.dK kvs) → (kvs.all fun kv => flatV kv.2) = true → ItP H (.ref a) (.dict (kvs.map fun kv => (keyP kv.1, pyF kv.2)))
inductive ItPs (H : Hp) : List V → List PyData → Prop where
  | nil : ItPs H [] []
  | cons {v : V} {vs : List V} {p : PyData} {ps : List PyData} : ItP H v p → ItPs H vs ps → ItPs H (v :: vs) (p :: ps)
theorem dItemP_ok {K : PySem.W.Frag} {Z H : Hp} {S : Fp} (w : Sam Z H) {d : D} {v : V} {p : PyData} (h : dItemP d = some p) (r : Rep K Z H d v S) : ItP H v p := by
  unfold dItemP at h
  split at h
  · rename_i o ks xs
    split at h
    · rename_i vs' hv
      split at h
      · rename_i hl
        cases h
        cases o with
        | false =>
          obtain ⟨a, ys, rfl, c, rl⟩ := r
          obtain ⟨e1, f1⟩ := fltL_ok hv rl
          subst e1
          exact .dct (.inl (w.get _ _ c.2 nt_dK)) (zip_all _ _ f1)
        | true =>
          obtain ⟨a, ys, S', rfl, c, sa, na, sub, rl⟩ := r
          obtain ⟨e1, f1⟩ := fltL_ok hv rl
          subst e1
          exact .dct (.inl c.2) (zip_all _ _ f1)
      · cases h
    · cases h
  · obtain ⟨u, hu, rfl⟩ := Option.map_eq_some_iff.mp h
    obtain ⟨e1, f1⟩ := flt_ok hu r
    subst e1
    exact .flat f1
theorem dItemsP_ok {K : PySem.W.Frag} {Z H : Hp} (w : Sam Z H) : ∀ {ds : List D} {vs : List V} {ps : List PyData} {S : Fp}, dItemsP ds = some ps → RepL K Z H ds vs S → ItPs H vs ps
  | [], [], _, _, h, _ => by cases h; exact .nil
  | [], _ :: _, _, _, _, r => r.elim
  | _ :: _, [], _, _, _, r => r.elim
  | d :: ds, v :: vs, ps, _, h, ⟨_, _, _, _, _, r, q⟩ => by
    unfold dItemsP at h
    split at h
    · rename_i p ps' h1 h2
      cases h
      exact .cons (dItemP_ok w h1 r) (dItemsP_ok w h2 q)
    · cases h
def rReprT (K : PySem.W.Frag) : List V → Hp → VK → Prop := fun xs H Q => ∃ (a : Addr) (ys : List V) (ps : List PyData), xs = [.ref a] ∧ SqT K H a ys ∧ ItPs H ys ps ∧ PyData.showable (.tuple ps) = true ∧ PyData.depth (.tuple ps) ≤ 60 ∧ (PyData.shown (.tuple ps)).length ≤ sizeLine ∧ Q (.str (PyData.shown (.tuple ps))) H
section
variable {X : Cx} {pins : List (Addr × Obj)} {σ : L2.St} {H : Hp} {s : Shared}
theorem itp_read (I : Inv X pins σ H s) {v : V} {p : PyData} {u : Value} (h : ItP H v p) (r : RelV v u) : ∃ as, Reads s.heap u p as ∧ sysModules ∉ as := by
  cases h with
  | flat f => exact ⟨[], reads_flat f r, by simp⟩
  | @dct a kvs hr hf =>
    cases r
    obtain ⟨_, hd, vs, rel, dd⟩ := dk_rd I.hok hr
    have rd : Reads s.heap (.ref a) (.dict (kvs.map fun kv => (keyP kv.1, pyF kv.2))) (a :: []) := PyProof.V.reads_dictOf (fun k key hk => by
      rcases keyIs_shape (show keyIs k key = true from hk) with ⟨i, t, rfl, rfl⟩ | ⟨x, t, rfl, rfl⟩
      · exact .int i t
      · exact .str x t) dd (pairsRead_of rel hf)
    refine ⟨_, rd, fun hm => ?_⟩
    rcases List.mem_cons.mp hm with e | e
    · rw [← e] at hd
      exact absurd hd (by simp)
    · cases e
theorem itps_read (I : Inv X pins σ H s) : ∀ {vs : List V} {ps : List PyData} {us : List Value}, ItPs H vs ps → Vals vs us → ∃ as, ReadsAll s.heap us ps as ∧ sysModules ∉ as
  | _, _, _, .nil, .nil => ⟨[], .nil, by simp⟩
  | _, _, _, .cons h t, .cons r q => by
    obtain ⟨as, h1, h2⟩ := itp_read I h r
    obtain ⟨bs, h3, h4⟩ := itps_read I t q
    exact ⟨as ++ bs, .cons h1 h3, fun m => (List.mem_append.mp m).elim h2 h4⟩
theorem call_reprT (hg : X.A.guards = some []) (hu : X.A.units + 64 < cLine) : CallR X (.builtin "repr") (rReprT X.K) := by
  intro pins s σ H xs us Q I r h
  obtain ⟨a, ys, ps, rfl, hr, hi, hs, hp, hz, q⟩ := h
  obtain ⟨u, rfl, rx⟩ := vals1 r
  cases rx
  obtain ⟨its, rv, ⟨o, ho, hc, n, hd⟩, _⟩ := I.tuple hr
  obtain ⟨as, h1, h2⟩ := itps_read I hi rv
  have rd : Reads s.heap (.ref a) (.tuple ps) as := .tuple ho hc hd (by simpa using h1)
  exact repr_of_reads' rd hs (fun _ => h2) hg (by omega) (fun _ _ e => e) (fun h' u tk k => ⟨.str _, H, I.kept k, ⟨_, rfl⟩, q⟩) hz
end
def opReprT : List D → Option D
  | [.node _ .tup xs] => match dItemsP xs with
    | some ps => if PyData.showable (.tuple ps) = true ∧ PyData.depth (.tuple ps) ≤ 60 ∧ (PyData.shown (.tuple ps)).length ≤ cap then some (.str (PyData.shown (.tuple ps))) else none
    | none => none
  | _ => none
theorem snd_reprT : Snd X (rReprT X.K) opReprT := by
  refine snd_pure fun Z H S ds vs d Q w rb e k => ?_
  unfold opReprT at e
  split at e
  · rename_i o xs
    split at e
    · rename_i ps hps
      split at e
      · rename_i c
        obtain ⟨c1, c2, c3⟩ := c
        obtain ⟨v, rfl, rv⟩ := rb1 rb
        cases e
        obtain ⟨a, ys, rfl, c, rl⟩ := rep_tup w.same rv
        exact ⟨a, ys, ps, rfl, c, dItemsP_ok w.same hps rl, c1, c2, cap_le c3, k _ rfl⟩
      · cases e
    · cases e
  · cases e
/-- repr of everything -/
def opReprA : List D → Option D
  | [.node o (.dct ks) xs] => match fltL xs with
    | some vs => if ks.length = vs.length ∧ PyData.showable (dctP ks vs) = true ∧ PyData.depth (dctP ks vs) ≤ 60 ∧ (PyData.shown (dctP ks vs)).length ≤ cap then some (.str (PyData.shown (dctP ks vs))) else none
    | none => none
  | [.node o .tup xs] => if xs.any isDct = true then opReprT [.node o .tup xs] else opRepr [.node o .tup xs]
  | ds => opRepr ds
def rReprA (K : PySem.W.Frag) : List V → Hp → VK → Prop := fun xs H Q => rRepr K xs H Q ∨ rReprD xs H Q ∨ rReprT K xs H Q
theorem call_reprB (hg : X.A.guards = some []) (hu : X.A.units + 64 < cLine) : CallR X (.builtin "repr") (rReprA X.K) := by
  intro pins s σ H xs us Q I r h
  rcases h with h | h | h
  · exact call_reprA hg hu pins s σ H xs us Q I r h
  · exact call_reprD hg hu pins s σ H xs us Q I r h
  · exact call_reprT hg hu pins s σ H xs us Q I r h
theorem snd_reprA : Snd X (rReprA X.K) opReprA := by
  intro Z H S ds vs d Q w rb e k
  unfold opReprA at e
  split at e
  · rename_i o ks xs
    split at e
    · rename_i vs' hv
      split at e
      · rename_i c
        obtain ⟨c1, c2, c3, c4⟩ := c
        obtain ⟨v, rfl, rv⟩ := rb1 rb
        cases e
        have hh : ∃ a, v = .ref a ∧ H a = some (.dK (ks.zip vs')) ∧ vs'.all flatV = true := by
          cases o with
          | false =>
            obtain ⟨a, ys, rfl, c, rl⟩ := rv
            obtain ⟨e1, f1⟩ := fltL_ok hv rl
            subst e1
            exact ⟨a, rfl, w.same.get _ _ c.2 nt_dK, f1⟩
          | true =>
            obtain ⟨a, ys, S', rfl, c, sa, na, sub, rl⟩ := rv
            obtain ⟨e1, f1⟩ := fltL_ok hv rl
            subst e1
            exact ⟨a, rfl, c.2, f1⟩
        obtain ⟨a, rfl, ha, hf⟩ := hh
        refine .inr (.inl ⟨a, ks.zip vs', rfl, .inl ha, zip_all _ _ hf, c2, c3, cap_le c4, k _ _ _ Fp0 w.nil (Same.refl H) (fun _ _ x => x) rfl⟩)
      · cases e
    · cases e
  · split at e
    · exact .inr (.inr (snd_reprT Z H S _ vs d Q w rb e k))
    · exact .inl (snd_repr Z H S _ vs d Q w rb e k)
  · exact .inl (snd_repr Z H S ds vs d Q w rb e k)
end
end Pm
namespace Pm
open PySem PySem.Spec PyProof.Rows L2
/-- of at most e bits -/
def Sm (e : Nat) (x : Int) : Prop := x.natAbs < 2 ^ e
theorem Sm.mono {e f : Nat} {x : Int} (h : Sm e x) (l : e ≤ f) : Sm f x := Nat.lt_of_lt_of_le h (Nat.pow_le_pow_right (by decide) l)
theorem Sm.between {e : Nat} {x y : Int} (h : Sm e y) (h0 : 0 ≤ x) (h1 : x ≤ y) : Sm e x := by unfold Sm at *; omega
theorem Sm.mod {e : Nat} {x m : Int} (h : Sm e m) (hm : 0 < m) : Sm e (x % m) := h.between (Int.emod_nonneg _ (by omega)) (Int.le_of_lt (Int.emod_lt_of_pos _ hm))
theorem Sm.divOk {e : Nat} {x : Int} (h : Sm e x) (l : e ≤ 9000) : divOk x = true := by
  refine decide_eq_true ?_
  by_cases hx : x.natAbs = 0
  · rw [hx]; decide
  · exact (Nat.log2_lt hx).mpr (h.mono l)
theorem eq_int' (x y : Int) : opEq [.int x, .int y] = some (.bl (x == y)) := rfl
theorem comp_of {own : List Nat} {s : M (List D)} {g : Tg} {c : M Bool} {e : M EV} {ρ ρ1 ρ2 : Env} {ds acc : List D} (hs : s ρ = .ok ds ρ1) (hc : compIt own g c e ds (wipeE ρ1 own) [] = .ok acc ρ2) : comp own s g c e ρ = .ok (.val (.lst true acc)) (backE ρ1 ρ2 own) := by
  unfold comp bnd
  simp only [hs, hc]
theorem forS_of {s : M (List D)} {g : Tg} {b : M Fl} {ρ ρ1 : Env} {ds : List D} (hs : s ρ = .ok ds ρ1) : forS s g b ρ = forIt g b ds ρ1 := by
  unfold forS bnd
  simp only [hs]
theorem src_r1 {f : M (List EV)} {ρ ρ1 : Env} {es : List EV} {n : Nat} (h : f ρ = .ok es ρ1) (hp : peeks ρ1 es = some [.int n]) (hn : n ≤ 1000000) : srcR1 f ρ = .ok (rangeD 0 n) ρ1 := by
  have h62 : sm62 (n : Int) = true := sm62_of ⟨by omega, by omega⟩
  unfold srcR1 bnd
  simp only [h, hp, h62, if_true, Int.toNat_natCast]
end Pm
namespace Pm
open PySem PySem.Spec PyProof.Rows L2
end Pm
namespace Pm
open PySem PySem.Spec PyProof.Rows L2
end Pm
namespace Pm
open PySem PySem.Spec PyProof.Rows L2
/-- a small thing: at most n deep, numbers of at most two hundred bits -/
def low : Nat → D → Bool
  | _, .non => true
  | _, .bl _ => true
  | _, .int i => decide (i.natAbs.log2 < 200)
  | _, .str x => PyData.strOk x
  | n + 1, .node _ .lst xs => xs.all (low n)
  | n + 1, .node _ .tup xs => xs.all (low n)
  | _, _ => false
theorem low_shp : ∀ (n : Nat) (d : D), low n d = true → shp n d = true
  | _, .non, _ => by unfold shp; rfl
  | _, .bl _, _ => by unfold shp; rfl
  | _, .int _, _ => by unfold shp; rfl
  | n, .str x, h => by cases n <;> simpa [low, shp] using h
  | n, .op _, h => by cases n <;> simp [low] at h
  | 0, .node _ k xs, h => by cases k <;> simp [low] at h
  | n + 1, .node o k xs, h => by
    cases k with
    | lst => simp only [low, List.all_eq_true] at h; simp only [shp, List.all_eq_true]; exact fun x hx => low_shp n x (h x hx)
    | tup => simp only [low, List.all_eq_true] at h; simp only [shp, List.all_eq_true]; exact fun x hx => low_shp n x (h x hx)
    | scr => simp [low] at h
    | dct ks => simp [low] at h
    | obj C fs => simp [low] at h
    | ins C fs => simp [low] at h
theorem low_shw : ∀ (n : Nat) (d : D), low n d = true → shw n d = true
  | _, .non, _ => by unfold shw; rfl
  | _, .bl _, _ => by unfold shw; rfl
  | n, .int i, h => by
    have h' : i.natAbs.log2 < 200 := by cases n <;> simpa [low] using h
    cases n <;> exact decide_eq_true (Nat.lt_trans h' (by decide))
  | n, .str x, h => by unfold shw; rfl
  | n, .op _, h => by cases n <;> simp [low] at h
  | 0, .node _ k xs, h => by cases k <;> simp [low] at h
  | n + 1, .node o k xs, h => by
    cases k with
    | lst => simp only [low, List.all_eq_true] at h; simp only [shw, List.all_eq_true]; exact fun x hx => low_shw n x (h x hx)
    | tup => simp only [low, List.all_eq_true] at h; simp only [shw, List.all_eq_true]; exact fun x hx => low_shw n x (h x hx)
    | scr => simp [low] at h
    | dct ks => simp [low] at h
    | obj C fs => simp [low] at h
    | ins C fs => simp [low] at h
theorem low_mono : ∀ {n m : Nat} {d : D}, low n d = true → n ≤ m → low m d = true
  | _, _, .non, _, _ => by unfold low; rfl
  | _, _, .bl _, _, _ => by unfold low; rfl
  | n, m, .int i, h, _ => by cases n <;> cases m <;> simpa [low] using h
  | n, m, .str x, h, _ => by cases n <;> cases m <;> simpa [low] using h
  | n, _, .op _, h, _ => by cases n <;> simp [low] at h
  | 0, _, .node _ k xs, h, _ => by cases k <;> simp [low] at h
  | n + 1, 0, .node _ k xs, _, l => by omega
  | n + 1, m + 1, .node o k xs, h, l => by
    cases k with
    | lst => simp only [low, List.all_eq_true] at h ⊢; exact fun x hx => low_mono (h x hx) (by omega)
    | tup => simp only [low, List.all_eq_true] at h ⊢; exact fun x hx => low_mono (h x hx) (by omega)
    | scr => simp [low] at h
    | dct ks => simp [low] at h
    | obj C fs => simp [low] at h
    | ins C fs => simp [low] at h
theorem int_short {i : Int} (h : i.natAbs.log2 < 200) : (PyData.shown (.int i)).length ≤ 201 := by
  have e := int_text_length_le (a := i) (k := 200) (by decide) h
  show (Str.ofString (toString i)).length ≤ 201
  rw [PySem.ofString_length]
  exact e
theorem leaves_all (B : Nat) : ∀ xs : List D, (∀ x ∈ xs, (toP x).leavesShort B = true) → PyData.leavesShortAll B (toPL xs) = true
  | [], _ => rfl
  | x :: xs, h => by
    simp only [toPL, PyData.leavesShortAll]
    rw [h x List.mem_cons_self, leaves_all B xs fun y hy => h y (List.mem_cons_of_mem _ hy)]
    rfl
theorem low_leaves : ∀ (n : Nat) (d : D), low n d = true → (toP d).leavesShort 201 = true
  | _, .non, _ => rfl
  | _, .bl _, _ => rfl
  | n, .int i, h => by
    have h' : i.natAbs.log2 < 200 := by cases n <;> simpa [low] using h
    exact decide_eq_true (int_short h')
  | n, .str x, h => by
    have h' : PyData.strOk x = true := by cases n <;> simpa [low] using h
    have h0 : x.cps.all (· < 0x110000) = true := h'
    show (x.cps.toList.all fun c => decide (c < 16 ^ 8)) = true
    rw [List.all_eq_true]
    intro c hc
    rw [Array.all_eq_true'] at h0
    have := h0 c (by simpa using hc)
    simp only [decide_eq_true_eq] at this ⊢
    exact Nat.lt_trans this (by decide)
  | n, .op _, h => by cases n <;> simp [low] at h
  | 0, .node _ k xs, h => by cases k <;> simp [low] at h
  | n + 1, .node o k xs, h => by
    cases k with
    | lst => simp only [low, List.all_eq_true] at h; simp only [toP, PyData.leavesShort]; exact leaves_all _ xs fun x hx => low_leaves n x (h x hx)
    | tup => simp only [low, List.all_eq_true] at h; simp only [toP, PyData.leavesShort]; exact leaves_all _ xs fun x hx => low_leaves n x (h x hx)
    | scr => simp [low] at h
    | dct ks => simp [low] at h
    | obj C fs => simp [low] at h
    | ins C fs => simp [low] at h
/-- how much a thing holds -/
def mass (d : D) : Nat := (toP d).bulk
def massL (xs : List D) : Nat := PyData.bulkAll (toPL xs)
theorem mass_lst (o : Bool) (xs : List D) : mass (.node o .lst xs) = massL xs := rfl
theorem massL_nil : massL [] = 0 := rfl
theorem massL_cons (x : D) (xs : List D) : massL (x :: xs) = mass x + 1 + massL xs := rfl
theorem mass_non : mass .non = 0 := rfl
theorem mass_int (i : Int) : mass (.int i) = 0 := rfl
theorem mass_str (x : Str) : mass (.str x) = x.cps.size := rfl
theorem massL_le {c : Nat} : ∀ {xs : List D}, (∀ x ∈ xs, mass x ≤ c) → massL xs ≤ xs.length * (c + 1)
  | [], _ => by rw [massL_nil]; exact Nat.zero_le _
  | x :: xs, h => by
    rw [massL_cons, List.length_cons, Nat.add_mul]
    have := h x List.mem_cons_self
    have := massL_le (xs := xs) fun y hy => h y (List.mem_cons_of_mem _ hy)
    omega
theorem repr_low {n : Nat} {d : D} (h : low n d = true) (hn : n ≤ 60) (hm : mass d ≤ 4000) : opRepr [d] = some (.str (reprD d)) := by
  have h60 := low_mono h hn
  have h1 := low_shp 60 d h60
  have h2 := low_shw 60 d h60
  have h3 := PyData.shown_le_bulk 201 (by decide) (toP d) (low_leaves 60 d h60)
  have h4 : (reprD d).length ≤ cap := by
    show (toP d).shown.length ≤ 1000000
    have : (toP d).bulk ≤ 4000 := hm
    omega
  unfold opRepr
  split
  · rename_i i e
    obtain rfl := List.singleton_inj.mp e
    rw [if_pos h2]
  · rename_i d' _ e
    obtain rfl := List.singleton_inj.mp e
    rw [h1, h2, decide_eq_true h4]
    rfl
  · rename_i h' 
    exact absurd rfl (h' d)
theorem reprA_low {n : Nat} {d : D} (h : low n d = true) (hn : n ≤ 60) (hm : mass d ≤ 4000) : opReprA [d] = some (.str (reprD d)) := by
  rw [← repr_low h hn hm]
  unfold opReprA
  split
  · rename_i o ks xs e
    obtain rfl := List.singleton_inj.mp e
    cases n <;> simp [low] at h
  · rename_i o xs e
    obtain rfl := List.singleton_inj.mp e
    have hx : xs.any isDct = false := by
      cases n with
      | zero => simp [low] at h
      | succ n =>
        rw [List.any_eq_false]
        intro x hx
        have hl := List.all_eq_true.mp h x hx
        cases x with
        | node o k ys => cases k <;> cases n <;> simp [low, isDct] at hl ⊢
        | _ => simp [isDct]
    rw [hx]
    rfl
  · rename_i e
    rfl
def isStr : D → Bool
  | .str _ => true
  | _ => false
theorem isi_str {d : D} (h : (tyN d).isSome = true) : opIsi [d, .op (.ty "str")] = some (.bl (isStr d)) := by
  cases d with
  | node o k xs => cases k <;> first | rfl | cases h
  | op v => cases h
  | _ => rfl
theorem plainL_of {xs : List D} (h : ∀ x ∈ xs, x.plain = true) : plainL xs = true := by
  rw [plainL_all, List.all_eq_true]
  exact h
theorem hAdd_ii (i j : Int) : hAdd [.int i, .int j] = some (.int (i + j)) := rfl
theorem hAdd_ss {x y : Str} (h : x.length + y.length ≤ cap) : hAdd [.str x, .str y] = some (.str (x ++ y)) := by
  show gAddS [.str x, .str y] = _
  unfold gAddS
  simp only [if_pos h]
theorem opGtA_ii (i j : Int) : opGtA [.int i, .int j] = some (.bl (decide (j < i))) := rfl
theorem opLtA_ii (i j : Int) : opLtA [.int i, .int j] = some (.bl (decide (i < j))) := rfl
theorem opLeA_ii (i j : Int) : opLeA [.int i, .int j] = some (.bl (decide (i ≤ j))) := rfl
theorem ne_nil (o p : Bool) {xs : List D} (h : ∀ x ∈ xs, shp 59 x = true) : opNe [.node o .lst xs, .node p .lst []] = some (.bl (decide (xs ≠ []))) := by
  have h1 : shp 60 (.node o .lst xs) = true := by
    show xs.all (shp 59) = true
    rw [List.all_eq_true]
    exact h
  have h2 : shp 60 (.node p .lst []) = true := rfl
  show (if (shp 60 (.node o .lst xs) && shp 60 (.node p .lst [])) = true then some (D.bl !deq (.node o .lst xs) (.node p .lst [])) else none) = _
  rw [h1, h2]
  cases xs <;> rfl
theorem ne_ss (x y : Str) : opNe [.str x, .str y] = some (.bl (!(x == y))) := rfl
theorem eq_ss (x y : Str) : opEq [.str x, .str y] = some (.bl (x == y)) := rfl
end Pm
namespace Pm
open PySem PySem.Spec PyProof.Rows L2
theorem max2_ii (i j : Int) : opMax2 [.int i, .int j] = some (.int (max i j)) := by
  show some (D.int (if j > i then j else i)) = _
  congr 2
  split <;> omega
theorem min2_ii (i j : Int) : opMin2 [.int i, .int j] = some (.int (min i j)) := by
  show some (D.int (if j < i then j else i)) = _
  congr 2
  split <;> omega
/-- a whole number or None -/
def oD : Option Int → D
  | none => .non
  | some i => .int i
theorem oD_plain (o : Option Int) : (oD o).plain = true := by cases o <;> rfl
end Pm
namespace Pm
open PySem PySem.Spec PyProof.Rows L2
/-- m comes out without an exception, and Q holds of what it gives -/
@[irreducible] def Wp {α : Type} (m : M α) (ρ : Env) (Q : α → Env → Prop) : Prop := match m ρ with
  | .ok a ρ' => Q a ρ'
  | _ => False
theorem Wp.ok {α : Type} {m : M α} {ρ : Env} {Q : α → Env → Prop} (h : Wp m ρ Q) : ∃ a ρ', m ρ = .ok a ρ' ∧ Q a ρ' := by
  unfold Wp at h
  split at h
  · rename_i a ρ' e
    exact ⟨a, ρ', e, h⟩
  · exact h.elim
theorem Wp.of {α : Type} {m : M α} {ρ ρ' : Env} {a : α} {Q : α → Env → Prop} (e : m ρ = .ok a ρ') (h : Q a ρ') : Wp m ρ Q := by
  unfold Wp
  rw [e]
  exact h
theorem Wp.mono {α : Type} {m : M α} {ρ : Env} {Q R : α → Env → Prop} (h : Wp m ρ Q) (i : ∀ a ρ', Q a ρ' → R a ρ') : Wp m ρ R := by
  obtain ⟨a, ρ', e, q⟩ := h.ok
  exact .of e (i a ρ' q)
theorem wp_seq {a b : M Fl} {ρ : Env} {Q : Fl → Env → Prop} (h : ∀ K : Fl → Env → Prop, (∀ ρ', Wp b ρ' Q → K .nx ρ') → (∀ d ρ', Q (.rt d) ρ' → K (.rt d) ρ') → (∀ ρ', Q .bk ρ' → K .bk ρ') → (∀ ρ', Q .ct ρ' → K .ct ρ') → Wp a ρ K) : Wp (seq a b) ρ Q := by
  have h' := h (fun f ρ' => match f with | .nx => Wp b ρ' Q | f => Q f ρ') (fun _ q => q) (fun _ _ q => q) (fun _ q => q) (fun _ q => q)
  obtain ⟨f, ρ', e, q⟩ := h'.ok
  cases f with
  | nx =>
    obtain ⟨f2, ρ2, e2, q2⟩ := Wp.ok q
    exact .of (a := f2) (ρ' := ρ2) (by rw [seq_ok e, e2]) q2
  | bk => exact .of (a := .bk) (ρ' := ρ') (by unfold seq bnd; rw [e]; rfl) q
  | ct => exact .of (a := .ct) (ρ' := ρ') (by unfold seq bnd; rw [e]; rfl) q
  | rt d => exact .of (a := .rt d) (ρ' := ρ') (by unfold seq bnd; rw [e]; rfl) q
theorem wp_end {a : M Fl} {ρ : Env} {Q : Fl → Env → Prop} (h : ∀ K : Fl → Env → Prop, (∀ ρ', Q .nx ρ' → K .nx ρ') → (∀ d ρ', Q (.rt d) ρ' → K (.rt d) ρ') → (∀ ρ', Q .bk ρ' → K .bk ρ') → (∀ ρ', Q .ct ρ' → K .ct ρ') → Wp a ρ K) : Wp a ρ Q :=
  h Q (fun _ q => q) (fun _ _ q => q) (fun _ q => q) fun _ q => q
theorem wp_ite {c : M Bool} {a b : M Fl} {ρ : Env} {Q : Fl → Env → Prop} (h : Wp c ρ fun t ρ' => (t = true → Wp a ρ' Q) ∧ (t = false → Wp b ρ' Q)) : Wp (Pm.ite c a b) ρ Q := by
  obtain ⟨t, ρ', e, q1, q2⟩ := h.ok
  cases t with
  | true =>
    obtain ⟨f, ρ2, e2, q⟩ := (q1 rfl).ok
    exact .of (by rw [ite_T e, e2]) q
  | false =>
    obtain ⟨f, ρ2, e2, q⟩ := (q2 rfl).ok
    exact .of (by rw [ite_F e, e2]) q
/-- what a turn leaves -/
def Tn (J : Env → Prop) (Q : Fl → Env → Prop) : Fl → Env → Prop
  | .nx, ρ => J ρ
  | .ct, ρ => J ρ
  | .bk, ρ => Q .nx ρ
  | .rt d, ρ => Q (.rt d) ρ
theorem wp_forIt {g : Tg} {b : M Fl} {Q : Fl → Env → Prop} : ∀ {ds : List D} (I : Nat → Env → Prop),
    (∀ (j : Nat) (d : D) (ρ : Env), ds[j]? = some d → I j ρ → ∃ ρ1, g d ρ = .ok () ρ1 ∧ Wp b ρ1 (Tn (I (j + 1)) Q)) → (∀ ρ, I ds.length ρ → Q .nx ρ) → ∀ ρ, I 0 ρ → Wp (forIt g b ds) ρ Q
  | [], I, _, he, ρ, h0 => .of (a := .nx) (ρ' := ρ) rfl (he ρ h0)
  | d :: ds, I, hs, he, ρ, h0 => by
    obtain ⟨ρ1, e1, w⟩ := hs 0 d ρ rfl h0
    obtain ⟨f, ρ2, e2, q⟩ := w.ok
    have rest : I 1 ρ2 → Wp (forIt g b ds) ρ2 Q := fun i1 => wp_forIt (fun j => I (j + 1)) (fun j d' ρ' hd hi => hs (j + 1) d' ρ' (by simpa using hd) hi) (fun ρ' hi => he ρ' hi) ρ2 i1
    cases f with
    | nx =>
      obtain ⟨f3, ρ3, e3, q3⟩ := (rest q).ok
      exact .of (a := f3) (ρ' := ρ3) (by rw [forIt]; simp only [e1]; unfold bnd; rw [e2]; exact e3) q3
    | ct =>
      obtain ⟨f3, ρ3, e3, q3⟩ := (rest q).ok
      exact .of (a := f3) (ρ' := ρ3) (by rw [forIt]; simp only [e1]; unfold bnd; rw [e2]; exact e3) q3
    | bk => exact .of (Q := Q) (a := .nx) (ρ' := ρ2) (by rw [forIt]; simp only [e1]; unfold bnd; rw [e2]; rfl) (show Q .nx ρ2 from q)
    | rt d' => exact .of (Q := Q) (a := .rt d') (ρ' := ρ2) (by rw [forIt]; simp only [e1]; unfold bnd; rw [e2]; rfl) (show Q (.rt d') ρ2 from q)
/-- for: the invariant I speaks of the turns done -/
theorem wp_for {s : M (List D)} {g : Tg} {b : M Fl} {Q : Fl → Env → Prop} {ρ ρ1 : Env} {ds : List D} (hs : s ρ = .ok ds ρ1) (I : Nat → Env → Prop) (h0 : I 0 ρ1)
    (ht : ∀ (j : Nat) (d : D) (ρ : Env), ds[j]? = some d → I j ρ → ∃ ρ1, g d ρ = .ok () ρ1 ∧ Wp b ρ1 (Tn (I (j + 1)) Q)) (he : ∀ ρ, I ds.length ρ → Q .nx ρ) : Wp (forS s g b) ρ Q := by
  obtain ⟨f, ρ2, e, q⟩ := (wp_forIt I ht he ρ1 h0).ok
  exact .of (by rw [forS_of hs, e]) q
/-- while: the invariant I bears a measure -/
theorem wp_whl {c : M Bool} {b : M Fl} {Q : Fl → Env → Prop} (I : Nat → Env → Prop)
    (ht : ∀ (n : Nat) (ρ : Env), I n ρ → Wp c ρ fun t ρ1 => (t = true → Wp b ρ1 (Tn (fun ρ2 => ∃ m, m < n ∧ I m ρ2) Q)) ∧ (t = false → Q .nx ρ1)) : ∀ (n : Nat) (ρ : Env), I n ρ → Wp (whl c b) ρ Q := by
  intro n
  induction n using Nat.strongRecOn with
  | ind n ih =>
    intro ρ hi
    obtain ⟨t, ρ1, e1, q1, q2⟩ := (ht n ρ hi).ok
    cases t with
    | false => exact .of (a := .nx) (ρ' := ρ1) (whl_F e1) (q2 rfl)
    | true =>
      obtain ⟨f, ρ2, e2, q⟩ := (q1 rfl).ok
      cases f with
      | nx =>
        obtain ⟨m, hm, im⟩ := q
        obtain ⟨f3, ρ3, e3, q3⟩ := (ih m hm ρ2 im).ok
        exact .of (a := f3) (ρ' := ρ3) (by rw [whl_T e1 e2, e3]) q3
      | ct =>
        obtain ⟨m, hm, im⟩ := q
        obtain ⟨f3, ρ3, e3, q3⟩ := (ih m hm ρ2 im).ok
        exact .of (a := f3) (ρ' := ρ3) (by rw [whl_C e1 e2, e3]) q3
      | bk => exact .of (Q := Q) (a := .nx) (ρ' := ρ2) (by rw [whl_eq, e1]; simp only [e2]) (show Q .nx ρ2 from q)
      | rt d => exact .of (Q := Q) (a := .rt d) (ρ' := ρ2) (by rw [whl_eq, e1]; simp only [e2]) (show Q (.rt d) ρ2 from q)
/-- what a def comes to -/
def Wf (S : FSem) (as : List D) (Q : D → List D → Prop) : Prop := ∃ d bs, S as = .ret d bs ∧ Q d bs
/-- how a body ends a def -/
def Fin (reb : List Nat) (ds : List D) (Q : D → List D → Prop) : Fl → Env → Prop
  | .nx, ρ => ∃ as, argsBack reb ρ 0 (reFrz reb 0 ds) = some as ∧ Q .non as
  | .rt d, ρ => ∃ as, argsBack reb ρ 0 (reFrz reb 0 ds) = some as ∧ Q d as
  | _, _ => False
theorem wf_mkF {n m : Nat} {reb : List Nat} {b : M Fl} {ds : List D} {Q : D → List D → Prop} (h : Wp b ((reFrz reb 0 ds).map some ++ List.replicate (m - n) none) (Fin reb ds Q)) (hl : ds.length = n ∧ n ≤ m := by exact ⟨rfl, by decide⟩) : Wf (mkF n m reb b) ds Q := by
  obtain ⟨f, ρ, e, q⟩ := h.ok
  cases f with
  | nx =>
    obtain ⟨as, ha, qa⟩ := q
    exact ⟨.non, as, by unfold mkF; rw [if_pos hl, e]; simp only [ha], qa⟩
  | rt d =>
    obtain ⟨as, ha, qa⟩ := q
    exact ⟨d, as, by unfold mkF; rw [if_pos hl, e]; simp only [ha], qa⟩
  | bk => exact q.elim
  | ct => exact q.elim
/-- a comprehension: the invariant I speaks of the turns done, the slots and what is made -/
theorem compIt_wp {own : List Nat} {g : Tg} {c : M Bool} {e : M EV} : ∀ {ds : List D} (I : Nat → Env → List D → Prop) (acc : List D) (ρ : Env), I 0 ρ acc → acc.length + ds.length ≤ cap →
    (∀ (j : Nat) (d : D) (ρ : Env) (acc : List D), ds[j]? = some d → I j ρ acc → ∃ ρ1, g d ρ = .ok () ρ1 ∧ Wp c ρ1 fun t ρ2 => (t = true → Wp e ρ2 fun ev ρ3 => ∃ d' ρ4, use1 ev ρ3 = .ok d' ρ4 ∧ I (j + 1) (wipeE ρ4 own) (acc ++ [d'])) ∧ (t = false → I (j + 1) (wipeE ρ2 own) acc)) →
    ∃ acc' ρ', compIt own g c e ds ρ acc = .ok acc' ρ' ∧ I ds.length ρ' acc'
  | [], I, acc, ρ, h0, _, _ => ⟨acc, ρ, rfl, h0⟩
  | d :: ds, I, acc, ρ, h0, hl, ht => by
    rw [List.length_cons] at hl
    obtain ⟨ρ1, e1, w⟩ := ht 0 d ρ acc rfl h0
    obtain ⟨t, ρ2, e2, q1, q2⟩ := w.ok
    have ht' : ∀ (j : Nat) (d : D) (ρ : Env) (acc : List D), ds[j]? = some d → I (j + 1) ρ acc → _ := fun j d' ρ' acc' hd hi => ht (j + 1) d' ρ' acc' (by simpa using hd) hi
    cases t with
    | true =>
      obtain ⟨ev, ρ3, e3, d', ρ4, e4, hi⟩ := (q1 rfl).ok
      obtain ⟨acc', ρ', e5, q⟩ := compIt_wp (fun j => I (j + 1)) (acc ++ [d']) (wipeE ρ4 own) hi (by rw [List.length_append, List.length_singleton]; omega) ht'
      exact ⟨acc', ρ', by rw [compIt]; simp only [e1, e2, e3, e4]; rw [if_pos (by omega), e5], q⟩
    | false =>
      obtain ⟨acc', ρ', e5, q⟩ := compIt_wp (fun j => I (j + 1)) acc (wipeE ρ2 own) (q2 rfl) (by omega) ht'
      exact ⟨acc', ρ', by rw [compIt]; simp only [e1, e2]; rw [e5], q⟩
theorem comp_wp {own : List Nat} {s : M (List D)} {g : Tg} {c : M Bool} {e : M EV} {ρ ρ1 : Env} {ds : List D} (hs : s ρ = .ok ds ρ1) (I : Nat → Env → List D → Prop) (h0 : I 0 (wipeE ρ1 own) []) (hl : ds.length ≤ cap)
    (ht : ∀ (j : Nat) (d : D) (ρ : Env) (acc : List D), ds[j]? = some d → I j ρ acc → ∃ ρ1, g d ρ = .ok () ρ1 ∧ Wp c ρ1 fun t ρ2 => (t = true → Wp e ρ2 fun ev ρ3 => ∃ d' ρ4, use1 ev ρ3 = .ok d' ρ4 ∧ I (j + 1) (wipeE ρ4 own) (acc ++ [d'])) ∧ (t = false → I (j + 1) (wipeE ρ2 own) acc)) :
    ∃ acc ρ', comp own s g c e ρ = .ok (.val (.lst true acc)) (backE ρ1 ρ' own) ∧ I ds.length ρ' acc := by
  obtain ⟨acc, ρ', e, q⟩ := compIt_wp I [] _ h0 (by rw [List.length_nil]; omega) ht
  exact ⟨acc, ρ', comp_of hs e, q⟩
/-- a comprehension that leaves the slots: each item gives one or none -/
theorem comp_fm {own : List Nat} {s : M (List D)} {g : Tg} {c : M Bool} {e : M EV} {ρ ρ1 : Env} {ds : List D} (F : D → Option D) (hs : s ρ = .ok ds ρ1) (hw : wipeE ρ1 own = ρ1) (hb : backE ρ1 ρ1 own = ρ1) (hl : ds.length ≤ cap)
    (ht : ∀ d ∈ ds, ∃ ρ2, g d ρ1 = .ok () ρ2 ∧ Wp c ρ2 fun t ρ3 => (t = true → Wp e ρ3 fun ev ρ4 => ∃ d' ρ5, use1 ev ρ4 = .ok d' ρ5 ∧ F d = some d' ∧ wipeE ρ5 own = ρ1) ∧ (t = false → F d = none ∧ wipeE ρ3 own = ρ1)) :
    comp own s g c e ρ = .ok (.val (.lst true (ds.filterMap F))) ρ1 := by
  obtain ⟨acc, ρ', e1, rfl, rfl⟩ := comp_wp hs (fun j ρ acc => ρ = ρ1 ∧ acc = (ds.take j).filterMap F) ⟨hw, by simp⟩ hl fun j d ρ acc hd ⟨er, ea⟩ => by
    subst er
    obtain ⟨ρ2, e2, w⟩ := ht d (List.mem_of_getElem? hd)
    have tk : ds.take (j + 1) = ds.take j ++ [d] := by
      rw [List.take_add_one, hd]
      rfl
    refine ⟨ρ2, e2, w.mono fun t ρ3 ⟨q1, q2⟩ => ⟨fun h => (q1 h).mono fun ev ρ4 ⟨d', ρ5, e5, hF, hw5⟩ => ⟨d', ρ5, e5, hw5, ?_⟩, fun h => ⟨(q2 h).2, ?_⟩⟩⟩
    · rw [tk, List.filterMap_append, ea]
      simp [hF]
    · rw [tk, List.filterMap_append, ea]
      simp [(q2 h).1]
  rw [e1, hb, List.take_length]
/-- the same without tests -/
theorem comp_map {own : List Nat} {s : M (List D)} {g : Tg} {c : M Bool} {e : M EV} {ρ ρ1 : Env} {ds : List D} (F : D → D) (hs : s ρ = .ok ds ρ1) (hw : wipeE ρ1 own = ρ1) (hb : backE ρ1 ρ1 own = ρ1) (hl : ds.length ≤ cap)
    (ht : ∀ d ∈ ds, ∃ ρ2, g d ρ1 = .ok () ρ2 ∧ Wp c ρ2 fun t ρ3 => t = true ∧ Wp e ρ3 fun ev ρ4 => ∃ ρ5, use1 ev ρ4 = .ok (F d) ρ5 ∧ wipeE ρ5 own = ρ1) :
    comp own s g c e ρ = .ok (.val (.lst true (ds.map F))) ρ1 := by
  have h := comp_fm (own := own) (g := g) (c := c) (e := e) (fun d => some (F d)) hs hw hb hl fun d hd => by
    obtain ⟨ρ2, e2, w⟩ := ht d hd
    refine ⟨ρ2, e2, w.mono fun t ρ3 ⟨h1, q⟩ => ⟨fun _ => q.mono fun ev ρ4 ⟨ρ5, e5, hw5⟩ => ⟨_, ρ5, e5, rfl, hw5⟩, fun h2 => by rw [h1] at h2; cases h2⟩⟩
  rw [h]
  congr 4
  induction ds with
  | nil => rfl
  | cons d ds ih => simp
end Pm
namespace Pm
open PySem PySem.Spec PyProof.Rows L2
theorem tuple_mul1 (l : Addr) (items : Array Value) (n : Nat) (dd : Option Addr) (sl : Array (Option Value)) (x : Int) (u : Tok) (hx : x = 1) :
    Meets (Builtin.«tuple.__mul__» ⟨[.ref l, .int x u], []⟩) (fun _ R s => s.heap.get? l = some { cls := .type "tuple", dict := dd, data := .seq items n, slots := sl } ∧
      R (.ok (.ret (Value.ref l))) s) :=
  .of_wp fun prog w A R s h => by
    obtain ⟨hp, g, d, tk, os⟩ := s
    obtain ⟨hl, h⟩ := h
    have f1 := AutoSeq1.idx_int
    have c0 : (decide (x < -(2 ^ 63)) || decide (x ≥ 2 ^ 63)) = false := by rw [decide_eq_false (by omega), decide_eq_false (by omega)] <;> rfl
    have c1 : (items.isEmpty || x == 1) = true := by rw [hx, Bool.or_eq_true]; exact .inr rfl
    wp_walk using wpAny_loadPart' hl
    repeat (first
      | (refine wpAny_ite_false (decide_eq_false (by rw [c0]; exact Bool.false_ne_true)) ?_; wp_walk using wpAny_loadPart' hl)
      | (refine wpAny_ite_true (decide_eq_true (by rw [c1])) ?_; wp_walk using wpAny_loadPart' hl))
    exact ⟨_, rfl, h⟩
theorem tuple_mul0 (l : Addr) (items : Array Value) (n : Nat) (dd : Option Addr) (sl : Array (Option Value)) (x : Int) (u : Tok) (h0 : x ≤ 0) (h1 : -(2 ^ 63) ≤ x) (hne : items.isEmpty = false) :
    Meets (Builtin.«tuple.__mul__» ⟨[.ref l, .int x u], []⟩) (fun _ R s => s.heap.get? l = some { cls := .type "tuple", dict := dd, data := .seq items n, slots := sl } ∧
      R (.ok (.ret (Value.ref s.heap.objs.size))) { s with heap := s.heap.push { cls := Value.type "tuple", data := Data.seq #[] }, toks := s.toks }) :=
  .of_wp fun prog w A R s h => by
    obtain ⟨hp, g, d, tk, os⟩ := s
    obtain ⟨hl, h⟩ := h
    have f1 := AutoSeq1.idx_int
    have c0 : (decide (x < -(2 ^ 63)) || decide (x ≥ 2 ^ 63)) = false := by rw [decide_eq_false (by omega), decide_eq_false (by omega)] <;> rfl
    have c1 : (items.isEmpty || x == 1) = false := by rw [hne, Bool.false_or]; exact beq_eq_false_iff_ne.mpr (by omega)
    have c2 : (decide (x ≤ 0) || items.isEmpty) = true := by rw [decide_eq_true h0] <;> rfl
    wp_walk using wpAny_loadPart' hl
    repeat (first
      | (refine wpAny_ite_false (decide_eq_false (by rw [c0]; exact Bool.false_ne_true)) ?_; wp_walk using wpAny_loadPart' hl)
      | (refine wpAny_ite_false (decide_eq_false (by rw [c1]; exact Bool.false_ne_true)) ?_; wp_walk using wpAny_loadPart' hl)
      | (refine wpAny_ite_true (decide_eq_true (by rw [c2])) ?_; wp_walk using wpAny_loadPart' hl))
    exact ⟨_, rfl, h⟩
def rRepTA (K : PySem.W.Frag) : R2 := fun x y H Q => ∃ l k xs, x = .ref l ∧ y = .int k ∧ SqT K H l xs ∧ xs ≠ [] ∧ -(2 ^ 63) ≤ k ∧ k ≤ 1000 ∧ xs.length ≤ 1000 ∧ (k = 1 → Q (.ref l) H) ∧ ∀ p, H p = none → Q (.ref p) (upd H p (.tup (List.replicate k.toNat xs).flatten))
section
variable {K : PySem.W.Frag} {mg : Str → Option Value} {W : WX} {Z H : Hp} {S : Fp} {σ : Sl} {X : Cx}
theorem op_repTA : OpR X (binaryOp .Mult) (rRepTA X.K) := by
  intro pins s σ H x y v u Q I rx ry h
  obtain ⟨l, k, xs, rfl, rfl, hT, hne, h1, h2, hz, q1, q⟩ := h
  by_cases hk : 2 ≤ k
  · exact op_repT pins s σ H _ _ v u Q I rx ry ⟨l, k, xs, rfl, rfl, hT, hne, hk, h2, hz, q⟩
  cases rx
  obtain ⟨t, rfl⟩ := ry
  obtain ⟨its, r, ⟨⟨cls, dd, data, sl⟩, ho, hc, n, hd⟩, hs⟩ := I.tuple hT
  simp only at hc hd
  subst hc hd
  have hle : its.length = xs.length := r.length.symm
  have hn : its ≠ [] := fun e => hne (by
    rw [e] at hle
    exact List.eq_nil_of_length_eq_zero hle.symm)
  have hi : its.toArray.isEmpty = false := by
    cases its with
    | nil => exact absurd rfl hn
    | cons a b => rfl
  by_cases hk1 : k = 1
  · refine wpAny_binaryOp_repeat_ref (T := "tuple") (U := "int") (by decide) ⟨_, ho, rfl⟩ (fun s' => typeIs_int s' k t) noFill_tuple_mul F.fills_int_mul F.slot_int_rmul repeat_tuple F.slot_int_index.lookup
      (call_meets F.slot_int_rmul (typeIs_int s k t) F.entry_int_rmul (F.args_int_rmul_2 _ _) (int_rmul_tuple k t l its.toArray n dd sl)
        ⟨ho, rfl, ⟨_, ho, rfl⟩, call_meets F.slot_tuple_mul ⟨_, ho, rfl⟩ F.entry_tuple_mul (F.args_tuple_mul_2 _ _) (tuple_mul1 l its.toArray n dd sl k t hk1) ⟨ho, ?_⟩⟩)
    exact ⟨.ref l, H, I, rfl, q1 hk1⟩
  · refine wpAny_binaryOp_repeat_ref (T := "tuple") (U := "int") (by decide) ⟨_, ho, rfl⟩ (fun s' => typeIs_int s' k t) noFill_tuple_mul F.fills_int_mul F.slot_int_rmul repeat_tuple F.slot_int_index.lookup
      (call_meets F.slot_int_rmul (typeIs_int s k t) F.entry_int_rmul (F.args_int_rmul_2 _ _) (int_rmul_tuple k t l its.toArray n dd sl)
        ⟨ho, rfl, ⟨_, ho, rfl⟩, call_meets F.slot_tuple_mul ⟨_, ho, rfl⟩ F.entry_tuple_mul (F.args_tuple_mul_2 _ _) (tuple_mul0 l its.toArray n dd sl k t (by omega) h1 hi) ⟨ho, ?_⟩⟩)
    have e0 : (List.replicate k.toNat xs).flatten = [] := by rw [show k.toNat = 0 by omega]; rfl
    have q' := q s.heap.objs.size (I.hok.fresh (Nat.le_refl _))
    rw [e0] at q'
    refine ⟨.ref s.heap.objs.size, _, I.laid (t' := s.toks) (o := .tup []) (fun b ob q => Heap.get?_push_of_some _ q) (Nat.le_refl _) ?_, rfl, q'⟩
    exact ⟨Nat.zero_le _, [], .nil, IsTup.new _ _⟩
def opRepT : List D → Option D
  | [.node false .tup xs, .int k] => if plainL xs = true ∧ xs.length ≠ 0 ∧ -(2 ^ 63) ≤ k ∧ k ≤ 1000 ∧ xs.length ≤ 1000 then some (.tup (List.replicate k.toNat xs).flatten) else none
  | _ => none
theorem opd_repT : Opd X (binaryOp .Mult) opRepT := by
  refine ⟨_, op_repTA, fun Z H S ds vs d Q w rb e k => ?_⟩
  unfold opRepT at e
  split at e
  · split at e
    · rename_i xs n hp
      obtain ⟨h1, h2, h3, h4, h5⟩ := hp
      obtain ⟨v, u, rfl, rv, ru⟩ := rb2 rb
      obtain ⟨a, ys, rfl, c, rl⟩ := rv
      obtain rfl : u = .int n := ru
      have hlen := rl.length
      have rp := rl.plain (H' := H) h1
      cases e
      refine ⟨_, _, rfl, a, n, ys, rfl, rfl, SqT.sam c w.same, fun e => h2 (by rw [hlen, e]; rfl), h3, h4, by omega, fun e => ?_, fun p np => ?_⟩
      · have e1 : (List.replicate n.toNat xs).flatten = xs := by rw [e]; simp
        rw [e1] at k
        refine k (.ref a) Z H Fp0 w.nil (fun _ _ e => e) (fun _ _ x => x) ?_
        exact ⟨a, ys, rfl, c, rp⟩
      · obtain ⟨f1, f2, f3⟩ := fresh_tup w np (reps_rep rp n.toNat)
        exact k _ _ _ _ f1 f2 (fun _ _ x => x) f3
    · cases e
  · cases e
/-- everything that is multiplied -/
def hMulT : List D → Option D
  | [.node o .tup xs, .int k] => opRepT [.node o .tup xs, .int k]
  | ds => hMul ds
theorem opd_hMulT : Opd X (binaryOp .Mult) hMulT := Opd.or opd_hMul opd_repT fun ds d h => by
  unfold hMulT at h
  split at h
  · exact .inr h
  · exact .inl h
theorem hMulT_ii (i j : Int) : hMulT [.int i, .int j] = iMul i j := rfl
end
end Pm
namespace Pm
open PySem PySem.Spec PyProof.Rows L2
/-- the text with these signs -/
def T (l : List Nat) : Str := ⟨l.toArray⟩
theorem T_len (l : List Nat) : (T l).length = l.length := rfl
theorem T_list (l : List Nat) : (T l).cps.toList = l := rfl
theorem T_app (a b : List Nat) : T a ++ T b = T (a ++ b) := by
  show (⟨a.toArray ++ b.toArray⟩ : Str) = ⟨(a ++ b).toArray⟩
  rw [← List.append_toArray]
theorem T_inj {a b : List Nat} (h : T a = T b) : a = b := by
  have := congrArg (fun x : Str => x.cps.toList) h
  exact this
theorem T_eq (a b : List Nat) : (T a == T b) = decide (a = b) := by
  by_cases h : a = b
  · subst h; simp
  · rw [decide_eq_false h]
    exact beq_eq_false_iff_ne.mpr fun q => h (T_inj q)
theorem T_lit (s : String) : Str.ofString s = T (s.toList.map Char.toNat) := Str.ofString_eq_toList s
theorem sub_T (c : Nat) (l : List Nat) : subS (T [c]) (T l) = decide (c ∈ l) := PySem.StrLaws.found_one (T l) c
theorem join_T (xs : List (List Nat)) : Txt.join (T []) (xs.map T) = T xs.flatten := by
  rw [TL.join_eq]
  refine TL.ext_tl ?_
  rw [TL.tl_join, List.map_map]
  have e : (xs.map (TL.tl ∘ T)) = xs := by
    induction xs with
    | nil => rfl
    | cons x xs ih => rw [List.map_cons, ih]; rfl
  rw [e]
  show TL.joinL [] xs = xs.flatten
  induction xs with
  | nil => rfl
  | cons x xs ih =>
    cases xs with
    | nil => simp [TL.joinL]
    | cons y ys =>
      have ih' := ih (by
        have := List.tail_eq_of_cons_eq e
        exact this)
      rw [TL.joinL, ih']
      · simp
def slL {α : Type} (xs : List α) (lo hi : Option Int) : List α := (xs.drop (HT.sIx xs.length 0 lo)).take (HT.sIx xs.length xs.length hi - HT.sIx xs.length 0 lo)
theorem slL_mid {α : Type} (xs : List α) (a b : Nat) : slL xs (some (a : Int)) (some (b : Int)) = (xs.drop a).take (b - a) := by
  unfold slL
  rw [HT.sIx_nat, HT.sIx_nat]
  by_cases h : a ≤ xs.length
  · rw [Nat.min_eq_left h]
    by_cases h2 : b ≤ xs.length
    · rw [Nat.min_eq_left h2]
    · rw [Nat.min_eq_right (by omega), List.take_of_length_le (by rw [List.length_drop]; exact Nat.le_refl _), List.take_of_length_le (by rw [List.length_drop]; omega)]
  · rw [show min a xs.length = xs.length by omega, List.drop_eq_nil_of_le (Nat.le_refl _), List.drop_eq_nil_of_le (by omega), List.take_nil, List.take_nil]
theorem gCut_T {l : List Nat} (h : l.length ≤ cap) (lo hi : Option Int) : gCut lo hi (.str (T l)) = some (.str (T (slL l lo hi))) := by
  show (if (T l).length ≤ cap then some (D.str (cutS (T l) lo hi)) else none) = _
  rw [if_pos (show (T l).length ≤ cap from h)]
  rfl
theorem join_ok (o : Bool) (xs : List (List Nat)) (h : xs.flatten.length ≤ cap) : opJoin [.str (T []), .node o .lst (xs.map fun l => D.str (T l))] = some (.str (T xs.flatten)) := by
  have e : (xs.map fun l => D.str (T l)) = (xs.map T).map D.str := by rw [List.map_map]; rfl
  rw [e]
  show (match strsD ((xs.map T).map D.str) with | some ys => if (ys.map fun y : Str => y.length).sum + ys.length * (T []).length ≤ cap then some (D.str (Txt.join (T []) ys)) else none | none => none) = _
  rw [strsD_map]
  have hs : ((xs.map T).map fun y : Str => y.length).sum + (xs.map T).length * (T []).length ≤ cap := by
    rw [show (T []).length = 0 from rfl, Nat.mul_zero, Nat.add_zero, List.map_map]
    refine Nat.le_trans (Nat.le_of_eq ?_) h
    rw [List.length_flatten]
    rfl
  simp only
  rw [if_pos hs, join_T]
theorem len_T {l : List Nat} (h : l.length ≤ cap) : opLen [.str (T l)] = some (.int l.length) := by
  show (if (T l).length ≤ cap then some (D.int (T l).length) else none) = _
  rw [if_pos (show (T l).length ≤ cap from h)]
  rfl
theorem add_T {a b : List Nat} (h : a.length + b.length ≤ cap) : hAdd [.str (T a), .str (T b)] = some (.str (T (a ++ b))) := by
  rw [hAdd_ss (show (T a).length + (T b).length ≤ cap from h), T_app]
theorem eq_T (a b : List Nat) : opEq [.str (T a), .str (T b)] = some (.bl (decide (a = b))) := by rw [eq_ss, T_eq]
theorem at_nat {α : Type} (xs : List α) (k : Nat) : atI xs (k : Int) = xs[k]? := by
  unfold atI ixN
  rw [if_pos (by omega)]
  by_cases h : k < xs.length
  · rw [if_pos (by omega), Int.toNat_natCast]
    rfl
  · rw [if_neg (by omega), List.getElem?_eq_none (by omega)]
    rfl
theorem rep_fold (l : Array Nat) : ∀ (n : Nat) (a : Array Nat), ((List.replicate n l).foldl (· ++ ·) a).toList = a.toList ++ (List.replicate n l.toList).flatten
  | 0, a => by simp
  | n + 1, a => by
    rw [List.replicate_succ, List.foldl_cons, rep_fold l n, List.replicate_succ, List.flatten_cons, Array.toList_append, List.append_assoc]
theorem rep_T (l : List Nat) (n : Nat) : strRep (T l) (n : Int) = T (List.replicate n l).flatten := by
  refine TL.ext_tl ?_
  unfold strRep
  by_cases h0 : (n : Int) < 1
  · rw [if_pos h0]
    have : n = 0 := by omega
    subst this
    rfl
  · rw [if_neg h0]
    by_cases h1 : ((n : Int) == 1 || (T l).length == 0) = true
    · rw [if_pos h1]
      rw [Bool.or_eq_true, beq_iff_eq, beq_iff_eq] at h1
      rcases h1 with h1 | h1
      · have : n = 1 := by omega
        subst this
        show l = (List.replicate 1 l).flatten
        simp
      · have : l = [] := List.length_eq_zero_iff.mp h1
        subst this
        show [] = (List.replicate n ([] : List Nat)).flatten
        simp
    · rw [if_neg h1]
      show ((List.replicate (n : Int).toNat (T l).cps).foldl (· ++ ·) #[]).toList = (List.replicate n l).flatten
      rw [rep_fold, Int.toNat_natCast]
      rfl
theorem mul_T {l : List Nat} {n : Nat} (h : n ≤ 1000000) (h2 : l.length * n ≤ cap) : hMulT [.str (T l), .int (n : Int)] = some (.str (T (List.replicate n l).flatten)) := by
  show (if (n : Int) ≤ 1000000 ∧ -1000000 ≤ (n : Int) ∧ (T l).length * (n : Int).toNat ≤ cap then some (D.str (strRep (T l) (n : Int))) else none) = _
  rw [if_pos ⟨by omega, by omega, by rw [Int.toNat_natCast]; exact h2⟩, rep_T]
theorem mid_T {l : List Nat} (h : l.length ≤ cap) (a b : Nat) : gCut (some (a : Int)) (some (b : Int)) (.str (T l)) = some (.str (T ((l.drop a).take (b - a)))) := by
  rw [gCut_T h, slL_mid]
end Pm
namespace Pm
open PySem PySem.Spec PyProof.Rows L2
end Pm
namespace Pg
open PySem PySem.Spec PyProof.Rows L2 Pm
abbrev sg (c : Nat) : D := .str (T [c])
/-- a table as it is known here: letters as code points -/
abbrev Tab := List (Nat × Int × Int)
def rowD (r : Nat × Int × Int) : D := .tup [sg r.1, .int r.2.1, .int r.2.2]
def tabD (t : Tab) : D := .tup (t.map rowD)
abbrev GR : Int := 1000000000000
structure TabOk (t : Tab) : Prop where
  len1 : 1 ≤ t.length
  len6 : t.length ≤ 6
  asc : (t.map (·.1)).Pairwise (· < ·)
  let1 : ∀ r ∈ t, 97 ≤ r.1 ∧ r.1 ≤ 122
  num : ∀ r ∈ t, -GR ≤ r.2.1 ∧ r.2.1 ≤ GR ∧ -GR ≤ r.2.2 ∧ r.2.2 ≤ GR
theorem rowD_plain (r : Nat × Int × Int) : (rowD r).plain = true := rfl
theorem rows_plain (t : Tab) : plainL (t.map rowD) = true := by
  induction t with
  | nil => rfl
  | cons r t ih => rw [List.map_cons, plainL, ih, rowD_plain]; rfl
theorem tabD_plain (t : Tab) : (tabD t).plain = true := by
  show (true && plainL (t.map rowD)) = true
  rw [rows_plain]; rfl
/-- a draw, the pen owned -/
theorem dr {S : FSem} (hS : Draws S) {ns : List Int} {a m : Int} {xs : List D} (hl : ns.length ≤ 63) (hp : Pen ns a (.node true .lst xs)) (ha : a ≤ 1000000) (hm : 0 < m) (hd : divOk m = true) :
    ∃ (r : Int) (xs' : List D), S [.node true .lst xs, .int m] = .ret (.int r) [.node true .lst xs', .int m] ∧ 0 ≤ r ∧ r < m ∧ Pen ns (a + 1) (.node true .lst xs') := by
  obtain ⟨r, d', e, h0, h1, p⟩ := hS ns _ a m hl hp ha hm hd
  obtain ⟨xs', rfl⟩ := p.owned
  exact ⟨r, xs', e, h0, h1, p⟩
theorem divS {m : Int} (h0 : 0 ≤ m) (h1 : m ≤ 100000000000000) : divOk m = true := Sm.divOk (e := 50) (by unfold Sm; omega) (by decide)
abbrev ABC : List Nat := [97, 98, 99, 100, 101, 102, 103, 104, 105, 106, 107, 108, 109, 110, 111, 112, 113, 114, 115, 116, 117, 118, 119, 120, 121, 122]
theorem abc_T : (("abcdefghijklmnopqrstuvwxyz" : String) : Str) = T ABC := by
  rw [show ((("abcdefghijklmnopqrstuvwxyz" : String) : Str)) = Str.ofString "abcdefghijklmnopqrstuvwxyz" from rfl, T_lit]; rfl
end Pg
namespace Pg
open PySem PySem.Spec PyProof.Rows L2 Pm
def lets (t : Tab) : List Nat := t.map (·.1)
theorem ix_nat {n k : Nat} (h : k < n) : ixN n (k : Int) = some k := by
  unfold ixN
  rw [if_pos (by omega), if_pos (by omega), Int.toNat_natCast]
theorem empty_T : (("" : String) : Str) = T [] := rfl
end Pg
namespace Ex
mutual
/-- an operand: a dot, or an expression in a pair -/
inductive Op where
  | dot | par (e : E)
/-- an expression: operands with letters between -/
inductive E where
  | one (o : Op) | cons (o : Op) (c : Nat) (e : E)
end
mutual
def Op.text : Op → List Nat
  | .dot => [46]
  | .par e => 40 :: (e.text ++ [41])
def E.text : E → List Nat
  | .one o => o.text
  | .cons o c e => o.text ++ c :: e.text
end
mutual
def Op.lets : Op → List Nat
  | .dot => []
  | .par e => e.lets
def E.lets : E → List Nat
  | .one o => o.lets
  | .cons o c e => o.lets ++ c :: e.lets
end
mutual
def Op.prs : Op → Nat
  | .dot => 0
  | .par e => e.prs + 1
def E.prs : E → Nat
  | .one o => o.prs
  | .cons o _ e => o.prs + e.prs
end
/-- without pairs -/
def flat : List Nat → E
  | [] => .one .dot
  | c :: cs => .cons .dot c (flat cs)
mutual
theorem Op.len : ∀ o : Op, o.text.length = 2 * o.lets.length + 1 + 2 * o.prs
  | .dot => rfl
  | .par e => by
    have := E.len e
    simp [Op.text, Op.lets, Op.prs]
    omega
theorem E.len : ∀ e : E, e.text.length = 2 * e.lets.length + 1 + 2 * e.prs
  | .one o => Op.len o
  | .cons o c e => by
    have h1 := Op.len o
    have h2 := E.len e
    simp [E.text, E.lets, E.prs]
    omega
end
end Ex
namespace Pg
open PySem PySem.Spec PyProof.Rows L2 Pm
abbrev tx (l : List Nat) : D := .str (T l)
end Pg
namespace Ex
def isL (c : Nat) : Bool := decide (97 ≤ c) && decide (c ≤ 122)
/-- operators, pairs, depth, whether an operand is wanted -/
abbrev St := Nat × Nat × Nat × Bool
theorem isL_40 {c : Nat} (h : isL c = true) : c ≠ 40 ∧ c ≠ 41 ∧ c ≠ 46 := by
  unfold isL at h
  rw [Bool.and_eq_true, decide_eq_true_eq, decide_eq_true_eq] at h
  omega
def dep (l : List Nat) : Int := (l.count 40 : Nat) - (l.count 41 : Nat)
end Ex
namespace Pg
open PySem PySem.Spec PyProof.Rows L2 Pm
def code (x : Str) : Nat := x.cps.toList.headD 0
theorem flat_sgs (l : List Nat) : (l.map fun c => [c]).flatten = l := by
  induction l with
  | nil => rfl
  | cons c l ih => simp [ih]
theorem join_sg (o : Bool) (l : List Nat) (h : l.length ≤ cap) : opJoin [.str (T []), .node o .lst (l.map sg)] = some (.str (T l)) := by
  have := join_ok o (l.map fun c => [c]) (by rw [flat_sgs]; exact h)
  rw [List.map_map, flat_sgs] at this
  exact this
theorem strOk_T {l : List Nat} (h : ∀ c ∈ l, c < 1114112) : PyData.strOk (T l) = true := by
  unfold PyData.strOk
  rw [Array.all_eq_true']
  intro c hc
  exact decide_eq_true (h c (by simpa [T] using hc))
theorem deqL_refl {xs : List D} (h : ∀ x ∈ xs, deq x x = true) : deqL xs xs = true := by
  induction xs with
  | nil => rfl
  | cons x xs ih => rw [deqL, h x (by simp), ih fun y hy => h y (by simp [hy])]; rfl
theorem deq_refl : ∀ (n : Nat) (d : D), shp n d = true → deq d d = true := by
  intro n
  induction n with
  | zero =>
    intro d h
    cases d with
    | node o k xs => cases k <;> simp [shp] at h
    | op v => simp [shp] at h
    | _ => simp [deq]
  | succ n ih =>
    intro d h
    cases d with
    | node o k xs =>
      cases k with
      | lst =>
        simp only [shp, List.all_eq_true] at h
        simp only [deq]
        exact deqL_refl fun x hx => ih x (h x hx)
      | tup =>
        simp only [shp, List.all_eq_true] at h
        simp only [deq]
        exact deqL_refl fun x hx => ih x (h x hx)
      | _ => simp [shp] at h
    | op v => simp [shp] at h
    | _ => simp [deq]
end Pg
set_option maxHeartbeats 2000000
namespace Pm
open PySem PySem.HandSPX
open PySem.Builtin PySem.Builtin.ObjectAttr
/-- what is asked of the built-in class: BN gives __new__ -/
structure XF (BN newId initId : String) (bmN bmB : List Value) : Prop where
  new : ExcBaseFacts BN newId initId bmN
  has : bmB.contains (.type BN) = true
  noA : bmB.contains (.type "AttributeError") = false
  noN : bmB.contains (.type "NameError") = false
  obj : bmB.contains (.type "object") = true
  ne : bmB.isEmpty = false
  pass : ∀ self : Value, refuseLoop self "__setattr__" bmB = pure ()
/-- own classes, then the built-in tail -/
def tailR (bmB : List Value) : List Value → Bool
  | .ref _ :: r => tailR bmB r
  | l => l == bmB
section
variable {bmB : List Value}
theorem tailR_cases : ∀ l : List Value, tailR bmB l = true → (∃ c r, l = .ref c :: r ∧ tailR bmB r = true) ∨ l = bmB
  | [], e => .inr (beq_iff_eq.mp e)
  | .ref c :: r, e => .inl ⟨c, r, rfl, e⟩
  | .none :: _, e => .inr (beq_iff_eq.mp e)
  | .ellipsis :: _, e => .inr (beq_iff_eq.mp e)
  | .notImplemented :: _, e => .inr (beq_iff_eq.mp e)
  | .bool _ :: _, e => .inr (beq_iff_eq.mp e)
  | .int _ _ :: _, e => .inr (beq_iff_eq.mp e)
  | .float _ _ :: _, e => .inr (beq_iff_eq.mp e)
  | .str _ _ :: _, e => .inr (beq_iff_eq.mp e)
  | .bytes _ _ :: _, e => .inr (beq_iff_eq.mp e)
  | .type _ :: _, e => .inr (beq_iff_eq.mp e)
  | .builtin _ :: _, e => .inr (beq_iff_eq.mp e)
theorem tailR_all {P : List Value → Prop} (h0 : P bmB) (h1 : ∀ c r, P r → P (.ref c :: r)) : ∀ l : List Value, tailR bmB l = true → P l := by
  intro l
  induction l with
  | nil =>
    intro e
    rcases tailR_cases [] e with ⟨c, r, q, _⟩ | q
    · cases q
    · rw [q]; exact h0
  | cons a r ih =>
    intro e
    rcases tailR_cases (a :: r) e with ⟨c, r', q, h⟩ | q
    · obtain ⟨rfl, rfl⟩ := List.cons.inj q
      exact h1 c r (ih h)
    · rw [q]; exact h0
theorem tailR_has {X : String} {l : List Value} (h : tailR bmB l = true) : l.contains (.type X) = bmB.contains (.type X) :=
  tailR_all (P := fun l => l.contains (.type X) = bmB.contains (.type X)) rfl (fun c r q => by rw [List.contains_cons, q]; rfl) l h
theorem tailR_ne {l : List Value} (h : tailR bmB l = true) (hn : bmB.isEmpty = false) : l.isEmpty = false :=
  tailR_all (P := fun l => l.isEmpty = false) hn (fun c r q => rfl) l h
theorem tailR_pass {l : List Value} (h : tailR bmB l = true) (hp : ∀ self : Value, refuseLoop self "__setattr__" bmB = pure ()) (self : Value) : refuseLoop self "__setattr__" l = pure () :=
  tailR_all (P := fun l => refuseLoop self "__setattr__" l = pure ()) (hp self) (fun c r q => by rw [refuseLoop_ref]; exact q) l h
end
section
variable {prog : Program} {w : World} {A : Around} {E : Value → Shared → Prop} {R : Result → Shared → Prop} {h : Heap} {g : Array GenState} {d : Drawn} {t : Nat} {os : OsState}
variable {nm q : Str} {C N : Addr} {bs bm bmN bmB : List Value} {hdct : Bool} {sn : List Str} {sub : List Value} {ab : Bool} {col : Option Bool} {dd : Option Addr} {k0 k1 k2 k3 k5 : Option Value} {B newId initId : String}
theorem xf_check (F : XF B newId initId bmN bmB) (hT : tailR bmB bm = true) {M : Model} {rest : List Value} {Q : Unit → Shared → Prop}
    (hC : h.get? C = some (excClassObj nm q C N bs bm hdct sn sub ab col dd k0 k1 k2 k3 k5 newId)) (hq : Q () ⟨h, g, d, t, os⟩) : wpAny M A (checkBuiltinCall newId ⟨.ref C :: rest, []⟩) Q E ⟨h, g, d, t, os⟩ := by
  have hcont : (Value.ref C :: bm).contains (.type B) = true := by rw [List.contains_cons, tailR_has hT, F.has, Bool.or_true]
  have hstar := F.new.noStar
  simp only [checkBuiltinCall, F.new.newKind, F.new.newSplit, F.new.newRow]
  repeat (first | refine wpAny_loadPart_at hC ?_ | (refine wpAny_isSubtype_exc hC ?_; rw [hcont]) | refine wpAny_staticBase_exc hC ?_ | refine wpAny_madeBy_exc hC ?_ | simp only [bne_self_eq_false, Bool.false_eq_true, if_false] | wp_step)
  exact hq
theorem xf_new (F : XF B newId initId bmN bmB) (hT : tailR bmB bm = true) {rest : List Value}
    (hC : h.get? C = some (excClassObj nm q C N bs bm hdct sn sub ab col dd k0 k1 k2 k3 k5 newId))
    (hq : R (.ok (.ret (.ref (h.objs.size + 1)))) ⟨(h.push { cls := .type "tuple", data := .seq rest.toArray }).push
      { cls := .ref C, data := .fields #[.ref h.objs.size, .none, .none, .none, .bool false, .none] }, g, d, t, os⟩) (hrest : rest.length ≤ sizeLine) :
    codeAny (model prog w) A (.builtin newId ⟨.ref C :: rest, []⟩) R ⟨h, g, d, t, os⟩ := by
  have hends := F.new.ends
  have hcB : (Value.ref C :: bm).contains (.type B) = true := by rw [List.contains_cons, tailR_has hT, F.has, Bool.or_true]
  have hcA : (Value.ref C :: bm).contains (.type "AttributeError") = false := by rw [List.contains_cons, tailR_has hT, F.noA]; rfl
  have hcN : (Value.ref C :: bm).contains (.type "NameError") = false := by rw [List.contains_cons, tailR_has hT, F.noN]; rfl
  refine codeAny_builtinAt F.new.entry ?_
  unfold Builtin.«BaseException.__new__»
  refine wpAt_bind ?_
  show wpAt _ _ _ (stack >>= _) _ _ _
  refine wpAt_bind (wpAt_stack fun p below => wpAt_of_wpAny ?_)
  wp_walk
  refine wpAt_of_wpAny ?_
  rw [F.new.owner]
  repeat (first | with_reducible refine wpAny_madeHere_exc F.new.canon hC ?_ | with_reducible refine wpAny_loadPart_at hC ?_ | (with_reducible refine wpAny_isSubtype_exc hC ?_; first | rw [hcB] | rw [hcA] | rw [hcN]) | wp_step)
  show R _ _
  rw [Heap.size_push]
  exact hq
theorem xf_type (F : XF B newId initId bmN bmB) (hT : tailR bmB bm = true) {rest : List Value} {fI : Addr} {Q : PySem.Fin → Shared → Prop}
    (hC : h.get? C = some (excClassObj nm q C N bs bm hdct sn sub ab col dd k0 k1 k2 k3 k5 newId))
    (hi : W.Looks (model prog w) h (typeLookup (.ref C) "__init__") (some (.ref fI))) (hb : ∀ self, W.Looks (model prog w) h (bindSpecial (.ref fI) self) (.ref fI, [self])) (hrest : rest.length ≤ sizeLine)
    (hq : codeAny (model prog w) A (.call (.ref fI) ⟨.ref (h.objs.size + 1) :: rest, []⟩)
      (fun r s' => match r with | .ok (.ret v) => v = .none ∧ Q (.done (.ret (.ref (h.objs.size + 1)))) s' | .ok _ => False | .error e => E e s')
      ⟨(h.push (W.kdv_tup rest)).push (excO C h.objs.size), g, d, t, os⟩) :
    wpAny (model prog w) A (Builtin.«type.__call__» ⟨.ref C :: rest, []⟩) Q E ⟨h, g, d, t, os⟩ := by
  repeat (first | with_reducible refine wpAny_loadPart_at hC ?_ | with_reducible refine wpAny_madeBy_exc hC ?_ | wp_step)
  refine codeAny_call_builtin_code (Code.quiet_builtin _ F.new.quiet) (xf_check F hT hC ?_)
  refine xf_new F hT hC ?_ hrest
  show wpAny _ _ _ _ _ _
  have k : ∀ b o, h.get? b = some o → ((h.push (W.kdv_tup rest)).push (excO C h.objs.size)).get? b = some o := fun b o e => Heap.get?_push_of_some _ (Heap.get?_push_of_some _ e)
  have hC₁ := k _ _ hC
  have hget : ((h.push (W.kdv_tup rest)).push (excO C h.objs.size)).get? (h.objs.size + 1) = some (excO C h.objs.size) := by heap_get
  have hcC : (Value.ref C :: bm).contains (.ref C) = true := by simp
  have i1 := hi.keeps k
  have b1 := (hb (.ref (h.objs.size + 1))).keeps k
  unfold isInstance
  repeat (first | with_reducible refine wpAny_loadPart_at hget ?_ | (with_reducible refine wpAny_isSubtype_exc hC₁ ?_; rw [hcC]) | wp_step)
  show wpAny _ _ (typeLookup (.ref C) _) _ _ _
  refine i1.at ?_
  refine wpAny_holding (wpAny_bind (b1.at ?_))
  refine wpAny_bind (wpAny_call (codeAny_mono hq fun r s' z => ?_))
  rcases r with e | (v | _ | _ | _) <;> first | exact z | exact z.elim | skip
  obtain ⟨rfl, z⟩ := z
  first
    | exact wpAny_pure (wpAny_pure z)
    | (wp_walk; exact z)
theorem xf_call (F : XF B newId initId bmN bmB) (hT : tailR bmB bm = true) {rest : List Value} {fI : Addr}
    (hC : h.get? C = some (excClassObj nm q C N bs bm hdct sn sub ab col dd k0 k1 k2 k3 k5 newId))
    (hi : W.Looks (model prog w) h (typeLookup (.ref C) "__init__") (some (.ref fI))) (hb : ∀ self, W.Looks (model prog w) h (bindSpecial (.ref fI) self) (.ref fI, [self])) (hrest : rest.length ≤ sizeLine)
    (hq : codeAny (model prog w) (A.under (.builtin "type.__call__" ⟨.ref C :: rest, []⟩)) (.call (.ref fI) ⟨.ref (h.objs.size + 1) :: rest, []⟩) (W.InitBack (h.objs.size + 1) R)
      ⟨(h.push (W.kdv_tup rest)).push (excO C h.objs.size), g, d, t, os⟩) :
    codeAny (model prog w) A (.call (.ref C) ⟨rest, []⟩) R ⟨h, g, d, t, os⟩ := by
  have f1 := tc_lookup
  have f2 := tc_bind (.ref C)
  have hTy : (⟨h, g, d, t, os⟩ : Shared).TypeIs (.ref C) "type" := ⟨_, hC, rfl⟩
  refine codeAny_of_tree ?_
  show wpAny _ _ (callAny (.ref C) _) _ _ _
  repeat (any_goals (first | assumption | with_reducible refine wpAny_loadPart_at hC ?_ | wp_step))
  refine ⟨rfl, ?_⟩
  refine codeAny_call_builtin_at (Code.quiet_builtin _ (by decide +kernel)) entry_typeCall (wpAny_check_type_call_sub hC (xf_type F hT hC hi hb hrest ?_))
  refine codeAny_mono hq fun r s' z => ?_
  rcases r with e | (v | _ | _ | _) <;> exact z
end
end Pm
set_option maxHeartbeats 2000000
namespace Pm
open PySem PySem.HandSPX
open PySem.Builtin PySem.Builtin.ObjectAttr
abbrev tlValue : List Value := [.type "ValueError", .type "Exception", .type "BaseException", .type "object"]
theorem xf_value : XF "ValueError" "ValueError.__new__" "ValueError.__init__" tlValue tlValue := ⟨PySem.F.excBase_ValueError, by decide +kernel, by decide +kernel, by decide +kernel, by decide +kernel, rfl, fun self => by kernel_rfl⟩
section
variable {prog : Program} {w : World} {A : Around} {E : Value → Shared → Prop} {R : Result → Shared → Prop} {hp : Heap} {g : Array GenState} {d : Drawn} {t : Nat} {os : OsState}
/-- self.f = v on an exception without a dict -/
theorem xf_store {K : W.Frag} {name : Str} {tk : Tok} {v : Value} {x C : Addr} {fv : Array Value} {cd : ClassData} {bmB : List Value}
    (X : K.In hp) (hx : hp.get? x = some { cls := .ref C, data := .fields fv }) (hcd : W.clsIn K C = some cd) (hm : tailR bmB cd.mro = true) (hn : bmB.isEmpty = false) (hob0 : bmB.contains (.type "object") = true) (hps : ∀ self : Value, refuseLoop self "__setattr__" bmB = pure ()) (hh : cd.hasDict = true) (ha : W.findIn K (.ref C) name = some none)
    (hq : ∀ h' tk' dx, (∀ b o, b ≠ x → hp.get? b = some o → h'.get? b = some o) → hp.objs.size ≤ dx → dx ≠ x → h'.get? x = some { cls := .ref C, dict := some dx, data := .fields fv } →
      h'.Ns1 dx (fun y => if y = name then some v else none) → R (.ok (.ret .none)) ⟨h', g, d, tk', os⟩) :
    codeAny (model prog w) A (.call (.builtin "object.__setattr__") ⟨[.ref x, .str name tk, v], []⟩) R ⟨hp, g, d, t, os⟩ := by
  have I : W.InstAt hp x { cls := .ref C, data := .fields fv } C none := ⟨hx, rfl, rfl, trivial⟩
  have SF := F.store_object
  have ne := tailR_ne hm hn
  have hob : cd.mro.contains (.type "object") = true := (tailR_has hm).trans hob0
  have hxs : x ≠ hp.objs.size := Nat.ne_of_lt (Heap.lt_size hx)
  have sub : W.Looks (model prog w) hp (isInstance (.ref x) (.type "object")) true := I.type.andThen (W.looks_mroIn X (by unfold W.mroIn; rw [hcd, Option.bind_some, if_neg (by rw [ne]; decide), hob]))
  refine codeAny_call_builtin SF.slot.plain SF.entry (@W.check_slot (model prog w) _ _ ⟨hp, g, d, t, os⟩ "object.__setattr__" "object" "__setattr__" (.ref x) [.str name tk, v] [] _ SF.kind SF.split sub (SF.args (.ref x) (.str name tk) v) ?_)
  have hmr : W.Looks (model prog w) hp (mroOf (.ref C)) cd.mro := (W.looks_clsIn X hcd).andThen .now
  have L3 : W.Looks (model prog w) hp (storeTaker? none) none := .now
  have hcls : W.Looks (model prog w) hp (classData C) cd := W.looks_clsIn X hcd
  rw [W.osa_eq, refuse_eq]
  refine wpAny_bind (wpAny_bind (I.type.at (wpAny_bind (hmr.at ?_))))
  rw [tailR_pass hm hps]
  refine wpAny_pure (wpAny_bind (I.type.at (wpAny_bind ((W.looks_findIn X ha).at (wpAny_bind (L3.at ?_))))))
  show wpAny _ _ (storeInOwnDict (.ref x) (.ref C) (.str name tk) name v false) _ _ _
  obtain ⟨nm, bs, mro, ns, qn, hd, sn, sb, ab, col, del⟩ := cd
  dsimp only at hh
  subst hh
  unfold storeInOwnDict ownDictForStores
  repeat (first | with_reducible refine store_in_new ?_ ?_ | with_reducible refine wpAny_loadPart_at hx ?_ | with_reducible refine hcls.at ?_ | wp_step)
  · exact ⟨_, #[], _, (Heap.get?_update_ne _ _ _ _ hxs.symm).trans (Heap.get?_push_at rfl rfl), rfl, fun e he => absurd he (by simp), fun _ => rfl⟩
  · intro h' tk' hn' hs
    have hx₁ : (hp.push { cls := .type "dict", data := .dict #[] }).get? x = some { cls := .ref C, data := .fields fv } := Heap.get?_push_of_some _ hx
    refine hq h' tk' hp.objs.size (fun b o hb ho => ?_) (Nat.le_refl _) hxs.symm ?_ hn'
    · exact (hs.2 b (Nat.ne_of_lt (Heap.lt_size ho))).trans ((Heap.get?_update_ne _ _ _ _ hb).trans (Heap.get?_push_of_some _ ho))
    · exact (hs.2 x hxs).trans (Heap.get?_update_self _ hx₁ rfl)
end
end Pm
set_option maxHeartbeats 2000000
namespace Pm
open PySem PySem.Spec PyProof.Rows L2
/-- what is known of the class at C: its __init__ at fI, its field f -/
structure XC (K : PySem.W.Frag) (C fI : Addr) (f : Str) : Prop where
  cls : ∃ nm q N bs bm sn sub ab col dd k0 k1 k2 k3 k5 BN newId initId bmN bmB, XF BN newId initId bmN bmB ∧ K.lookup C = some (excClassObj nm q C N bs bm true sn sub ab col dd k0 k1 k2 k3 k5 newId) ∧ tailR bmB bm = true
  sa : PySem.W.findIn K (.ref C) "__setattr__" = some (some (.builtin "object.__setattr__"))
  exC : PySem.W.subIn K (.ref C) (.type "BaseException") = some true
  tyC : PySem.W.typeIn K (.ref C) = some (.type "type")
  kC : PySem.W.keepIn K (.ref C) = true
  no : PySem.W.findIn K (.ref C) f = some none
  iC : PySem.W.findIn K (.ref C) "__init__" = some (some (.ref fI))
  tI : PySem.W.typeIn K (.ref fI) = some (.type "function")
section
variable {X : Cx} {pins : List (Addr × Obj)} {σ : L2.St} {H : Hp} {s : Shared} {a C fI dx : Addr} {f : Str} {y : V} {u : Value} {Q : Unit → Shared → Prop} {E : Value → Shared → Prop} {A : Around}
/-- self.f = y -/
theorem xc_store (T : XC X.K C fI f) (I : Inv X pins σ H s) (e : H a = some (exo a C none)) (ry : RelV y u)
    (h : ∀ dx s', H dx = none → dx ≠ a → Inv X pins σ (upd (upd H dx (exd dx [(f, y)])) a (exo a C (some dx))) s' → Q () s') : wpAny (model X.prog X.w) A (setAttr (.ref a) f u) Q E s := by
  obtain ⟨nm, q, N, bs, bm, sn, sub, ab, col, dd, k0, k1, k2, k3, k5, BN, newId, initId, bmN, bmB, F, hC, hbm⟩ := T.cls
  have hcl : PySem.W.clsIn X.K C = some { name := nm, bases := bs, mro := .ref C :: bm, ns := N, qualname := q, hasDict := true, slotNames := sn, subclasses := sub, abstract := ab, collection := col, hasDel := false } := by unfold PySem.W.clsIn; rw [hC] <;> rfl
  obtain ⟨t1, ho⟩ := exo_at I.hok e
  obtain ⟨hp, g, d, t, os⟩ := s
  refine PySem.W.set_plain I.kIn (ox := { cls := .ref C, dict := none, data := .fields #[.ref t1, .none, .none, .none, .bool false, .none] }) (od := none) ⟨ho, rfl, rfl, trivial⟩ T.sa ?_
  refine xf_store I.kIn ho hcl (show tailR bmB (.ref C :: bm) = true from hbm) F.ne F.obj F.pass rfl T.no (fun h' tk' dx k dn dne hx hn => ?_)
  have hnd : H dx = none := I.hok.fresh dn
  have nd : ∀ {b : Addr} {o : Obj}, hp.get? b = some o → b ≠ dx := fun {b o} q => Nat.ne_of_lt (Nat.lt_of_lt_of_le (Heap.lt_size q) dn)
  have na : ∀ {b : Addr}, H b = none → b ≠ a := fun {b} n z => by
    rw [z, e] at n
    cases n
  have Un1 : Un X.fs [] H (upd (upd H dx (exd dx [(f, y)])) a (exo a C (some dx))) hp h' := {
    keep := fun b o q n _ _ => k b o (na n) q
    slot := fun b o q n _ _ => ⟨o.slots, k b o (na n) q⟩
    free := fun b o q n _ => by rw [upd_ne (na n), upd_ne (nd q)]; exact n
    there := fun b o q _ => by
      by_cases hb : b = a
      · exact ⟨_, by rw [hb]; exact hx⟩
      · exact ⟨o, k b o hb q⟩
    tups := fun b xs q => by rw [upd_ne (at_ne e q exo_tup), upd_ne (ne_of_none q hnd)]; exact q
    frzs := fun b o v q => by rw [upd_ne (at_ne e q exo_frz), upd_ne (ne_of_none q hnd)]; exact q
    tbls := fun b ps q => ⟨#[], by rw [upd_ne (at_ne e q exo_tbl), upd_ne (ne_of_none q hnd), q]; simp⟩ }
  refine h dx _ hnd dne (I.un (t' := tk') Un1 fun b o q => ?_)
  by_cases hb : b = a
  · subst hb
    rw [upd_same] at q
    cases q
    exact exo_ok hx
  · rw [upd_ne hb] at q
    by_cases hd : b = dx
    · subst hd
      rw [upd_same] at q
      cases q
      exact exd_ok hn (relO_put (fs := []) ry fun g => True.intro)
    · rw [upd_ne hd] at q
      exact (I.hok b o q).stay (fun c v hc z => k c v (by
          rcases hc with hc | hc
          · rw [hc]
            exact hb
          · exact at_ne e hc exo_own) z)
        (fun c hc => by rw [upd_ne (at_ne e hc exo_own), upd_ne (ne_of_none hc hnd)]; exact hc) (fun c xs hc => by rw [upd_ne (at_ne e hc exo_tup), upd_ne (ne_of_none hc hnd)]; exact hc)
end
def tSt1 (K : PySem.W.Frag) (f : Str) (to te : TE) : TS := fun D σ H => te σ H fun y H1 => to σ H1 fun x H2 => ∃ a C fI : Addr, x = .ref a ∧ XC K C fI f ∧ H2 a = some (exo a C none) ∧ ∀ dx, H2 dx = none → dx ≠ a → D.nx σ (upd (upd H2 dx (exd dx [(f, y)])) a (exo a C (some dx)))
section
variable {X : Cx} {o e : Expr} {to te : TE} {f : Str} {p' pos : Pos}
theorem ps_st1 (ho : PE X o to) (he : PE X e te) (hs : swapsWith e (some (.Attribute o f p')) pos.line X.env = pure false := by rfl) : PS X (.Assign [.Attribute o f p'] e pos) (tSt1 X.K f to te) := by
  refine ⟨fun pins s σ H D I h => ?_⟩
  refine plainObj_wpAny_Assign_Attribute (thn (he.run pins s σ H _ I h) fun v s1 ⟨y, H1, I1, r1, q1⟩ => thn (ho.run pins s1 σ H1 _ I1 q1) fun u s2 ⟨x, H2, I2, r2, a, C, fI, ex, T, ea, q⟩ => ?_) hs
  subst ex
  obtain rfl : u = Value.ref a := r2
  exact xc_store T I2 ea r1 fun dx s' n ne J => ⟨σ, _, J, q dx n ne⟩
end
/-- what such an __init__ keeps -/
def spI (K : PySem.W.Frag) (f : Str) : Sp := fun vs H Q _ => ∃ (a C fI : Addr) (y : V), vs = [.ref a, y] ∧ XC K C fI f ∧ H a = some (exo a C none) ∧ ∀ dx, H dx = none → dx ≠ a → Q .non (upd (upd H dx (exd dx [(f, y)])) a (exo a C (some dx)))
end Pm
set_option maxHeartbeats 2000000
namespace Pm
open PySem PySem.Spec PyProof.Rows L2
/-- such an __init__ by its text -/
theorem init_ok {P : Program} {w : World} {K : PySem.W.Frag} {mg : Str → Option Value} {base : Heap} {qual p f : Str} {st : Stmt} {fI : Addr} {fd : FuncData} (F : Fun K "__init__" qual st fI fd) (S : FnScope ["self", p] ["self", p] (defScope st)) {p1 p2 p3 p4 : Pos}
    (hb : defBody st = [.Assign [.Attribute (.Name "self" p1) f p2] (.Name p p3) p4])
    (hv0 : ∀ cdv L, Vis (envOfC qual (defScope st) L fI cdv).scope "self") (hv1 : ∀ cdv L, Vis (envOfC qual (defScope st) L fI cdv).scope p)
    (hd : (p == ("__debug__" : Str)) = false := by decide) (hcd : (p == ("__classdict__" : Str)) = false := by decide) : FnOk P w K mg base CX0 1 fI fd ["self", p] (spI K f) := by
  refine F.ok (k := 0) S (fun vs H Q E h => ?_) fun cdv A outer s H vs Q E hr hsp => ?_
  · obtain ⟨a, C, fI, y, rfl, _⟩ := h
    rfl
  · obtain ⟨a, C, fI', y, rfl, T, ea, q⟩ := hsp
    refine ⟨tSt1 K f (tVar 0) (tVar 1), ?_, ?_⟩
    · rw [hb]
      exact pss_one (ps_st1 (pe_var (i := 0) rfl (hv0 _ _) (by decide) (by decide)) (pe_var (i := 1) rfl (hv1 _ _) hd hcd))
    · refine ⟨y, rfl, .ref a, rfl, a, C, fI', rfl, T, ea, fun dx n ne => q dx n ne⟩
def tMk1 (C : Addr) (f : Str) (ta : TA) : L2.St → Hp → XK → Prop := fun σ H Q => ta σ H fun vs H1 => ∃ y, vs = [y] ∧ ∀ d, H1 d = none → Q (.ref C) (some d) (upd H1 d (.xd [(f, y)]))
section
variable {X : Cx} {e : Expr} {ta : TA} {p pos : Pos}
theorem pmk_x1 {x f pn : Str} {C fI : Addr} {k : Nat} {fd : FuncData} (T : XC X.K C fI f) (F1 : FnOk X.prog X.w X.K X.mg X.base CX0 k fI fd ["self", pn] (spI X.K f)) (hr : Room (k + 1) X.A) (hb : Binds X.K fd ["self", pn] []) (hg : Gl X x) (hm : X.mg x = some (.ref C)) (ha : PA X [e] ta)
    (hdb : (x == ("__debug__" : Str)) = false := by decide) (he : starEach [e] X.env = (false, eval e X.env) :: starEach [] X.env := by rfl) (hpl : (backTo pos (starEach [] X.env)).any (·.1) = false := by rfl) :
    PMk X (.Call (.Name x p) [e] [] pos) (tMk1 C f ta) := by
  intro pins s σ H Q I h
  obtain ⟨nm, q, N, bs, bm, sn, sub, ab, col, dd, k0, k1, k2, k3, k5, BN, newId, initId, bmN, bmB, XF, hC, hbm⟩ := T.cls
  refine wpAny_Call_Name_kw (ld_glob I hg hm ?_ hdb)
  refine PySem.W.callWith_K (h₀ := X.base) I.ok.mod.kin T.kC (thn (ha.run pos pins s σ H _ I h) fun us s1 ⟨vs, H1, I1, r1, y, ev, q1⟩ => ⟨I1.kIn, ?_⟩) he hpl
  subst ev
  show wpAny _ _ (call (.ref C) us) _ _ _
  obtain ⟨hp, g, dr, tk, os⟩ := s1
  have hsz : hp.objs.size ≤ hp.objs.size + 1 := Nat.le_succ _
  have hn : H1 (hp.objs.size + 1) = none := I1.hok.fresh hsz
  have hq : spI X.K f [.ref (hp.objs.size + 1), y] (upd H1 (hp.objs.size + 1) (exo (hp.objs.size + 1) C none))
      (fun v H2 => v = .non ∧ ∃ (d : Addr) (fs : List (Str × V)), H2 (hp.objs.size + 1) = some (exo (hp.objs.size + 1) C (some d)) ∧ H2 d = some (exd d fs) ∧ H1 d = none ∧ Q (.ref C) (some d) (upd (del H2 (hp.objs.size + 1)) d (.xd fs))) (fun _ _ _ => False) := by
    refine ⟨_, C, fI, y, rfl, T, upd_same, fun dx nx ne => ⟨rfl, dx, [(f, y)], upd_same, by rw [upd_ne ne, upd_same], ?_, ?_⟩⟩
    · rw [upd_ne ne] at nx
      exact nx
    · have n1 : H1 dx = none := by
        rw [upd_ne ne] at nx
        exact nx
      have e : upd (del (upd (upd (upd H1 (hp.objs.size + 1) (exo (hp.objs.size + 1) C none)) dx (exd dx [(f, y)])) (hp.objs.size + 1) (exo (hp.objs.size + 1) C (some dx))) (hp.objs.size + 1)) dx (.xd [(f, y)]) = upd H1 dx (.xd [(f, y)]) := by
        funext b
        by_cases hb : b = dx
        · rw [hb, upd_same, upd_same]
        · rw [upd_ne hb, upd_ne hb]
          by_cases ha : b = hp.objs.size + 1
          · rw [ha, del_same, hn]
          · rw [del_ne ha, upd_ne ha, upd_ne hb, upd_ne ha]
      rw [e]
      exact q1 dx n1
  have kk : ∀ b o, hp.get? b = some o → ((hp.push (PySem.W.kdv_tup us)).push (PySem.HandSPX.excO C hp.objs.size)).get? b = some o := fun b o e => Heap.get?_push_of_some _ (Heap.get?_push_of_some _ e)
  have hget : ((hp.push (PySem.W.kdv_tup us)).push (PySem.HandSPX.excO C hp.objs.size)).get? (hp.objs.size + 1) = some (PySem.HandSPX.excO C hp.objs.size) := by heap_get
  have I2 : Inv X pins σ (upd H1 (hp.objs.size + 1) (exo (hp.objs.size + 1) C none)) ⟨(hp.push (PySem.W.kdv_tup us)).push (PySem.HandSPX.excO C hp.objs.size), g, dr, tk, os⟩ :=
    I1.laid (t' := tk) (a := hp.objs.size + 1) (o := exo (hp.objs.size + 1) C none) (h' := (hp.push (PySem.W.kdv_tup us)).push (PySem.HandSPX.excO C hp.objs.size)) kk hsz (exo_ok hget)
  have r2 : Vals [V.ref (hp.objs.size + 1), y] (Value.ref (hp.objs.size + 1) :: us) := .cons rfl r1
  have hl : (Value.ref (hp.objs.size + 1) :: us ++ []).length = (["self", pn] : List Str).length := by
    have := r2.length
    rw [List.append_nil]
    exact this.symm
  have hus : us.length ≤ sizeLine := by
    have := r1.length
    rw [← this, sizeLine_eq]
    show 1 ≤ _
    decide
  have hbd := hb _ (Value.ref (hp.objs.size + 1) :: us) I2.kIn hl
  rw [List.append_nil] at hbd
  refine wpAny_call (xf_call XF hbm (I1.kIn _ _ hC) (PySem.W.looks_findIn I1.kIn T.iC) (fun self => PySem.W.bind_fn I1.kIn self T.tI) hus
    (codeAny_mono (F1.run _ X.stack _ _ ⟨Value.ref (hp.objs.size + 1) :: us, []⟩ (Value.ref (hp.objs.size + 1) :: us) _ _ (fun _ _ _ => False) (hr.make C us []) (I2.env0.make C us []) hbd r2 hq) fun r s' hq' => ?_))
  cases r with
  | error er => exact hq'.elim
  | ok fl =>
    cases fl with
    | ret u =>
      obtain ⟨v, H2, os2, bare2, un2, hok2, rv, ev, d, fs, ea, ed, hd1, q2⟩ := hq'
      subst ev
      obtain ⟨h2, g2, d2, t2, os'⟩ := s'
      exact ⟨rv, mk_end (raises_own T.exC T.tyC) I1 hsz kk un2 hok2 os2 bare2 ea ed hd1 q2⟩
    | next => exact False.elim hq'
    | brk => exact False.elim hq'
    | cont => exact False.elim hq'
end
def raise1 (n f : Str) (fe : M EV) : M Fl := bnd fe fun e => fun ρ => match peek1 ρ e with
  | some d => if d.plain = true then .exc ⟨n, [(f, d)]⟩ ρ else .stuck
  | none => .stuck
section
variable {K : PySem.W.Frag} {mg : Str → Option Value} {W : WX} {Z H : Hp} {S : Fp} {σ : Sl} {X : Cx}
theorem peek_plain {ρ : Env} {ev : EV} {v : V} {d : D} {Sd : Fp} {H' : Hp} (er : EnvR K Z H ρ σ S) (r : EVR K Z H σ ev v Sd) (hp : peek1 ρ ev = some d) (hd : d.plain = true) : Rep K Z H' d v Fp0 := by
  cases ev with
  | val d' =>
    cases hp
    exact Rep.plain r hd
  | ref i =>
    obtain ⟨v', S1, S2, e1, _, _, _, r1, _⟩ := er.take (getD_some (show ρ.getD i none = some d from hp))
    have e2 : σ[i]? = some (some v) := r
    rw [e1] at e2
    cases e2
    exact Rep.plain r1 hd
theorem same_new {Z : Hp} {d : Addr} {o : HO} (h : Z d = none) : Same Z (upd Z d o) := fun a u e => by
  have : a ≠ d := fun q => by rw [q, h] at e; cases e
  rw [upd_ne this]
  exact e
theorem S_raise1 {A : Nat → Bool} {e : Expr} {fe : M EV} {n f pn : Str} {C fI : Addr} {k : Nat} {fd : FuncData} {p pos pos2 : Pos} (hc : X.calm = true) (tk : Takes X W) (T : XC X.K C fI f) (F1 : FnOk X.prog X.w X.K X.mg X.base CX0 k fI fd ["self", pn] (spI X.K f)) (hr : Room (k + 1) X.A) (hb : Binds X.K fd ["self", pn] []) (hm : X.mg n = some (.ref C)) (hg' : reg X.K n = some C) (ha : PA X [e] (tA X.K X.mg W (aCons fe aNil))) (hg : Gl X n := by rfl)
    (hdb : (n == ("__debug__" : Str)) = false := by decide) (he : starEach [e] X.env = (false, eval e X.env) :: starEach [] X.env := by rfl) (hpl : (backTo pos (starEach [] X.env)).any (·.1) = false := by rfl) :
    PS X (.Raise (some (.Call (.Name n p) [e] [] pos)) none pos2) (tS X.K X.mg W A (raise1 n f fe)) :=
  PS.of (ps_raise (W := W) hc tk (pmk_x1 T F1 hr hb hg hm ha hdb he hpl)) fun D σ H h => by
    obtain ⟨Z, ρ, S, w, er, o⟩ := h
    refine ⟨Z, ρ, S, w, er, ?_⟩
    simp only [raise1, bnd, aCons, aNil, ret] at o ⊢
    cases e1 : fe ρ with
    | stuck => rw [e1] at o; exact o.elim
    | exc x ρ1 => rw [e1] at o; exact o σ (Keep.refl σ)
    | ok ev ρ1 =>
      simp only [e1] at o ⊢
      intro vs Z' H' S' Sd st dj er' evr
      cases hp : peek1 ρ1 ev with
      | none => simp only [hp] at o; exact o.elim
      | some d =>
        simp only [hp] at o
        by_cases hd : d.plain = true
        · rw [if_pos hd] at o
          obtain ⟨y, rfl, ry⟩ : ∃ y, vs = [y] ∧ ∃ Sy, EVR X.K Z' H' σ ev y Sy := by
            match vs, evr with
            | [y], ⟨S1, S2, _, _, _, r, _⟩ => exact ⟨y, rfl, S1, r⟩
          obtain ⟨Sy, ry⟩ := ry
          refine ⟨y, rfl, fun dx ndx => ?_⟩
          have wd' : Wd Z' H' S' := st.wd.less fun a q => .inl q
          have zdx : Z' dx = none := wd'.zfree ndx
          have st1 : Step Z H S Z' H' S' := st.less fun a q => .inl q
          have sm : Same Z' (upd Z' dx (.xd [(f, y)])) := same_new zdx
          refine o σ (Keep.refl σ) (.ref C) (some dx) (upd Z' dx (.xd [(f, y)])) (upd H' dx (.xd [(f, y)])) S' (st1.trans (Step.allocZ wd' ndx)) (er'.move sm (fun a u sa e => ?_) fun a q => q) ⟨C, hm, hg', rfl, .inr ⟨dx, [y], rfl, upd_same, Fp0, Fp0, fun _ q => q, fun _ q => q, fun _ q _ => q, ?_, trivial⟩⟩
          · have : a ≠ dx := fun q => by rw [q, ndx] at e; cases e
            rw [upd_ne this]
            exact e
          · exact (peek_plain (H' := upd Z' dx (.xd [(f, y)])) er' ry hp hd).move sm (fun _ _ q => q.elim) fun _ q => q
        · rw [if_neg hd] at o
          exact o.elim
end
end Pm
namespace Pm
open PySem PySem.Spec PyProof.Rows L2
def putL {α : Type} (ks : List Key) (xs : List α) (k : Key) (d : α) : List α := if ks.any (fun k' => decide (k' = k)) = true then List.zipWith (fun k' x => if k' = k then d else x) ks xs else xs ++ [d]
def putKs (ks : List Key) (k : Key) : List Key := if ks.any (fun k' => decide (k' = k)) = true then ks else ks ++ [k]
end Pm
namespace Pm
open PySem PySem.Spec PyProof.Rows L2
section
variable {K : PySem.W.Frag} {mg : Str → Option Value} {W : WX} {Z Z' H H' : Hp} {S S' : Fp} {σ : Sl} {X : Cx}
theorem getD_none_set {ρ : Env} {j : Nat} (h : ρ.getD j none = none) (hl : j < ρ.length) : ρ.set j none = ρ := by
  rw [List.getD_eq_getElem?_getD, List.getElem?_eq_getElem hl] at h
  have : ρ[j] = none := h
  conv => rhs; rw [← List.set_getElem_self hl]
  rw [this]
/-- an index that is written -/
theorem E_cn {i : Int} {k : Nat} {p pos : Pos} : PE X (.UnaryOp .USub (.Constant (.int i) k p) pos) (tC (.int (-i))) := PE.of (pe_un un_neg pe_int) fun _ _ _ q => ⟨i, rfl, q⟩
end
end Pm
namespace Tr
/-- a tree: an operator with what is left and right of it -/
inductive LT where
  | leaf | node (l : LT) (k : Nat) (r : LT)
def LT.lab : LT → List Nat
  | .leaf => []
  | .node l k r => l.lab ++ k :: r.lab
def LT.root : LT → Option Nat
  | .leaf => none
  | .node _ k _ => some k
abbrev Ps := List (Option Nat)
/-- the parents are those of the tree, its root's is p -/
def Rz (P : Ps) : LT → Option Nat → Prop
  | .leaf, _ => True
  | .node l k r, p => P[k]? = some p ∧ Rz P l (some k) ∧ Rz P r (some k)
def Rs (P : Ps) : LT → Prop
  | .leaf => True
  | .node l k r => Rz P l (some k) ∧ Rz P r (some k)
def Cart (wk : Nat → Nat → Prop) : LT → Prop
  | .leaf => True
  | .node l k r => (∀ x ∈ l.lab, wk k x) ∧ (∀ x ∈ r.lab, wk k x) ∧ Cart wk l ∧ Cart wk r
theorem Rz.frame {P P' : Ps} : ∀ {T : LT} {p : Option Nat}, (∀ k ∈ T.lab, P'[k]? = P[k]?) → Rz P T p → Rz P' T p
  | .leaf, _, _, _ => trivial
  | .node l k r, p, h, ⟨h1, h2, h3⟩ => ⟨(h k (by simp [LT.lab])).trans h1, h2.frame fun x hx => h x (by simp [LT.lab, hx]), h3.frame fun x hx => h x (by simp [LT.lab, hx])⟩
theorem Rs.frame {P P' : Ps} : ∀ {T : LT}, (∀ k ∈ T.lab, T.root ≠ some k → P'[k]? = P[k]?) → T.lab.Nodup → Rs P T → Rs P' T
  | .leaf, _, _, _ => trivial
  | .node l k r, h, nd, ⟨h2, h3⟩ => by
    have nd' : (l.lab ++ k :: r.lab).Nodup := nd
    rw [List.nodup_append] at nd'
    obtain ⟨n1, n2, n3⟩ := nd'
    refine ⟨h2.frame fun x hx => h x (by simp [LT.lab, hx]) fun e => ?_, h3.frame fun x hx => h x (by simp [LT.lab, hx]) fun e => ?_⟩
    · cases e
      exact n3 k hx k (by simp) rfl
    · cases e
      exact (List.nodup_cons.mp n2).1 hx
theorem Rz.rs {P : Ps} : ∀ {T : LT} {p : Option Nat}, Rz P T p → Rs P T
  | .leaf, _, _ => trivial
  | .node _ _ _, _, ⟨_, h2, h3⟩ => ⟨h2, h3⟩
theorem Rs.rz {P : Ps} : ∀ {T : LT} {p : Option Nat}, Rs P T → (∀ k, T.root = some k → P[k]? = some p) → Rz P T p
  | .leaf, _, _, _ => trivial
  | .node _ k _, _, ⟨h2, h3⟩, h => ⟨h k rfl, h2, h3⟩
theorem root_mem : ∀ {T : LT} {k : Nat}, T.root = some k → k ∈ T.lab
  | .leaf, _, e => by cases e
  | .node _ _ _, _, e => by cases e; simp [LT.lab]
/-- the order of the operators: who is weaker -/
structure Ord (wk : Nat → Nat → Prop) : Prop where
  trans : ∀ {a b c}, wk a b → wk b c → wk a c
  tot : ∀ {a b}, a ≠ b → wk a b ∨ wk b a
  asym : ∀ {a b}, wk a b → ¬ wk b a
section
variable (bf : Nat → Nat → Bool)
/-- chain: the top first -/
def popL (op : Nat) : List Nat → Option Nat → List Nat × Option Nat
  | [], left => ([], left)
  | c :: cs, left => if bf c op = true then popL op cs (some c) else (c :: cs, left)
def putL (P : Ps) (op : Nat) : Option Nat → Ps
  | some l => P.set l (some op)
  | none => P
def putC (P : Ps) (op : Nat) : List Nat → Ps
  | c :: _ => P.set op (some c)
  | [] => P
def linkStep (s : Ps × List Nat) (op : Nat) : Ps × List Nat :=
  (putC (putL s.1 op (popL bf op s.2 none).2) op (popL bf op s.2 none).1, op :: (popL bf op s.2 none).1)
/-- the neighbour that a group belongs to: the last operator before it, the one after it -/
def own1 (op : Nat) : Option Nat → Nat
  | some c => if bf c op = true then c else op
  | none => op
def popS (op : Nat) : List (LT × Nat) → LT → List (LT × Nat) × LT
  | [], X => ([], X)
  | (L, c) :: s, X => if bf c op = true then popS op s (.node L c X) else ((L, c) :: s, X)
end
/-- labels of a spine from its foot on -/
def slab : List (LT × Nat) → List Nat
  | [] => []
  | (L, c) :: s => slab s ++ (L.lab ++ [c])
def Inv (P : Ps) : List (LT × Nat) → Prop
  | [] => True
  | (L, c) :: s => Rz P L (some c) ∧ P[c]? = some (s.head?.map (·.2)) ∧ Inv P s
def Hp (wk : Nat → Nat → Prop) : List (LT × Nat) → Prop
  | [] => True
  | (L, c) :: s => Cart wk L ∧ (∀ x ∈ L.lab, wk c x) ∧ (∀ q ∈ s, wk q.2 c ∧ ∀ x ∈ L.lab, wk q.2 x) ∧ Hp wk s
def coll : List (LT × Nat) → LT → LT
  | [], X => X
  | (L, c) :: s, X => coll s (.node L c X)
theorem coll_lab : ∀ (s : List (LT × Nat)) (X : LT), (coll s X).lab = slab s ++ X.lab
  | [], X => rfl
  | (L, c) :: s, X => by rw [coll, coll_lab s, slab]; simp [LT.lab]
theorem Inv.frame {P P' : Ps} : ∀ {s : List (LT × Nat)}, (∀ k ∈ slab s, P'[k]? = P[k]?) → Inv P s → Inv P' s
  | [], _, _ => trivial
  | (L, c) :: s, h, ⟨h1, h2, h3⟩ => ⟨h1.frame fun k hk => h k (by simp [slab, hk]), (h c (by simp [slab])).trans h2, h3.frame fun k hk => h k (by simp [slab, hk])⟩
/-- what the turns of the inner loop leave -/
theorem pop_ok {bf : Nat → Nat → Bool} {wk : Nat → Nat → Prop} (O : Ord wk) {P : Ps} {op : Nat} : ∀ (s : List (LT × Nat)) (X : LT) (left : Option Nat), (∀ q ∈ s, bf q.2 op = true ↔ wk op q.2) → (∀ q ∈ s, q.2 ≠ op) → Inv P s → Hp wk s → Rs P X → Cart wk X → (∀ x ∈ X.lab, wk op x) → (∀ q ∈ s, ∀ x ∈ X.lab, wk q.2 x) →
    (∀ q ∈ s.head?, ∀ k, X.root = some k → bf q.2 op = true ∨ left.isSome = true → P[k]? = some (some q.2)) →
    (left.isSome = true → left = X.root) →
    (popL bf op (s.map (·.2)) left).1 = (popS bf op s X).1.map (·.2) ∧
    ((popL bf op (s.map (·.2)) left).2.isSome = true → (popL bf op (s.map (·.2)) left).2 = (popS bf op s X).2.root) ∧
    ((popL bf op (s.map (·.2)) left).2 = none → (popS bf op s X) = (s, X) ∧ left = none) ∧
    Inv P (popS bf op s X).1 ∧ Hp wk (popS bf op s X).1 ∧ Rs P (popS bf op s X).2 ∧ Cart wk (popS bf op s X).2 ∧ (∀ x ∈ (popS bf op s X).2.lab, wk op x) ∧ (∀ q ∈ (popS bf op s X).1, ∀ x ∈ (popS bf op s X).2.lab, wk q.2 x) ∧
    slab (popS bf op s X).1 ++ (popS bf op s X).2.lab = slab s ++ X.lab ∧ (∀ q ∈ (popS bf op s X).1, wk q.2 op)
  | [], X, left, _, _, hi, hh, hx, hc, ho, hq, hr, hl => ⟨rfl, hl, fun e => ⟨rfl, e⟩, trivial, trivial, hx, hc, ho, hq, rfl, fun q h => (nomatch h)⟩
  | (L, c) :: s, X, left, hb, hne, ⟨i1, i2, i3⟩, ⟨p1, p2, p3, p4⟩, hx, hc, ho, hq, hr, hl => by
    by_cases h : bf c op = true
    · have w : wk op c := (hb (L, c) (by simp)).mp h
      have e1 : popL bf op (((L, c) :: s).map (·.2)) left = popL bf op (s.map (·.2)) (some c) := by simp [popL, h]
      have e2 : popS bf op ((L, c) :: s) X = popS bf op s (.node L c X) := by simp [popS, h]
      rw [e1, e2]
      have ih := pop_ok O (P := P) s (.node L c X) (some c) (fun q hq => hb q (by simp [hq])) (fun q hq => hne q (by simp [hq])) i3 p4
        ⟨i1, hx.rz fun k hk => hr (L, c) rfl k hk (.inl h)⟩
        ⟨p2, fun x hx => hq (L, c) (by simp) x hx, p1, hc⟩
        (fun x hx => by
          simp only [LT.lab, List.mem_append, List.mem_cons] at hx
          rcases hx with hx | rfl | hx
          · exact O.trans w (p2 x hx)
          · exact w
          · exact ho x hx)
        (fun q hq' x hx => by
          simp only [LT.lab, List.mem_append, List.mem_cons] at hx
          rcases hx with hx | rfl | hx
          · exact (p3 q hq').2 x hx
          · exact (p3 q hq').1
          · exact hq q (by simp [hq']) x hx)
        (fun q hq' k hk _ => by cases hk; rw [i2, Option.mem_def.mp hq']; rfl)
        (fun _ => rfl)
      obtain ⟨a1, a2, a3, a4, a5, a6, a7, a8, a9, a10, a11⟩ := ih
      refine ⟨a1, a2, fun e => ?_, a4, a5, a6, a7, a8, a9, ?_, a11⟩
      · cases (a3 e).2
      · rw [a10]; simp [slab, LT.lab]
    · have e1 : popL bf op (((L, c) :: s).map (·.2)) left = (c :: s.map (·.2), left) := by simp [popL, h]
      have e2 : popS bf op ((L, c) :: s) X = ((L, c) :: s, X) := by simp [popS, h]
      rw [e1, e2]
      have w : wk c op := by
        rcases O.tot (hne (L, c) (by simp)) with w | w
        · exact w
        · exact absurd ((hb (L, c) (by simp)).mpr w) h
      refine ⟨rfl, hl, fun e => ⟨rfl, e⟩, ⟨i1, i2, i3⟩, ⟨p1, p2, p3, p4⟩, hx, hc, ho, hq, rfl, fun q hq' => ?_⟩
      rcases List.mem_cons.mp hq' with rfl | hq'
      · exact w
      · exact O.trans (p3 q hq').1 w
theorem get_set_ne {P : Ps} {k j : Nat} {v : Option Nat} (h : j ≠ k) : (P.set k v)[j]? = P[j]? := by rw [List.getElem?_set_ne (Ne.symm h)]
theorem get_set_eq {P : Ps} {k : Nat} {v : Option Nat} (h : k < P.length) : (P.set k v)[k]? = some v := by rw [List.getElem?_set_self h]
theorem popL_left {bf : Nat → Nat → Bool} {op : Nat} : ∀ (s : List (LT × Nat)) (left : Option Nat), (popL bf op (s.map (·.2)) left).2.isSome = true → ∀ k, (popL bf op (s.map (·.2)) left).2 = some k → k ∈ slab s ∨ left = some k
  | [], left, _, k, e => .inr e
  | (L, c) :: s, left, h, k, e => by
    by_cases hb : bf c op = true
    · rw [show popL bf op (((L, c) :: s).map (·.2)) left = popL bf op (s.map (·.2)) (some c) by simp [popL, hb]] at h e
      rcases popL_left s (some c) h k e with h | h
      · exact .inl (by simp [slab, h])
      · cases h; exact .inl (by simp [slab])
    · rw [show popL bf op (((L, c) :: s).map (·.2)) left = (c :: s.map (·.2), left) by simp [popL, hb]] at e
      exact .inr e
theorem popS_suf {bf : Nat → Nat → Bool} {op : Nat} : ∀ (s : List (LT × Nat)) (X : LT), (popS bf op s X).1 <:+ s
  | [], X => List.suffix_refl _
  | (L, c) :: s, X => by
    by_cases h : bf c op = true
    · rw [show popS bf op ((L, c) :: s) X = popS bf op s (.node L c X) by simp [popS, h]]
      exact (popS_suf s _).trans (List.suffix_cons _ _)
    · rw [show popS bf op ((L, c) :: s) X = ((L, c) :: s, X) by simp [popS, h]]
      exact List.suffix_refl _
theorem slab_mem {s : List (LT × Nat)} {q : LT × Nat} (h : q ∈ s) : q.2 ∈ slab s := by
  induction s with
  | nil => cases h
  | cons a s ih =>
    obtain ⟨L, c⟩ := a
    rcases List.mem_cons.mp h with rfl | h
    · simp [slab]
    · simp [slab, ih h]
/-- one operator, the group before it -/
theorem step_ok {bf : Nat → Nat → Bool} {wk : Nat → Nat → Prop} (O : Ord wk) {P : Ps} {op : Nat} {s : List (LT × Nat)} {t : LT}
    (hb : ∀ q ∈ s, bf q.2 op = true ↔ wk op q.2) (hi : Inv P s) (hh : Hp wk s) (hx : Rs P t) (hc : Cart wk t) (ho : ∀ x ∈ t.lab, wk op x) (hq : ∀ q ∈ s, ∀ x ∈ t.lab, wk q.2 x)
    (hr : ∀ k, t.root = some k → P[k]? = some (some (own1 bf op (s.head?.map (·.2)))))
    (hn : (slab s ++ (t.lab ++ [op])).Nodup) (hl : ∀ k ∈ slab s ++ (t.lab ++ [op]), k < P.length) (hop : P[op]? = some none) :
    ∃ s' : List (LT × Nat), (linkStep bf (P, s.map (·.2)) op).2 = s'.map (·.2) ∧ Inv (linkStep bf (P, s.map (·.2)) op).1 s' ∧ Hp wk s' ∧ slab s' = slab s ++ (t.lab ++ [op]) ∧ (∃ L s'', s' = (L, op) :: s'') ∧
      (∀ k, k ∉ slab s → k ≠ op → (linkStep bf (P, s.map (·.2)) op).1[k]? = P[k]?) ∧ (linkStep bf (P, s.map (·.2)) op).1.length = P.length ∧ (∀ q ∈ s', q.2 = op ∨ q ∈ s) := by
  have hopn : op ∉ slab s ++ t.lab := by
    rw [← List.append_assoc, List.nodup_append] at hn
    intro e
    exact hn.2.2 op e op (by simp) rfl
  have hopl : op < P.length := hl op (by simp)
  have hne : ∀ q ∈ s, q.2 ≠ op := fun q hq' e => hopn (by rw [← e]; exact List.mem_append_left _ (slab_mem hq'))
  obtain ⟨a1, a2, a3, a4, a5, a6, a7, a8, a9, a10, a11⟩ := pop_ok O (P := P) s t none hb hne hi hh hx hc ho hq
    (fun q hq' k hk h => by
      rcases h with h | h
      · rw [hr k hk]
        cases s with
        | nil => cases hq'
        | cons a s => obtain ⟨L, c⟩ := a; cases hq'; simp [own1, h]
      · cases h) (fun h => by cases h)
  have suf := popS_suf (bf := bf) (op := op) s t
  have nd2 : (slab (popS bf op s t).1 ++ (popS bf op s t).2.lab).Nodup := by
    rw [a10]
    rw [← List.append_assoc, List.nodup_append] at hn
    exact hn.1
  have hopn2 : op ∉ slab (popS bf op s t).1 ++ (popS bf op s t).2.lab := by rw [a10]; exact hopn
  rw [List.nodup_append] at nd2
  generalize eS : (popS bf op s t).1 = S at *
  generalize eX : (popS bf op s t).2 = X at *
  generalize eC : (popL bf op (s.map (·.2)) none).1 = C at *
  generalize eL : (popL bf op (s.map (·.2)) none).2 = left at *
  have eK : linkStep bf (P, s.map (·.2)) op = (putC (putL P op left) op C, op :: C) := by
    unfold linkStep
    simp only [eC, eL]
  rw [eK]
  subst a1
  -- the parents after the first writing
  have key : ∃ P1 : Ps, P1 = putL P op left ∧ Rz P1 X (some op) ∧ (∀ k, k ∉ slab s → P1[k]? = P[k]?) ∧ (∀ k ∈ slab S, P1[k]? = P[k]?) ∧ P1.length = P.length := by
    refine ⟨_, rfl, ?_⟩
    cases left with
    | none =>
      obtain ⟨e, _⟩ := a3 rfl
      have e1 : S = s := by rw [← eS, e]
      have e2 : X = t := by rw [← eX, e]
      refine ⟨?_, fun k _ => rfl, fun k _ => rfl, rfl⟩
      rw [e2]
      refine hx.rz fun k hk => ?_
      rw [hr k hk]
      cases s with
      | nil => rfl
      | cons a s =>
        obtain ⟨L, c⟩ := a
        have w := a11 (L, c) (by rw [e1]; simp)
        have : ¬ bf c op = true := fun h => O.asym w ((hb (L, c) (by simp)).mp h)
        simp [own1, this]
    | some l =>
      have er : X.root = some l := (a2 rfl).symm
      have lm : l ∈ X.lab := root_mem er
      have lnS : l ∉ slab S := fun h => nd2.2.2 l h l lm rfl
      have ll : l < P.length := by
        have : l ∈ slab s ++ t.lab := by rw [← a10]; exact List.mem_append_right _ lm
        exact hl l (by rw [← List.append_assoc]; exact List.mem_append_left _ this)
      refine ⟨?_, fun k hk => ?_, fun k hk => get_set_ne fun e => lnS (by rw [← e]; exact hk), List.length_set⟩
      · refine Rs.rz (a6.frame (fun k hk hkr => get_set_ne fun e => hkr (by rw [e]; exact er)) nd2.2.1) fun k hk => ?_
        rw [er] at hk
        cases hk
        exact get_set_eq ll
      · refine get_set_ne fun e => hk ?_
        subst e
        have : k ∈ slab s ++ t.lab := by rw [← a10]; exact List.mem_append_right _ lm
        rcases List.mem_append.mp this with h | h
        · exact h
        · -- the root of X is an operator of the spine: it was popped
          exact (popL_left s none (by rw [eL]; rfl) k eL).elim (fun h => h) fun e => by cases e
  obtain ⟨P1, e1, r1, f1, f2, l1⟩ := key
  rw [← e1]
  clear e1
  refine ⟨(X, op) :: S, rfl, ?_, ?_, ?_, ⟨X, S, rfl⟩, ?_, ?_, ?_⟩
  · have opX : op ∉ X.lab := fun h => hopn2 (List.mem_append_right _ h)
    have opS : op ∉ slab S := fun h => hopn2 (List.mem_append_left _ h)
    cases S with
    | nil => exact ⟨r1, (f1 op fun h => hopn (List.mem_append_left _ h)).trans hop, trivial⟩
    | cons a S =>
      obtain ⟨L, c⟩ := a
      refine ⟨r1.frame fun k hk => get_set_ne fun e => opX (by rw [← e]; exact hk), get_set_eq (by rw [l1]; exact hopl), Inv.frame (fun k hk => ?_) a4⟩
      exact (get_set_ne fun e => opS (by rw [← e]; exact hk)).trans (f2 k hk)
  · exact ⟨a7, a8, fun q hq' => ⟨a11 q hq', a9 q hq'⟩, a5⟩
  · show slab S ++ (X.lab ++ [op]) = _
    rw [← List.append_assoc, a10, List.append_assoc]
  · intro k h1 h2
    cases S with
    | nil => exact f1 k h1
    | cons a S => exact (get_set_ne h2).trans (f1 k h1)
  · cases S with
    | nil => exact l1
    | cons a S => exact List.length_set.trans l1
  · intro q hq'
    rcases List.mem_cons.mp hq' with rfl | h
    · exact .inl rfl
    · exact .inr (suf.subset h)
/-- the labels of the parts of a level -/
def ilab : List (LT × Nat) → List Nat
  | [] => []
  | (t, k) :: is => t.lab ++ k :: ilab is
theorem coll_rz {P : Ps} : ∀ {s : List (LT × Nat)} {X : LT}, Inv P s → Rz P X (s.head?.map (·.2)) → Rz P (coll s X) none
  | [], X, _, h => h
  | (L, c) :: s, X, ⟨i1, i2, i3⟩, h => coll_rz (s := s) i3 ⟨i2, i1, h⟩
theorem coll_cart {wk : Nat → Nat → Prop} : ∀ {s : List (LT × Nat)} {X : LT}, Hp wk s → Cart wk X → (∀ q ∈ s, ∀ x ∈ X.lab, wk q.2 x) → Cart wk (coll s X)
  | [], X, _, h, _ => h
  | (L, c) :: s, X, ⟨p1, p2, p3, p4⟩, h, hq => coll_cart (s := s) p4 ⟨p2, fun x hx => hq (L, c) (by simp) x hx, p1, h⟩ fun q hq' x hx => by
    simp only [LT.lab, List.mem_append, List.mem_cons] at hx
    rcases hx with hx | rfl | hx
    · exact (p3 q hq').2 x hx
    · exact (p3 q hq').1
    · exact hq q (by simp [hq']) x hx
theorem coll_root : ∀ (s : List (LT × Nat)) (X : LT), s ≠ [] → (coll s X).root = (s.map (·.2)).getLast?
  | [], _, h => absurd rfl h
  | [(L, c)], X, _ => rfl
  | (L, c) :: a :: s, X, _ => by
    have := coll_root (a :: s) (.node L c X) (by simp)
    rw [coll, this]
    simp
def Owned (bf : Nat → Nat → Bool) (P : Ps) : Option Nat → List (LT × Nat) → LT → Prop
  | prev, [], t => ∀ k, t.root = some k → P[k]? = some prev
  | prev, (g, op) :: its, t => (∀ k, g.root = some k → P[k]? = some (some (own1 bf op prev))) ∧ Owned bf P (some op) its t
theorem Owned.frame {bf : Nat → Nat → Bool} {P P' : Ps} : ∀ {its : List (LT × Nat)} {t : LT} {prev : Option Nat}, (∀ q ∈ its, ∀ k ∈ q.1.lab, P'[k]? = P[k]?) → (∀ k ∈ t.lab, P'[k]? = P[k]?) → Owned bf P prev its t → Owned bf P' prev its t
  | [], t, prev, _, h2, h => fun k hk => (h2 k (root_mem hk)).trans (h k hk)
  | (g, op) :: its, t, prev, h1, h2, ⟨a, b⟩ => ⟨fun k hk => (h1 (g, op) (by simp) k (root_mem hk)).trans (a k hk), b.frame (fun q hq => h1 q (by simp [hq])) h2⟩
theorem ilab_op {its : List (LT × Nat)} {q : LT × Nat} (h : q ∈ its) : q.2 ∈ ilab its := by
  induction its with
  | nil => cases h
  | cons a its ih =>
    obtain ⟨t, k⟩ := a
    rcases List.mem_cons.mp h with rfl | h
    · simp [ilab]
    · simp [ilab, ih h]
theorem ilab_gr {its : List (LT × Nat)} {q : LT × Nat} (h : q ∈ its) {x : Nat} (hx : x ∈ q.1.lab) : x ∈ ilab its := by
  induction its with
  | nil => cases h
  | cons a its ih =>
    obtain ⟨t, k⟩ := a
    rcases List.mem_cons.mp h with rfl | h
    · simp [ilab, hx]
    · simp [ilab, ih h]
theorem ilab_nd {its : List (LT × Nat)} {q : LT × Nat} (hq : q ∈ its) (h : (ilab its).Nodup) : q.1.lab.Nodup := by
  induction its with
  | nil => cases hq
  | cons a its ih =>
    obtain ⟨u, k⟩ := a
    have h := List.nodup_append.mp (show (u.lab ++ k :: ilab its).Nodup from h)
    rcases List.mem_cons.mp hq with rfl | hq
    · exact h.1
    · exact ih hq (List.nodup_cons.mp h.2.1).2
theorem ops_ok {bf : Nat → Nat → Bool} {wk : Nat → Nat → Prop} (O : Ord wk) : ∀ (its : List (LT × Nat)) (t : LT) (s : List (LT × Nat)) (P : Ps),
    (∀ a, a ∈ s.map (·.2) ++ its.map (·.2) → ∀ b ∈ its.map (·.2), bf a b = true ↔ wk b a) → Inv P s → Hp wk s → (∀ q ∈ its, Rs P q.1 ∧ Cart wk q.1 ∧ P[q.2]? = some none) → Rs P t → Cart wk t →
    (∀ k, k ∈ s.map (·.2) ++ its.map (·.2) → (∀ q ∈ its, ∀ x ∈ q.1.lab, wk k x) ∧ ∀ x ∈ t.lab, wk k x) →
    Owned bf P (s.head?.map (·.2)) its t → (slab s ++ (ilab its ++ t.lab)).Nodup → (∀ k ∈ slab s ++ (ilab its ++ t.lab), k < P.length) →
    ∃ T : LT, T.lab = slab s ++ (ilab its ++ t.lab) ∧ Rz ((its.map (·.2)).foldl (linkStep bf) (P, s.map (·.2))).1 T none ∧ Cart wk T ∧
      (∀ k, k ∉ slab s → k ∉ ilab its → ((its.map (·.2)).foldl (linkStep bf) (P, s.map (·.2))).1[k]? = P[k]?) ∧ ((its.map (·.2)).foldl (linkStep bf) (P, s.map (·.2))).1.length = P.length ∧
      (s ≠ [] ∨ its ≠ [] → T.root = (((its.map (·.2)).foldl (linkStep bf) (P, s.map (·.2))).2).getLast?)
  | [], t, s, P, hb, hi, hh, hg, hx, hc, hw, ho, hn, hl => by
    refine ⟨coll s t, by simp [coll_lab, ilab], coll_rz hi (hx.rz ho), coll_cart hh hc fun q hq x hx => (hw q.2 (by simp; exact ⟨q.1, hq⟩)).2 x hx, fun k _ _ => rfl, rfl, fun h => ?_⟩
    rcases h with h | h
    · exact coll_root s t h
    · exact absurd rfl h
  | (g, op) :: its, t, s, P, hb, hi, hh, hg, hx, hc, hw, ho, hn, hl => by
    have hlab : slab s ++ (ilab ((g, op) :: its) ++ t.lab) = slab s ++ (g.lab ++ [op]) ++ (ilab its ++ t.lab) := by simp [ilab]
    rw [hlab] at hn hl
    have hn2 := List.nodup_append.mp hn
    obtain ⟨hg1, hg2, hg3⟩ := hg (g, op) (by simp)
    obtain ⟨s', e1, i1, h1, e2, ⟨L, s'', e3⟩, f1, l1, m1⟩ := step_ok O (P := P) (op := op) (s := s) (t := g) (bf := bf)
      (fun q hq => hb q.2 (List.mem_append_left _ (List.mem_map_of_mem hq)) op (by simp)) hi hh hg1 hg2 (fun x hx => (hw op (by simp)).1 (g, op) (by simp) x hx)
      (fun q hq x hx => (hw q.2 (List.mem_append_left _ (List.mem_map_of_mem hq))).1 (g, op) (by simp) x hx) ho.1 hn2.1 (fun k hk => hl k (List.mem_append_left _ hk)) hg3
    have e4 : linkStep bf (P, s.map (·.2)) op = ((linkStep bf (P, s.map (·.2)) op).1, s'.map (·.2)) := by rw [← e1]
    rw [List.map_cons, List.foldl_cons, e4]
    generalize (linkStep bf (P, s.map (·.2)) op).1 = P1 at *
    -- what was not touched
    have fr : ∀ k ∈ ilab its ++ t.lab, P1[k]? = P[k]? := fun k hk => f1 k (fun h => hn2.2.2 k (List.mem_append_left _ h) k hk rfl) fun e => hn2.2.2 op (by simp) k hk e.symm
    have sub : ∀ a, a ∈ s'.map (·.2) ++ its.map (·.2) → a ∈ s.map (·.2) ++ ((g, op) :: its).map (·.2) := by
      intro a ha
      rcases List.mem_append.mp ha with ha | ha
      · obtain ⟨q, hq, rfl⟩ := List.mem_map.mp ha
        rcases m1 q hq with e | h
        · rw [e]; simp
        · exact List.mem_append_left _ (List.mem_map_of_mem h)
      · exact List.mem_append_right _ (by rw [List.map_cons]; exact List.mem_cons_of_mem _ ha)
    have hd : s'.head?.map (·.2) = some op := by rw [e3]; rfl
    obtain ⟨T, t1, t2, t3, t4, t5, t6⟩ := ops_ok O its t s' P1 (fun a ha b hb' => hb a (sub a ha) b (by rw [List.map_cons]; exact List.mem_cons_of_mem _ hb')) i1 h1
      (fun q hq => by
        obtain ⟨a, b, c⟩ := hg q (by simp [hq])
        have nd : q.1.lab.Nodup := ilab_nd hq (List.nodup_append.mp hn2.2.1).1
        exact ⟨a.frame (fun k hk _ => fr k (List.mem_append_left _ (ilab_gr hq hk))) nd, b, (fr _ (List.mem_append_left _ (ilab_op hq))).trans c⟩)
      (hx.frame (fun k hk _ => fr k (List.mem_append_right _ hk)) (List.nodup_append.mp hn2.2.1).2.1) hc
      (fun k hk => ⟨fun q hq => (hw k (sub k hk)).1 q (by simp [hq]), (hw k (sub k hk)).2⟩)
      (by rw [hd]; exact ho.2.frame (fun q hq k hk => fr k (List.mem_append_left _ (ilab_gr hq hk))) fun k hk => fr k (List.mem_append_right _ hk))
      (by rw [e2]; exact hn) (by rw [e2, l1]; exact hl)
    refine ⟨T, by rw [t1, e2, hlab], t2, t3, fun k h1 h2 => ?_, by rw [t5, l1], fun _ => t6 (.inl (by rw [e3]; simp))⟩
    have h3 : k ∉ ilab its := fun h => h2 (by simp [ilab, h])
    have h4 : k ∉ slab s' := by
      rw [e2]
      intro h
      simp only [List.mem_append, List.mem_singleton] at h
      rcases h with h | h | h
      · exact h1 h
      · exact h2 (by simp [ilab, h])
      · exact h2 (by simp [ilab, h])
    rw [t4 k h4 h3]
    exact f1 k h1 fun e => h2 (by simp [ilab, e])
end Tr
namespace Tr
open Ex
def setR (P : Ps) (q : Option Nat) : Option Nat → Ps
  | some k => P.set k q
  | none => P
/-- the roots of the groups get their owners -/
def setG (bf : Nat → Nat → Bool) : Ps → Option Nat → List (Option Nat) → List Nat → Ps
  | P, prev, r :: rs, op :: ops => setG bf (setR P (some (own1 bf op prev)) r) (some op) rs ops
  | P, prev, r :: _, [] => setR P prev r
  | P, _, [], _ => P
def linkLv (bf : Nat → Nat → Bool) (P : Ps) (ops : List Nat) (roots : List (Option Nat)) : Ps × Option Nat := match ops with
  | [] => (P, roots.headD none)
  | _ => ((ops.foldl (linkStep bf) (setG bf P none roots ops, [])).1, (ops.foldl (linkStep bf) (setG bf P none roots ops, [])).2.getLast?)
theorem setR_len (P : Ps) (q r : Option Nat) : (setR P q r).length = P.length := by
  cases r <;> simp [setR]
theorem setR_ne {P : Ps} {q r : Option Nat} {k : Nat} (h : r ≠ some k) : (setR P q r)[k]? = P[k]? := by
  cases r with
  | none => rfl
  | some j => exact get_set_ne fun e => h (by rw [e])
theorem setR_eq {P : Ps} {q r : Option Nat} {k : Nat} (h : r = some k) (hl : k < P.length) : (setR P q r)[k]? = some q := by
  subst h; exact get_set_eq hl
def rootsOf (its : List (LT × Nat)) (t : LT) : List (Option Nat) := its.map (fun q => q.1.root) ++ [t.root]
theorem groups_ok {bf : Nat → Nat → Bool} : ∀ (its : List (LT × Nat)) (t : LT) (prev : Option Nat) (P : Ps), (ilab its ++ t.lab).Nodup → (∀ k ∈ ilab its ++ t.lab, k < P.length) →
    Owned bf (setG bf P prev (rootsOf its t) (its.map (·.2))) prev its t ∧ (∀ k, (∀ q ∈ its, q.1.root ≠ some k) → t.root ≠ some k → (setG bf P prev (rootsOf its t) (its.map (·.2)))[k]? = P[k]?) ∧ (setG bf P prev (rootsOf its t) (its.map (·.2))).length = P.length
  | [], t, prev, P, hn, hl => ⟨fun k hk => setR_eq hk (hl k (by simp [ilab, root_mem hk])), fun k _ h => setR_ne h, setR_len _ _ _⟩
  | (g, op) :: its, t, prev, P, hn, hl => by
    have hlab : ilab ((g, op) :: its) ++ t.lab = g.lab ++ ([op] ++ (ilab its ++ t.lab)) := by simp [ilab]
    rw [hlab] at hn hl
    have hn1 := List.nodup_append.mp hn
    have hn2 := List.nodup_append.mp hn1.2.1
    obtain ⟨a, b, c⟩ := groups_ok its t (some op) (setR P (some (own1 bf op prev)) g.root) hn2.2.1 (fun k hk => by rw [setR_len]; exact hl k (by simp at hk ⊢; rcases hk with h | h <;> simp [h]))
    have e : setG bf P prev (rootsOf ((g, op) :: its) t) (((g, op) :: its).map (·.2)) = setG bf (setR P (some (own1 bf op prev)) g.root) (some op) (rootsOf its t) (its.map (·.2)) := rfl
    rw [e]
    refine ⟨⟨fun k hk => ?_, a⟩, fun k h1 h2 => ?_, by rw [c, setR_len]⟩
    · have hk' := root_mem hk
      rw [b k (fun q hq h => hn1.2.2 k hk' k (List.mem_append_right _ (List.mem_append_left _ (ilab_gr hq (root_mem h)))) rfl) fun h => hn1.2.2 k hk' k (List.mem_append_right _ (List.mem_append_right _ (root_mem h))) rfl]
      exact setR_eq hk (hl k (List.mem_append_left _ hk'))
    · rw [b k (fun q hq => h1 q (by simp [hq])) h2]
      exact setR_ne (h1 (g, op) (by simp))
theorem level_ok {bf : Nat → Nat → Bool} {wk : Nat → Nat → Prop} (O : Ord wk) {its : List (LT × Nat)} {t : LT} {P : Ps}
    (hb : ∀ a ∈ its.map (·.2), ∀ b ∈ its.map (·.2), bf a b = true ↔ wk b a) (hg : ∀ q ∈ its, Rz P q.1 none ∧ Cart wk q.1 ∧ P[q.2]? = some none) (hx : Rz P t none) (hc : Cart wk t)
    (hw : ∀ k ∈ its.map (·.2), (∀ q ∈ its, ∀ x ∈ q.1.lab, wk k x) ∧ ∀ x ∈ t.lab, wk k x) (hn : (ilab its ++ t.lab).Nodup) (hl : ∀ k ∈ ilab its ++ t.lab, k < P.length) :
    ∃ T : LT, T.lab = ilab its ++ t.lab ∧ Rz (linkLv bf P (its.map (·.2)) (rootsOf its t)).1 T none ∧ Cart wk T ∧ (∀ k, k ∉ ilab its ++ t.lab → (linkLv bf P (its.map (·.2)) (rootsOf its t)).1[k]? = P[k]?) ∧
      (linkLv bf P (its.map (·.2)) (rootsOf its t)).1.length = P.length ∧ T.root = (linkLv bf P (its.map (·.2)) (rootsOf its t)).2 := by
  by_cases h : its = []
  · subst h
    exact ⟨t, rfl, hx, hc, fun k _ => rfl, rfl, rfl⟩
  · have e : linkLv bf P (its.map (·.2)) (rootsOf its t) = (((its.map (·.2)).foldl (linkStep bf) (setG bf P none (rootsOf its t) (its.map (·.2)), [])).1, ((its.map (·.2)).foldl (linkStep bf) (setG bf P none (rootsOf its t) (its.map (·.2)), [])).2.getLast?) := by
      cases its with
      | nil => exact absurd rfl h
      | cons a its => rfl
    obtain ⟨g1, g2, g3⟩ := groups_ok (bf := bf) its t none P hn hl
    rw [e]
    generalize setG bf P none (rootsOf its t) (its.map (·.2)) = P1 at *
    have hn1 := List.nodup_append.mp hn
    have opr : ∀ (its : List (LT × Nat)), (ilab its).Nodup → ∀ q ∈ its, ∀ q' ∈ its, q'.2 ∉ q.1.lab := by
      intro its
      induction its with
      | nil => intro _ q hq; cases hq
      | cons a its ih =>
        intro nd q hq q' hq'
        obtain ⟨u, k⟩ := a
        have nd := List.nodup_append.mp (show (u.lab ++ k :: ilab its).Nodup from nd)
        have nd2 := List.nodup_cons.mp nd.2.1
        rcases List.mem_cons.mp hq with rfl | hq <;> rcases List.mem_cons.mp hq' with rfl | hq'
        · exact fun hx => nd.2.2 _ hx k (by simp) rfl
        · exact fun hx => nd.2.2 _ hx q'.2 (List.mem_cons_of_mem _ (ilab_op hq')) rfl
        · exact fun hx => nd2.1 (ilab_gr hq hx)
        · exact ih nd2.2 q hq q' hq'
    have tr : ∀ q ∈ its, ∀ k ∈ q.1.lab, t.root ≠ some k := fun q hq k hk h => hn1.2.2 k (ilab_gr hq hk) k (root_mem h) rfl
    have gdis : ∀ (its : List (LT × Nat)), (ilab its).Nodup → ∀ q ∈ its, ∀ q' ∈ its, ∀ k ∈ q.1.lab, q'.1.root = some k → q.1.root = some k := by
      intro its
      induction its with
      | nil => intro _ q hq; cases hq
      | cons a its ih =>
        intro nd q hq q' hq' k hk hr
        obtain ⟨u, j⟩ := a
        have nd := List.nodup_append.mp (show (u.lab ++ j :: ilab its).Nodup from nd)
        have nd2 := List.nodup_cons.mp nd.2.1
        rcases List.mem_cons.mp hq with rfl | hq <;> rcases List.mem_cons.mp hq' with rfl | hq'
        · exact hr
        · exact absurd rfl (nd.2.2 k hk k (List.mem_cons_of_mem _ (ilab_gr hq' (root_mem hr))))
        · exact absurd rfl (nd.2.2 k (root_mem hr) k (List.mem_cons_of_mem _ (ilab_gr hq hk)))
        · exact ih nd2.2 q hq q' hq' k hk hr
    obtain ⟨T, t1, t2, t3, t4, t5, t6⟩ := ops_ok O its t [] P1 (fun a ha b hb' => hb a (by simpa using ha) b hb') trivial trivial
      (fun q hq => by
        obtain ⟨a, b, c⟩ := hg q hq
        refine ⟨a.rs.frame (fun k hk hkr => g2 k (fun q' hq' h => hkr (gdis its hn1.1 q hq q' hq' k hk h)) (tr q hq k hk)) (ilab_nd hq hn1.1), b, ?_⟩
        rw [g2 q.2 (fun q' hq' h => opr its hn1.1 q' hq' q hq (root_mem h)) fun h => hn1.2.2 q.2 (ilab_op hq) q.2 (root_mem h) rfl]
        exact c)
      (hx.rs.frame (fun k hk hkr => g2 k (fun q' hq' h => hn1.2.2 k (ilab_gr hq' (root_mem h)) k hk rfl) hkr) hn1.2.1) hc
      (fun k hk => hw k (by simpa using hk)) g1 (by simpa [slab] using hn) (by rw [g3]; simpa [slab] using hl)
    refine ⟨T, by simpa [slab] using t1, t2, t3, fun k hk => ?_, by rw [← g3]; exact t5, t6 (.inr h)⟩
    have h1 : k ∉ ilab its := fun x => hk (List.mem_append_left _ x)
    have h2 : k ∉ t.lab := fun x => hk (List.mem_append_right _ x)
    exact (t4 k (by simp [slab]) h1).trans (g2 k (fun q hq e => h1 (ilab_gr hq (root_mem e))) fun e => h2 (root_mem e))
abbrev TS := Ps × List (List Nat × List (Option Nat)) × Nat
def shut (bf : Nat → Nat → Bool) (P : Ps) (n : Nat) : List (List Nat × List (Option Nat)) → TS
  | (os, rs) :: (os2, rs2) :: B => ((linkLv bf P os rs).1, (os2, rs2 ++ [(linkLv bf P os rs).2]) :: B, n)
  | B => (P, B, n)
def addR : List (List Nat × List (Option Nat)) → Option Nat → List (List Nat × List (Option Nat))
  | (os, rs) :: B, r => (os, rs ++ [r]) :: B
  | [], _ => []
def addO : List (List Nat × List (Option Nat)) → Nat → List (List Nat × List (Option Nat))
  | (os, rs) :: B, n => (os ++ [n], rs) :: B
  | [], _ => []
def stp (bf : Nat → Nat → Bool) (s : TS) (c : Nat) : TS :=
  if c = 40 then (s.1, ([], []) :: s.2.1, s.2.2) else if c = 41 then shut bf s.1 s.2.2 s.2.1 else if c = 46 then (s.1, addR s.2.1 none, s.2.2) else (s.1, addO s.2.1 s.2.2, s.2.2 + 1)
mutual
def Op.deps : Op → Nat → List Nat
  | .dot, _ => []
  | .par e, d => E.deps e (d + 1)
def E.deps : E → Nat → List Nat
  | .one o, d => Op.deps o d
  | .cons o _ e, d => Op.deps o d ++ d :: E.deps e d
end
def wkO (dep : Nat → Nat) (v : Nat → Int) (a b : Nat) : Prop := dep a < dep b ∨ dep a = dep b ∧ (v a < v b ∨ v a = v b ∧ b < a)
theorem wkO_ord (dep : Nat → Nat) (v : Nat → Int) : Ord (wkO dep v) := by
  refine ⟨fun {a b c} h1 h2 => ?_, fun {a b} h => ?_, fun {a b} h1 h2 => ?_⟩ <;> unfold wkO at * <;> omega
def bfO (v : Nat → Int) (a b : Nat) : Bool := decide (v a > v b) || (decide (v a = v b) && decide (a < b))
theorem bfO_wk {dep : Nat → Nat} {v : Nat → Int} {a b : Nat} (h : dep a = dep b) : bfO v a b = true ↔ wkO dep v b a := by
  unfold bfO wkO
  simp only [Bool.or_eq_true, Bool.and_eq_true, decide_eq_true_eq]
  omega
mutual
theorem Op.deps_len : ∀ (o : Op) (d : Nat), (Op.deps o d).length = o.lets.length
  | .dot, _ => rfl
  | .par e, d => E.deps_len e (d + 1)
theorem E.deps_len : ∀ (e : E) (d : Nat), (E.deps e d).length = e.lets.length
  | .one o, d => Op.deps_len o d
  | .cons o _ e, d => by simp [E.deps, E.lets, Op.deps_len o d, E.deps_len e d]
end
mutual
theorem Op.deps_ge : ∀ (o : Op) (d : Nat), ∀ x ∈ Op.deps o d, d < x
  | .dot, _, x, h => by simp [Op.deps] at h
  | .par e, d, x, h => by have := E.deps_ge e (d + 1) x h; omega
theorem E.deps_ge : ∀ (e : E) (d : Nat), ∀ x ∈ E.deps e d, d ≤ x
  | .one o, d, x, h => Nat.le_of_lt (Op.deps_ge o d x h)
  | .cons o _ e, d, x, h => by
    simp only [E.deps, List.mem_append, List.mem_cons] at h
    rcases h with h | h | h
    · exact Nat.le_of_lt (Op.deps_ge o d x h)
    · omega
    · exact E.deps_ge e d x h
end
theorem stp_let {bf : Nat → Nat → Bool} {P : Ps} {os : List Nat} {rs : List (Option Nat)} {B : List (List Nat × List (Option Nat))} {n c : Nat} (h : isL c = true) : stp bf (P, (os, rs) :: B, n) c = (P, (os ++ [n], rs) :: B, n + 1) := by
  obtain ⟨h1, h2, h3⟩ := isL_40 h
  simp [stp, h1, h2, h3, addO]
theorem stp_opn {bf : Nat → Nat → Bool} {P : Ps} {B : List (List Nat × List (Option Nat))} {n : Nat} : stp bf (P, B, n) 40 = (P, ([], []) :: B, n) := rfl
theorem stp_cls {bf : Nat → Nat → Bool} {P : Ps} {os os2 : List Nat} {rs rs2 : List (Option Nat)} {B : List (List Nat × List (Option Nat))} {n : Nat} : stp bf (P, (os, rs) :: (os2, rs2) :: B, n) 41 = ((linkLv bf P os rs).1, (os2, rs2 ++ [(linkLv bf P os rs).2]) :: B, n) := rfl
/-- what a level leaves -/
structure Lvl (dep : Nat → Nat) (v : Nat → Int) (n d len : Nat) (P P' : Ps) (its : List (LT × Nat)) (t : LT) : Prop where
  lab : ilab its ++ t.lab = List.range' n len
  gr : ∀ q ∈ its, Rz P' q.1 none ∧ Cart (wkO dep v) q.1 ∧ P'[q.2]? = some none
  lst : Rz P' t none
  crt : Cart (wkO dep v) t
  dop : ∀ q ∈ its, dep q.2 = d
  dgr : ∀ q ∈ its, ∀ x ∈ q.1.lab, d < dep x
  dls : ∀ x ∈ t.lab, d < dep x
  fr : ∀ k, ¬ (n ≤ k ∧ k < n + len) → P'[k]? = P[k]?
  len : P'.length = P.length
theorem Lvl.link {dep : Nat → Nat} {v : Nat → Int} {n d len : Nat} {P P' : Ps} {its : List (LT × Nat)} {t : LT} (h : Lvl dep v n d len P P' its t) (hl : n + len ≤ P.length) :
    ∃ T : LT, T.lab = List.range' n len ∧ Rz (linkLv (bfO v) P' (its.map (·.2)) (rootsOf its t)).1 T none ∧ Cart (wkO dep v) T ∧ (∀ k, ¬ (n ≤ k ∧ k < n + len) → (linkLv (bfO v) P' (its.map (·.2)) (rootsOf its t)).1[k]? = P[k]?) ∧
      (linkLv (bfO v) P' (its.map (·.2)) (rootsOf its t)).1.length = P.length ∧ T.root = (linkLv (bfO v) P' (its.map (·.2)) (rootsOf its t)).2 := by
  have mr : ∀ k, k ∈ List.range' n len ↔ n ≤ k ∧ k < n + len := fun k => by rw [List.mem_range'_1]
  have dd : ∀ k ∈ its.map (·.2), dep k = d := fun k hk => by obtain ⟨q, hq, rfl⟩ := List.mem_map.mp hk; exact h.dop q hq
  obtain ⟨T, t1, t2, t3, t4, t5, t6⟩ := level_ok (wkO_ord dep v) (its := its) (t := t) (P := P') (bf := bfO v)
    (fun a ha b hb => bfO_wk ((dd a ha).trans (dd b hb).symm)) h.gr h.lst h.crt
    (fun k hk => ⟨fun q hq x hx => .inl (by rw [dd k hk]; exact h.dgr q hq x hx), fun x hx => .inl (by rw [dd k hk]; exact h.dls x hx)⟩)
    (by rw [h.lab]; exact List.nodup_range') (fun k hk => by rw [h.lab, mr] at hk; rw [h.len]; omega)
  refine ⟨T, t1.trans h.lab, t2, t3, fun k hk => ?_, t5.trans h.len, t6⟩
  rw [t4 k (by rw [h.lab, mr]; exact hk)]
  exact h.fr k hk
theorem range'_app (n a b : Nat) : List.range' n (a + b) = List.range' n a ++ List.range' (n + a) b := by
  rw [List.range'_append_1]
mutual
theorem Op.run {dep : Nat → Nat} {v : Nat → Int} : ∀ (o : Op) (n d : Nat) (P : Ps) (os : List Nat) (rs : List (Option Nat)) (B : List (List Nat × List (Option Nat))), (∀ c ∈ o.lets, isL c = true) → (List.range' n o.lets.length).map dep = Op.deps o d → (∀ k, n ≤ k → k < n + o.lets.length → P[k]? = some none) → n + o.lets.length ≤ P.length →
    ∃ (P' : Ps) (T : LT), o.text.foldl (stp (bfO v)) (P, (os, rs) :: B, n) = (P', (os, rs ++ [T.root]) :: B, n + o.lets.length) ∧ T.lab = List.range' n o.lets.length ∧ Rz P' T none ∧ Cart (wkO dep v) T ∧ (∀ k, ¬ (n ≤ k ∧ k < n + o.lets.length) → P'[k]? = P[k]?) ∧ P'.length = P.length ∧ (∀ x ∈ T.lab, d < dep x)
  | .dot, n, d, P, os, rs, B, _, _, _, _ => ⟨P, .leaf, rfl, rfl, trivial, trivial, fun _ _ => rfl, rfl, fun x h => (nomatch h)⟩
  | .par e, n, d, P, os, rs, B, hL, hd, hP, hl => by
    obtain ⟨P', its, t, e1, L⟩ := E.run (v := v) e n (d + 1) P [] [] ((os, rs) :: B) hL hd hP hl
    obtain ⟨T, t1, t2, t3, t4, t5, t6⟩ := L.link hl
    refine ⟨_, T, ?_, t1, t2, t3, t4, t5, fun x hx => ?_⟩
    · show (40 :: (e.text ++ [41])).foldl _ _ = _
      rw [List.foldl_cons, stp_opn, List.foldl_append, e1, List.nil_append, List.nil_append, List.foldl_cons, List.foldl_nil, stp_cls, ← t6]
      rfl
    · rw [t1] at hx
      have := List.mem_map_of_mem (f := dep) hx
      rw [show (List.range' n e.lets.length).map dep = E.deps e (d + 1) from hd] at this
      exact E.deps_ge e (d + 1) _ this
theorem E.run {dep : Nat → Nat} {v : Nat → Int} : ∀ (e : E) (n d : Nat) (P : Ps) (os : List Nat) (rs : List (Option Nat)) (B : List (List Nat × List (Option Nat))), (∀ c ∈ e.lets, isL c = true) → (List.range' n e.lets.length).map dep = E.deps e d → (∀ k, n ≤ k → k < n + e.lets.length → P[k]? = some none) → n + e.lets.length ≤ P.length →
    ∃ (P' : Ps) (its : List (LT × Nat)) (t : LT), e.text.foldl (stp (bfO v)) (P, (os, rs) :: B, n) = (P', (os ++ its.map (·.2), rs ++ rootsOf its t) :: B, n + e.lets.length) ∧ Lvl dep v n d e.lets.length P P' its t
  | .one o, n, d, P, os, rs, B, hL, hd, hP, hl => by
    obtain ⟨P', T, e1, t1, t2, t3, t4, t5, t6⟩ := Op.run (v := v) o n d P os rs B hL hd hP hl
    exact ⟨P', [], T, by rw [show (E.one o).text = o.text from rfl, e1]; simp [rootsOf, E.lets], ⟨t1, fun q h => (nomatch h), t2, t3, fun q h => (nomatch h), fun q h => (nomatch h), t6, t4, t5⟩⟩
  | .cons o c e, n, d, P, os, rs, B, hL, hd, hP, hl => by
    have hlen : (E.cons o c e).lets.length = o.lets.length + (1 + e.lets.length) := by simp [E.lets]; omega
    have hL1 : ∀ x ∈ o.lets, isL x = true := fun x hx => hL x (by simp [E.lets, hx])
    have hL2 : ∀ x ∈ e.lets, isL x = true := fun x hx => hL x (by simp [E.lets, hx])
    have hc : isL c = true := hL c (by simp [E.lets])
    rw [hlen, range'_app, range'_app, List.map_append, List.map_append, show E.deps (.cons o c e) d = Op.deps o d ++ ([d] ++ E.deps e d) from rfl] at hd
    obtain ⟨hd1, hd2⟩ := List.append_inj hd (by simp [Op.deps_len])
    obtain ⟨hd3, hd4⟩ := List.append_inj hd2 (by simp)
    have hdn : dep (n + o.lets.length) = d := by simpa using hd3
    rw [hlen] at hl hP
    obtain ⟨P1, T, e1, t1, t2, t3, t4, t5, t6⟩ := Op.run (v := v) o n d P os rs B hL1 hd1 (fun k h1 h2 => hP k h1 (by omega)) (by omega)
    obtain ⟨P2, its, t, e2, L⟩ := E.run (v := v) e (n + o.lets.length + 1) d P1 (os ++ [n + o.lets.length]) (rs ++ [T.root]) B hL2 hd4 (fun k h1 h2 => by rw [t4 k (by omega)]; exact hP k (by omega) (by omega)) (by omega)
    have m1 : ∀ k, k ∈ T.lab → n ≤ k ∧ k < n + o.lets.length := fun k hk => by rw [t1, List.mem_range'_1] at hk; exact hk
    refine ⟨P2, (T, n + o.lets.length) :: its, t, ?_, ⟨?_, ?_, L.lst, L.crt, ?_, ?_, L.dls, ?_, L.len.trans t5⟩⟩
    · rw [show (E.cons o c e).text = o.text ++ c :: e.text from rfl, List.foldl_append, e1, List.foldl_cons, stp_let hc, e2, hlen]
      simp [rootsOf]; omega
    · rw [hlen, range'_app, range'_app]
      show (T.lab ++ (n + o.lets.length) :: ilab its) ++ t.lab = _
      rw [List.append_assoc, List.cons_append, L.lab, t1]
      rfl
    · intro q hq
      rcases List.mem_cons.mp hq with rfl | hq
      · exact ⟨t2.frame fun k hk => L.fr k (by have := m1 k hk; omega), t3, (L.fr _ (by omega)).trans ((t4 _ (by omega)).trans (hP _ (by omega) (by omega)))⟩
      · exact L.gr q hq
    · intro q hq
      rcases List.mem_cons.mp hq with rfl | hq
      · exact hdn
      · exact L.dop q hq
    · intro q hq
      rcases List.mem_cons.mp hq with rfl | hq
      · exact t6
      · exact L.dgr q hq
    · intro k hk
      rw [hlen] at hk
      rw [L.fr k (by omega), t4 k (by omega)]
end
def endP (v : Nat → Int) : TS → Ps
  | (P, (os, rs) :: _, _) => (linkLv (bfO v) P os rs).1
  | (P, [], _) => P
/-- the tree of an expression -/
def treeP (v : Nat → Int) (l : List Nat) (n : Nat) : Ps := endP v (l.foldl (stp (bfO v)) (List.replicate n none, [([], [])], 0))
theorem tree_run {v : Nat → Int} {e : E} (hL : ∀ c ∈ e.lets, isL c = true) : ∃ T : LT, T.lab = List.range e.lets.length ∧ Rz (treeP v e.text e.lets.length) T none ∧ Cart (wkO (fun k => (E.deps e 0).getD k 0) v) T ∧ (treeP v e.text e.lets.length).length = e.lets.length := by
  obtain ⟨P', its, t, e1, L⟩ := E.run (v := v) (dep := fun k => (E.deps e 0).getD k 0) e 0 0 (List.replicate e.lets.length none) [] [] [] hL (by
    apply List.ext_getElem
    · simp [E.deps_len]
    · intro i h1 h2
      simp
      rw [List.getElem?_eq_getElem h2]
      rfl) (fun k _ h => by simp at h; simp [h]) (by simp)
  obtain ⟨T, t1, t2, t3, t4, t5, t6⟩ := L.link (by simp)
  have e2 : treeP v e.text e.lets.length = (linkLv (bfO v) P' (its.map (·.2)) (rootsOf its t)).1 := by
    unfold treeP
    rw [e1]
    simp [endP]
  rw [e2]
  exact ⟨T, by rw [t1, List.range_eq_range'], t2, t3, by rw [t5]; simp⟩
end Tr
namespace Pg
open PySem PySem.Spec PyProof.Rows L2 Pm
def has (t : Tab) (c : Nat) : Prop := ∃ r ∈ t, r.1 = c
theorem put_len {α : Type} (ks : List Key) (k : Key) : (putKs ks k).length ≤ ks.length + 1 := by
  unfold putKs
  split <;> simp
def SmT (t : Tab) : Prop := ∀ r ∈ t, Sm 60 r.2.1 ∧ Sm 60 r.2.2
theorem SmT.of {t : Tab} (h : TabOk t) : SmT t := fun r hr => by
  have := h.num r hr
  unfold Sm GR at *
  omega
end Pg
namespace Pg
open PySem PySem.Spec PyProof.Rows L2 Pm
def oD (b : Bool) (os : List Nat) : D := .node b .lst (os.map fun k : Nat => D.int (k : Int))
def rtD : Option Nat → D
  | none => .non
  | some k => .int (k : Int)
def pD (P : Tr.Ps) : D := .node true .lst (P.map rtD)
theorem oD_plain (os : List Nat) : plainL (os.map fun k : Nat => D.int (k : Int)) = true := by
  induction os with
  | nil => rfl
  | cons x xs ih => rw [List.map_cons, plainL, ih]; rfl
theorem frz_ints (os : List Nat) : frzL (os.map fun k : Nat => D.int (k : Int)) = os.map fun k : Nat => D.int (k : Int) := frzL_of_plain _ (oD_plain os)
theorem rts_plain (roots : List (Option Nat)) : plainL (roots.map rtD) = true := by
  induction roots with
  | nil => rfl
  | cons x xs ih => rw [List.map_cons, plainL, ih]; cases x <;> rfl
end Pg
namespace Pm
open PySem PySem.Spec PyProof.Rows L2
end Pm
set_option maxHeartbeats 2000000
namespace Pm
open PySem PySem.Spec PyProof.Rows L2
end Pm
set_option maxHeartbeats 2000000
namespace Pm
open PySem PySem.Spec PyProof.Rows L2
end Pm
set_option maxHeartbeats 2000000
namespace Pm
open PySem PySem.Spec PyProof.Rows L2
/-- what is known of a class, so that its instances may be asked -/
structure XK (K : PySem.W.Frag) (C : Addr) : Prop where
  ga : PySem.W.findIn K (.ref C) "__getattribute__" = some (some (.builtin "BaseException.__getattribute__"))
  gg : PySem.W.findIn K (.ref C) "__getattr__" = some none
  exC : PySem.W.subIn K (.ref C) (.type "BaseException") = some true
  hdC : PySem.W.hasDictIn K C = true
  ca : PySem.W.findIn K (.ref C) "__class__" = some (some (.builtin "object.__class__"))
  sp : PySem.W.specialIn K (.builtin "object.__class__") "__get__" = some (some (.builtin "getset_descriptor.__get__"))
  tk : PySem.W.takesIn K (.builtin "object.__class__") = some true
  mo : PySem.W.mroIn K C (.type "object") = some true
end Pm
set_option maxHeartbeats 2000000
namespace Pm
open PySem PySem.Spec PyProof.Rows L2
section
variable {K : PySem.W.Frag} {mg : Str → Option Value} {W : WX} {Z H : Hp} {S : Fp} {σ : Sl} {X : Cx}
theorem peek_rep {ρ : Env} {ev : EV} {v : V} {d : D} {Sd : Fp} (er : EnvR K Z H ρ σ S) (r : EVR K Z H σ ev v Sd) (hp : peek1 ρ ev = some d) : ∃ S0, Rep K Z H d v S0 := by
  cases ev with
  | val d' =>
    cases hp
    exact ⟨Sd, r⟩
  | ref i =>
    obtain ⟨v', S1, S2, e1, _, _, _, r1, _⟩ := er.take (getD_some (show ρ.getD i none = some d from hp))
    have e2 : σ[i]? = some (some v) := r
    rw [e1] at e2
    cases e2
    exact ⟨S1, r1⟩
theorem look_rep {f : Str} : ∀ {fs : List Str} {xs : List D} {ys : List V} {S : Fp} {d : D}, RepL K Z H xs ys S → (fs.zip xs).lookup f = some d → ∃ y S0, (fs.zip ys).lookup f = some y ∧ Rep K Z H d y S0
  | [], xs, ys, S, d, _, h => by simp at h
  | g :: fs, [], ys, S, d, _, h => by simp at h
  | g :: fs, x :: xs, [], S, d, r, _ => r.elim
  | g :: fs, x :: xs, y :: ys, S, d, ⟨S1, S2, _, _, _, r, q⟩, h => by
    rw [List.zip_cons_cons, List.lookup_cons] at h
    rw [List.zip_cons_cons, List.lookup_cons]
    cases e : f == g with
    | true =>
      simp only [e] at h ⊢
      cases h
      exact ⟨y, S1, rfl, r⟩
    | false =>
      simp only [e] at h ⊢
      exact look_rep q h
end
end Pm
namespace Pm
open PySem PySem.Spec PyProof.Rows L2
end Pm
namespace Pm
open PySem PySem.Spec PyProof.Rows L2
section
variable {K : PySem.W.Frag} {mg : Str → Option Value} {W : WX} {Z Z' H H' : Hp} {S S' : Fp} {σ : Sl} {X : Cx} {e o : Expr} {fa fb : M EV}
theorem RepL.ins {d : D} {v : V} (rd : Rep K Z H d v Fp0) : ∀ {ds : List D} {vs : List V} {S : Fp} {i : Nat}, RepL K Z H ds vs S → RepL K Z H (ds.take i ++ [d] ++ ds.drop i) (vs.take i ++ [v] ++ vs.drop i) S
  | [], [], S, i, h => by
    simp only [List.take_nil, List.drop_nil, List.nil_append, List.append_nil]
    exact ⟨Fp0, S, fun _ x => x.elim, fun _ x => x, fun _ x => x.elim, rd, h⟩
  | [], _ :: _, _, _, h => h.elim
  | _ :: _, [], _, _, h => h.elim
  | d' :: ds, v' :: vs, S, 0, h => ⟨Fp0, S, fun _ x => x.elim, fun _ x => x, fun _ x => x.elim, rd, h⟩
  | d' :: ds, v' :: vs, S, i + 1, ⟨S1, S2, s1, s2, dj, r, q⟩ => ⟨S1, S2, s1, s2, dj, r, RepL.ins rd q⟩
end
end Pm
namespace Pm
open PySem PySem.Spec PyProof.Rows L2
end Pm
namespace Pm
open PySem PySem.Spec PyProof.Rows L2
end Pm
namespace Tr
open Ex
structure LvOk (n : Nat) (q : List Nat × List (Option Nat)) : Prop where
  asc : q.1.Pairwise (· < ·)
  ops : ∀ k ∈ q.1, k < n
  rts : ∀ r ∈ q.2, ∀ k, r = some k → k < n
theorem LvOk.mono {n m : Nat} {q : List Nat × List (Option Nat)} (h : LvOk n q) (l : n ≤ m) : LvOk m q := ⟨h.asc, fun k hk => Nat.lt_of_lt_of_le (h.ops k hk) l, fun r hr k e => Nat.lt_of_lt_of_le (h.rts r hr k e) l⟩
end Tr
namespace Pg
open PySem PySem.Spec PyProof.Rows L2 Pm
theorem ix_last {n : Nat} : ixN (n + 1) (-1) = some n := by
  unfold ixN
  rw [if_neg (by omega), if_pos (by omega)]
  congr 1
  omega
def st0 (n : Nat) : Tr.TS := (List.replicate n none, [([], [])], 0)
end Pg
namespace Tr
theorem lab_split {l r : LT} {k a m : Nat} (h : (LT.node l k r).lab = List.range' a m) : ∃ m1 m2, l.lab = List.range' a m1 ∧ k = a + m1 ∧ r.lab = List.range' (a + m1 + 1) m2 ∧ m = m1 + 1 + m2 := by
  have hl := congrArg List.length h
  simp [LT.lab] at hl
  refine ⟨l.lab.length, r.lab.length, ?_⟩
  have h2 : l.lab ++ k :: r.lab = List.range' a m := h
  rw [← hl, ← List.range'_append_1] at h2
  obtain ⟨h3, h4⟩ := List.append_inj h2 (by simp)
  rw [List.range'_succ] at h4
  injection h4 with h5 h6
  exact ⟨h3, h5, h6, by omega⟩
/-- who stands above, the nearest first -/
def anc : LT → Nat → List Nat
  | .leaf, _ => []
  | .node l k r, x => if x = k then [] else if x < k then anc l x ++ [k] else anc r x ++ [k]
/-- the subtree of an operator -/
def subT : LT → Nat → LT
  | .leaf, _ => .leaf
  | .node l k r, x => if x = k then .node l k r else if x < k then subT l x else subT r x
/-- in order, without a gap -/
def Run (T : LT) (a m : Nat) : Prop := T.lab = List.range' a m
theorem Run.mem {T : LT} {a m x : Nat} (h : Run T a m) : x ∈ T.lab ↔ a ≤ x ∧ x < a + m := by rw [h, List.mem_range'_1]
theorem Run.root {T : LT} {a m k : Nat} (h : Run T a m) (e : T.root = some k) : a ≤ k ∧ k < a + m := h.mem.mp (root_mem e)
theorem anc_par {P : Ps} : ∀ {T : LT} {a m x : Nat} {p : Option Nat}, Run T a m → Rz P T p → a ≤ x → x < a + m → P[x]? = some ((anc T x).head?.or p)
  | .leaf, a, m, x, p, h, _, h1, h2 => by
    have := congrArg List.length h
    simp [LT.lab] at this
    omega
  | .node l k r, a, m, x, p, h, ⟨z1, z2, z3⟩, h1, h2 => by
    obtain ⟨m1, m2, e1, rfl, e2, rfl⟩ := lab_split h
    unfold anc
    by_cases hx : x = a + m1
    · subst hx; rw [if_pos rfl]; exact z1
    · rw [if_neg hx]
      by_cases hlt : x < a + m1
      · rw [if_pos hlt, anc_par (T := l) e1 z2 h1 hlt]
        cases anc l x <;> rfl
      · rw [if_neg hlt, anc_par (T := r) e2 z3 (by omega) (by omega)]
        cases anc r x <;> rfl
theorem anc_none {P : Ps} {T : LT} {n x : Nat} (h : Run T 0 n) (z : Rz P T none) (hx : x < n) : P[x]? = some (anc T x).head? := by
  rw [anc_par h z (Nat.zero_le _) (by omega)]
  cases anc T x <;> rfl
theorem anc_mem {T : LT} {a m x : Nat} (h : Run T a m) : ∀ y ∈ anc T x, y ∈ T.lab := by
  clear h
  induction T with
  | leaf => intro y hy; cases hy
  | node l k r i1 i2 =>
    intro y hy
    unfold anc at hy
    split at hy
    · cases hy
    · split at hy
      · rcases List.mem_append.mp hy with hy | hy
        · simp [LT.lab, i1 y hy]
        · simp at hy; simp [LT.lab, hy]
      · rcases List.mem_append.mp hy with hy | hy
        · simp [LT.lab, i2 y hy]
        · simp at hy; simp [LT.lab, hy]
end Tr
namespace Tr
theorem Run.zero {a m : Nat} (h : Run .leaf a m) : m = 0 := by
  have := congrArg List.length h
  simp [LT.lab] at this
  omega
theorem anc_nil {T : LT} {a m x : Nat} (h : Run T a m) (h1 : a ≤ x) (h2 : x < a + m) : anc T x = [] ↔ T.root = some x := by
  cases T with
  | leaf => have := h.zero; omega
  | node l k r =>
    unfold anc
    by_cases e : x = k
    · simp [e, LT.root]
    · simp only [e, if_false, LT.root, Option.some.injEq]
      split
      · simp; exact fun q => e q.symm
      · simp; exact fun q => e q.symm
theorem anc_tail : ∀ {T : LT} {a m x z : Nat}, Run T a m → a ≤ x → x < a + m → (anc T x).head? = some z → anc T x = z :: anc T z
  | .leaf, a, m, x, z, h, h1, h2, _ => by have := h.zero; omega
  | .node l k r, a, m, x, z, h, h1, h2, e => by
    obtain ⟨m1, m2, e1, rfl, e2, rfl⟩ := lab_split h
    by_cases hx : x = a + m1
    · rw [anc, if_pos hx] at e; cases e
    · have key : ∀ (s : LT) (b n : Nat), Run s b n → b ≤ x → x < b + n → anc (.node l (a + m1) r) x = anc s x ++ [a + m1] → (∀ y, y ∈ s.lab → anc (.node l (a + m1) r) y = anc s y ++ [a + m1]) → (∀ z, (anc s x).head? = some z → anc s x = z :: anc s z) → anc (.node l (a + m1) r) x = z :: anc (.node l (a + m1) r) z := by
        intro s b n hs hb1 hb2 ha hal ih
        rw [ha] at e ⊢
        cases hh : anc s x with
        | nil =>
          rw [hh] at e
          cases e
          simp [anc]
        | cons q qs =>
          rw [hh] at e
          cases e
          have hq := ih z (by rw [hh]; rfl)
          rw [hh] at hq
          have hm : z ∈ s.lab := anc_mem hs z (by rw [hh]; simp)
          rw [hal z hm, ← List.cons_append, ← hq]
      by_cases hlt : x < a + m1
      · refine key l a m1 e1 h1 hlt (by rw [anc, if_neg hx, if_pos hlt]) (fun y hy => ?_) fun z hz => anc_tail e1 h1 hlt hz
        have := (Run.mem e1).mp hy
        rw [anc, if_neg (by omega), if_pos this.2]
      · refine key r (a + m1 + 1) m2 e2 (by omega) (by omega) (by rw [anc, if_neg hx, if_neg hlt]) (fun y hy => ?_) fun z hz => anc_tail e2 (by omega) (by omega) hz
        have := (Run.mem e2).mp hy
        rw [anc, if_neg (by omega), if_neg (by omega)]
theorem sub_lt {l r : LT} {k p : Nat} (h : p < k) : subT (.node l k r) p = subT l p := by rw [subT, if_neg (by omega), if_pos h]
theorem sub_gt {l r : LT} {k p : Nat} (h : k < p) : subT (.node l k r) p = subT r p := by rw [subT, if_neg (by omega), if_neg (by omega)]
theorem sub_eq {l r : LT} {k : Nat} : subT (.node l k r) k = .node l k r := by rw [subT, if_pos rfl]
theorem sub_lab : ∀ {T : LT} {a m x : Nat}, Run T a m → a ≤ x → x < a + m → ∀ y ∈ (subT T x).lab, y ∈ T.lab
  | .leaf, a, m, x, h, h1, h2 => by have := h.zero; omega
  | .node l q r, a, m, x, h, h1, h2 => by
    obtain ⟨m1, m2, e1, rfl, e2, rfl⟩ := lab_split h
    intro y hy
    rcases Nat.lt_trichotomy x (a + m1) with hp | hp | hp
    · rw [sub_lt hp] at hy
      have := sub_lab e1 h1 hp y hy
      simp [LT.lab, this]
    · subst hp; rw [sub_eq] at hy; exact hy
    · rw [sub_gt hp] at hy
      have := sub_lab e2 (by omega) (by omega) y hy
      simp [LT.lab, this]
/-- the subtree is in order, without a gap -/
theorem sub_run : ∀ {T : LT} {a m x : Nat}, Run T a m → a ≤ x → x < a + m → ∃ lo hi, a ≤ lo ∧ lo ≤ x ∧ x < hi ∧ hi ≤ a + m ∧ Run (subT T x) lo (hi - lo)
  | .leaf, a, m, x, h, h1, h2 => by have := h.zero; omega
  | .node l q r, a, m, x, h, h1, h2 => by
    obtain ⟨m1, m2, e1, rfl, e2, rfl⟩ := lab_split h
    rcases Nat.lt_trichotomy x (a + m1) with hp | hp | hp
    · obtain ⟨lo, hi, a1, a2, a3, a4, a5⟩ := sub_run e1 h1 hp
      exact ⟨lo, hi, a1, a2, a3, by omega, by rw [sub_lt hp]; exact a5⟩
    · subst hp
      exact ⟨a, a + (m1 + 1 + m2), Nat.le_refl _, by omega, by omega, by omega, by rw [sub_eq, Nat.add_sub_cancel_left]; exact h⟩
    · obtain ⟨lo, hi, a1, a2, a3, a4, a5⟩ := sub_run e2 (by omega) (by omega : x < a + m1 + 1 + m2)
      exact ⟨lo, hi, by omega, a2, a3, by omega, by rw [sub_gt hp]; exact a5⟩
end Tr
namespace Pm
open PySem PySem.Spec PyProof.Rows L2
section
variable {K : PySem.W.Frag} {mg : Str → Option Value} {W : WX} {Z Z' H H' : Hp} {S S' : Fp} {σ : Sl} {X : Cx} {e : Expr} {pos : Pos} {fa : M EV}
def srcEnumT (f : M EV) : M (List D) := bnd (srcSeq f .tup) fun ds => ret (enumD 0 ds)
end
end Pm
namespace Pg
open PySem PySem.Spec PyProof.Rows L2 Pm
noncomputable def b_is_integer : M Fl := (rtn (andE (app opIsi (aCons (loc 0) (aCons (con (.op (.ty "int"))) aNil))) (notE (app opIsi (aCons (loc 0) (aCons (con (.op (.ty "bool"))) aNil))))))
noncomputable def x_is_integer : FSem := mkF 1 1 [] b_is_integer
noncomputable def b_is_between : M Fl := (rtn (andE (callF x_is_integer (aCons (loc 0) aNil)) (chI cLe cLe (loc 1) (loc 0) (loc 2))))
noncomputable def x_is_between : FSem := mkF 3 3 [] b_is_between
noncomputable def b_check_operator : M Fl := (Pm.ite (notT (tst (callF x_is_between (aCons (loc 1) (aCons (con (.int 0)) (aCons (Pm.bin (on2I iSub) (app opLen (aCons (loc 0) aNil)) (con (.int 1))) aNil)))))) (raise1 "NoOperator" "index" (loc 1)) sNx)
noncomputable def x_check_operator : FSem := mkF 2 2 [] b_check_operator
noncomputable def b_sides_of_1 : M Fl := (Pm.ite (andT (tst (Pm.bin opNotN (loc 4) (con .non))) (tst (Pm.bin opLtA (loc 3) (loc 4)))) (asg (loc 3) (gI 1 (loc 4))) (Pm.ite (tst (Pm.bin opNotN (loc 4) (con .non))) (asg (loc 3) (gI 2 (loc 4))) sNx))
noncomputable def b_sides_of : M Fl := (seq (asg (Pm.bin hMulT (disp true .lst (aCons (con .non) aNil)) (app opLen (aCons (loc 0) aNil))) (gN 1))
    (seq (asg (Pm.bin hMulT (disp true .lst (aCons (con .non) aNil)) (app opLen (aCons (loc 0) aNil))) (gN 2))
    (seq (forS (srcEnumT (loc 0)) (gT (gsC (gN 3) (gsC (gN 4) gs0)) 2) b_sides_of_1)
    (rtn (disp false .tup (aCons (loc 1) (aCons (loc 2) aNil)))))))
noncomputable def x_sides_of : FSem := mkF 1 5 [] b_sides_of
noncomputable def t_span_of_1 : M Bool := (tst (Pm.bin opNotN (idx (aCons (loc 2) (aCons (loc 4) aNil))) (con .non)))
noncomputable def b_span_of_1 : M Fl := (asg (idx (aCons (loc 2) (aCons (loc 4) aNil))) (gN 4))
noncomputable def t_span_of_2 : M Bool := (tst (Pm.bin opNotN (idx (aCons (loc 3) (aCons (loc 5) aNil))) (con .non)))
noncomputable def b_span_of_2 : M Fl := (asg (idx (aCons (loc 3) (aCons (loc 5) aNil))) (gN 5))
noncomputable def b_span_of : M Fl := (seq (drp (callF x_check_operator (aCons (loc 0) (aCons (loc 1) aNil))))
    (seq (asg (callF x_sides_of (aCons (loc 0) aNil)) (gT (gsC (gN 2) (gsC (gN 3) gs0)) 2))
    (seq (asg2 (loc 1) (gN 4) (gN 5))
    (seq (whl t_span_of_1 b_span_of_1)
    (seq (whl t_span_of_2 b_span_of_2)
    (rtn (disp false .tup (aCons (loc 4) (aCons (loc 5) aNil)))))))))
noncomputable def x_span_of : FSem := mkF 2 6 [] b_span_of
end Pg
namespace Pg
open PySem PySem.Spec PyProof.Rows L2 Pm
theorem rt_plain (p : Option Nat) : (rtD p).plain = true := by cases p <;> rfl
theorem rt_frz (p : Option Nat) : (rtD p).frz = rtD p := by cases p <;> rfl
end Pg
namespace Pg
open PySem PySem.Spec PyProof.Rows L2 Pm
end Pg
namespace Pg
open PySem PySem.Spec PyProof.Rows L2 Pm
end Pg
namespace Pg
open PySem PySem.Spec PyProof.Rows L2 Pm
end Pg
namespace Tr
theorem run_zero {T : LT} {a : Nat} (h : Run T a 0) : T = .leaf := by
  cases T with
  | leaf => rfl
  | node l k r =>
    have := congrArg List.length h
    simp [LT.lab] at this
theorem cart_unique {wk : Nat → Nat → Prop} (O : Ord wk) : ∀ {T T' : LT} {a m : Nat}, Run T a m → Run T' a m → Cart wk T → Cart wk T' → T = T'
  | .leaf, T', a, m, h, h', _, _ => by
    have : m = 0 := by
      have := congrArg List.length h
      simpa [LT.lab] using this.symm
    subst this
    exact (run_zero h').symm
  | .node l k r, .leaf, a, m, h, h', _, _ => by
    have : m = 0 := by
      have := congrArg List.length h'
      simpa [LT.lab] using this.symm
    subst this
    exact run_zero h
  | .node l k r, .node l' k' r', a, m, h, h', ⟨c1, c2, c3, c4⟩, ⟨d1, d2, d3, d4⟩ => by
    obtain ⟨m1, m2, e1, rfl, e2, hm⟩ := lab_split h
    obtain ⟨n1, n2, f1, rfl, f2, hn⟩ := lab_split h'
    have w : ∀ x, a ≤ x → x < a + m → x ≠ a + m1 → wk (a + m1) x := fun x x1 x2 x3 => by
      by_cases q : x < a + m1
      · exact c1 x ((Run.mem e1).mpr ⟨x1, q⟩)
      · exact c2 x ((Run.mem e2).mpr ⟨by omega, by omega⟩)
    have w' : ∀ x, a ≤ x → x < a + m → x ≠ a + n1 → wk (a + n1) x := fun x x1 x2 x3 => by
      by_cases q : x < a + n1
      · exact d1 x ((Run.mem f1).mpr ⟨x1, q⟩)
      · exact d2 x ((Run.mem f2).mpr ⟨by omega, by omega⟩)
    have e : m1 = n1 := Classical.byContradiction fun q => O.asym (w (a + n1) (by omega) (by omega) (by omega)) (w' (a + m1) (by omega) (by omega) (by omega))
    subst e
    have e2' : m2 = n2 := by omega
    subst e2'
    rw [cart_unique O e1 f1 c3 d3, cart_unique O e2 f2 c4 d4]
theorem rz_unique {P P' : Ps} {T : LT} {n : Nat} (h : Run T 0 n) (z : Rz P T none) (z' : Rz P' T none) (l : P.length = n) (l' : P'.length = n) : P = P' := by
  apply List.ext_getElem?
  intro i
  by_cases hi : i < n
  · rw [anc_none h z hi, anc_none h z' hi]
  · rw [List.getElem?_eq_none (by omega), List.getElem?_eq_none (by omega)]
end Tr
namespace Pm
open PySem PySem.Spec PyProof.Rows L2
end Pm
namespace Pm
open PySem PySem.Spec PyProof.Rows L2
def okK : Key → Bool
  | .inl i => decide (i.natAbs.log2 < 200)
  | .inr x => x.cps.toList.all fun c => decide (c < 128)
def wtK : List Key → Nat
  | [] => 0
  | .inl _ :: r => 1 + wtK r
  | .inr x :: r => x.cps.size + 1 + wtK r
mutual
def okD (B : Nat) : D → Bool
  | .non => true
  | .bl _ => true
  | .int i => decide (i.natAbs ≤ B)
  | .str x => x.cps.toList.all fun c => decide (c < 128)
  | .op _ => false
  | .node _ .lst xs => okL B xs
  | .node _ .tup xs => okL B xs
  | .node _ (.dct ks) xs => decide (ks.length = xs.length) && (ks.all okK && okL B xs)
  | .node _ _ _ => false
def okL (B : Nat) : List D → Bool
  | [] => true
  | d :: ds => okD B d && okL B ds
end
mutual
def wtD : D → Nat
  | .str x => x.cps.size
  | .node _ (.dct ks) xs => wtK ks + wtL xs
  | .node _ _ xs => wtL xs
  | _ => 0
def wtL : List D → Nat
  | [] => 0
  | d :: ds => wtD d + 1 + wtL ds
end
theorem okL_all {B : Nat} : ∀ {xs : List D}, okL B xs = true ↔ ∀ x ∈ xs, okD B x = true
  | [] => by simp [okL]
  | x :: xs => by rw [okL, Bool.and_eq_true, okL_all]; simp
theorem wtL_mem {x : D} : ∀ {xs : List D}, x ∈ xs → wtD x + 1 ≤ wtL xs
  | y :: ys, h => by
    rw [wtL]
    rcases List.mem_cons.mp h with h | h
    · subst h; omega
    · have := wtL_mem h; omega
theorem wtL_len : ∀ (xs : List D), xs.length ≤ wtL xs
  | [] => Nat.zero_le _
  | x :: xs => by rw [wtL, List.length_cons]; have := wtL_len xs; omega
theorem ok_ty {B : Nat} {d : D} (h : okD B d = true) : (tyN d).isSome = true := by
  cases d with
  | node o k xs => cases k <;> first | rfl | simp [okD] at h
  | op v => simp [okD] at h
  | _ => rfl
end Pm
set_option maxHeartbeats 1000000
namespace Pg
open PySem PySem.Spec PyProof.Rows L2 Pm
/-- things at which nothing stops -/
structure Fi (B : Nat) (d : D) : Prop where
  ok : okD B d = true
  wt : wtD d ≤ 4000
theorem Fi.ty {B : Nat} {d : D} (h : Fi B d) : (tyN d).isSome = true := ok_ty h.ok
theorem Fi.str {B : Nat} {s : Str} (h : Fi B (.str s)) : s.length ≤ 1000000 := by
  have := h.wt
  rw [wtD] at this
  show s.cps.size ≤ 1000000
  omega
theorem Fi.len {B : Nat} {o : Bool} {k : Kd} {xs : List D} (h : Fi B (.node o k xs)) : xs.length ≤ 4000 := by
  have h1 := h.wt
  have h2 := wtL_len xs
  cases k <;> rw [wtD] at h1 <;> first | omega | simp
theorem Fi.tup {B : Nat} {o : Bool} {xs : List D} (h : Fi B (.node o .tup xs)) : ∀ x ∈ xs, Fi B x := fun x hx => by
  have h1 := h.ok
  have h2 := h.wt
  rw [okD] at h1
  rw [wtD] at h2
  · have := wtL_mem hx
    exact ⟨okL_all.mp h1 x hx, by omega⟩
  · simp
theorem Fi.lst {B : Nat} {o : Bool} {xs : List D} (h : Fi B (.node o .lst xs)) : ∀ x ∈ xs, Fi B x := fun x hx => by
  have h1 := h.ok
  have h2 := h.wt
  rw [okD] at h1
  rw [wtD] at h2
  · have := wtL_mem hx
    exact ⟨okL_all.mp h1 x hx, by omega⟩
  · simp
end Pg
namespace Tr
/-- what waits: operators with the parts behind them -/
def rest : List (Nat × LT) → List Nat
  | [] => []
  | q :: s => q.1 :: q.2.lab ++ rest s
end Tr
namespace Pm
open PySem PySem.Spec PyProof.Rows L2
/-- m ends in the exception x, and R holds of the slots then -/
def Xp {α : Type} (m : M α) (ρ : Env) (x : XD) (R : Env → Prop) : Prop := ∃ ρ', m ρ = .exc x ρ' ∧ R ρ'
theorem Xp.of {α : Type} {m : M α} {ρ ρ' : Env} {x : XD} {R : Env → Prop} (e : m ρ = .exc x ρ') (h : R ρ') : Xp m ρ x R := ⟨ρ', e, h⟩
theorem Xp.mono {α : Type} {m : M α} {ρ : Env} {x : XD} {R R' : Env → Prop} (h : Xp m ρ x R) (i : ∀ ρ', R ρ' → R' ρ') : Xp m ρ x R' := by
  obtain ⟨ρ', e, r⟩ := h
  exact ⟨ρ', e, i ρ' r⟩
theorem xp_left {a b : M Fl} {ρ : Env} {x : XD} {R : Env → Prop} (h : Xp a ρ x R) : Xp (seq a b) ρ x R := by
  obtain ⟨ρ', e, r⟩ := h
  exact ⟨ρ', by unfold seq bnd; rw [e], r⟩
theorem xf_mkF {n m : Nat} {reb : List Nat} {b : M Fl} {ds as : List D} {x : XD} (hn : ds.length = n) (hm : n ≤ m) (h : Xp b ((reFrz reb 0 ds).map some ++ List.replicate (m - n) none) x fun ρ => argsBack reb ρ 0 (reFrz reb 0 ds) = some as) : mkF n m reb b ds = .exc x as := by
  obtain ⟨ρ', e, r⟩ := h
  unfold mkF
  rw [if_pos ⟨hn, hm⟩, e]
  simp only [r]
end Pm
set_option maxHeartbeats 1000000
namespace Pg
open PySem PySem.Spec PyProof.Rows L2 Pm
end Pg
namespace Tr
abbrev Seg := Nat × Nat × Option Nat
def inS (w : Seg) (x : Nat) : Prop := w.1 ≤ x ∧ x < w.2.1
/-- the parts that wait: apart from one another, below n -/
structure Wt (n : Nat) (W : List Seg) : Prop where
  lt : ∀ w ∈ W, w.1 ≤ w.2.1 ∧ w.2.1 ≤ n
  dj : W.Pairwise fun v w => ∀ x, inS v x → ¬ inS w x
def Fill (P : Ps) (w : Seg) : Prop := ∃ t : LT, Run t w.1 (w.2.1 - w.1) ∧ Rz P t w.2.2
/-- what is told of the parents, if all that waits is filled, is a tree -/
def Half (n : Nat) (P : Ps) (W : List Seg) : Prop := P.length = n ∧ ∀ P' : Ps, P'.length = n → (∀ x, x < n → (∀ w ∈ W, ¬ inS w x) → P'[x]? = P[x]?) → (∀ w ∈ W, Fill P' w) → ∃ T : LT, Run T 0 n ∧ Rz P' T none
theorem half_start (n : Nat) : Half n (List.replicate n none) [(0, n, none)] := by
  refine ⟨by simp, fun P' _ _ h => ?_⟩
  obtain ⟨t, h1, h2⟩ := h _ List.mem_cons_self
  exact ⟨t, by simpa using h1, h2⟩
theorem wt_start (n : Nat) : Wt n [(0, n, none)] := ⟨fun w hw => by simp at hw; subst hw; exact ⟨Nat.zero_le _, Nat.le_refl _⟩, List.pairwise_singleton _ _⟩
theorem half_end {n : Nat} {P : Ps} (h : Half n P []) : ∃ T : LT, Run T 0 n ∧ Rz P T none := h.2 P h.1 (fun _ _ _ => rfl) (fun w hw => (nomatch hw))
theorem half_skip {n : Nat} {P : Ps} {W : List Seg} {f e : Nat} {ab : Option Nat} (h : Half n P (W ++ [(f, e, ab)])) (hfe : e ≤ f) : Half n P W := by
  refine ⟨h.1, fun P' hl hk hf => h.2 P' hl (fun x hx hn => hk x hx fun w hw => hn w (by simp [hw])) fun w hw => ?_⟩
  rcases List.mem_append.mp hw with hw | hw
  · exact hf w hw
  · obtain rfl := List.mem_singleton.mp hw
    refine ⟨.leaf, ?_, trivial⟩
    show [] = List.range' f (e - f)
    rw [show e - f = 0 by omega]
    rfl
theorem wt_skip {n : Nat} {W : List Seg} {w : Seg} (h : Wt n (W ++ [w])) : Wt n W := ⟨fun v hv => h.lt v (by simp [hv]), (List.pairwise_append.mp h.dj).1⟩
theorem wt_two {n : Nat} {W : List Seg} {f e r : Nat} {ab : Option Nat} (h : Wt n (W ++ [(f, e, ab)])) (h1 : f ≤ r) (h2 : r < e) : Wt n (W ++ [(f, r, some r), (r + 1, e, some r)]) := by
  obtain ⟨d1, _, d2⟩ := List.pairwise_append.mp h.dj
  have hl := h.lt (f, e, ab) (by simp)
  simp only at hl
  refine ⟨fun w hw => ?_, List.pairwise_append.mpr ⟨d1, ?_, fun v hv w hw x hx hy => ?_⟩⟩
  · rcases List.mem_append.mp hw with hw | hw
    · exact h.lt w (by simp [hw])
    · simp only [List.mem_cons, List.not_mem_nil, or_false] at hw
      rcases hw with rfl | rfl
      · exact ⟨h1, by simp only; omega⟩
      · exact ⟨by simp only; omega, hl.2⟩
  · refine List.pairwise_cons.mpr ⟨fun w hw x hx hy => ?_, List.pairwise_singleton _ _⟩
    obtain rfl := List.mem_singleton.mp hw
    simp only [inS] at hx hy
    omega
  · refine d2 v hv (f, e, ab) (by simp) x hx ?_
    simp only [List.mem_cons, List.not_mem_nil, or_false] at hw
    rcases hw with rfl | rfl <;> simp only [inS] at hy ⊢ <;> omega
theorem half_two {n : Nat} {P : Ps} {W : List Seg} {f e r : Nat} {ab : Option Nat} (hw : Wt n (W ++ [(f, e, ab)])) (h : Half n P (W ++ [(f, e, ab)])) (h1 : f ≤ r) (h2 : r < e) : Half n (P.set r ab) (W ++ [(f, r, some r), (r + 1, e, some r)]) := by
  have hl := hw.lt (f, e, ab) (by simp)
  simp only at hl
  have hr : r < P.length := by rw [h.1]; omega
  refine ⟨by rw [List.length_set]; exact h.1, fun P' hl' hk hf => h.2 P' hl' (fun x hx hn => ?_) fun w hmw => ?_⟩
  · have hxr : x ≠ r := fun q => hn (f, e, ab) (by simp) (by simp only [inS]; omega)
    rw [hk x hx fun w hmw => ?_, get_set_ne hxr]
    rcases List.mem_append.mp hmw with hmw | hmw
    · exact hn w (by simp [hmw])
    · have q := hn (f, e, ab) (by simp)
      simp only [inS] at q
      simp only [List.mem_cons, List.not_mem_nil, or_false] at hmw
      rcases hmw with rfl | rfl <;> simp only [inS] <;> omega
  · rcases List.mem_append.mp hmw with hmw | hmw
    · exact hf w (by simp [hmw])
    · obtain rfl := List.mem_singleton.mp hmw
      obtain ⟨t1, a1, a2⟩ := hf (f, r, some r) (by simp)
      obtain ⟨t2, b1, b2⟩ := hf (r + 1, e, some r) (by simp)
      simp only at a1 a2 b1 b2
      refine ⟨.node t1 r t2, ?_, ?_, a2, b2⟩
      · show t1.lab ++ r :: t2.lab = List.range' f (e - f)
        rw [show e - f = (r - f) + ((e - (r + 1)) + 1) by omega, List.range'_append_1.symm, show t1.lab = _ from a1, show t2.lab = _ from b1]
        congr 1
        rw [show f + (r - f) = r by omega, List.range'_succ]
      · have d2 := (List.pairwise_append.mp hw.dj).2.2
        rw [hk r (by omega) fun w hmw => ?_, get_set_eq hr]
        rcases List.mem_append.mp hmw with hmw | hmw
        · intro q
          exact d2 w hmw (f, e, ab) (by simp) r q (by simp only [inS]; omega)
        · simp only [List.mem_cons, List.not_mem_nil, or_false] at hmw
          rcases hmw with rfl | rfl <;> simp only [inS] <;> omega
def wgt : List Seg → Nat
  | [] => 0
  | w :: W => 2 * (w.2.1 - w.1) + 1 + wgt W
theorem wgt_app : ∀ (V W : List Seg), wgt (V ++ W) = wgt V + wgt W
  | [], W => by simp [wgt]
  | v :: V, W => by rw [List.cons_append, wgt, wgt, wgt_app V W]; omega
end Tr
set_option maxHeartbeats 1000000
namespace Pg
open PySem PySem.Spec PyProof.Rows L2 Pm
end Pg
namespace Tr
open Ex
def joinE : E → Nat → E → E
  | .one o, c, e2 => .cons o c e2
  | .cons o d e, c, e2 => .cons o d (joinE e c e2)
theorem join_text : ∀ (e : E) (c : Nat) (e2 : E), (joinE e c e2).text = e.text ++ c :: e2.text
  | .one o, c, e2 => by simp [joinE, E.text]
  | .cons o d e, c, e2 => by simp [joinE, E.text, join_text e c e2]
theorem join_lets : ∀ (e : E) (c : Nat) (e2 : E), (joinE e c e2).lets = e.lets ++ c :: e2.lets
  | .one o, c, e2 => by simp [joinE, E.lets]
  | .cons o d e, c, e2 => by simp [joinE, E.lets, join_lets e c e2]
theorem join_deps : ∀ (e : E) (c : Nat) (e2 : E) (d : Nat), E.deps (joinE e c e2) d = E.deps e d ++ d :: E.deps e2 d
  | .one o, c, e2, d => by simp [joinE, E.deps]
  | .cons o d' e, c, e2, d => by simp [joinE, E.deps, join_deps e c e2 d]
/-- a pair around it, if so -/
def wrapE (b : Bool) (e : E) : E := if b = true then .one (.par e) else e
theorem wrap_lets (b : Bool) (e : E) : (wrapE b e).lets = e.lets := by cases b <;> rfl
theorem wrap_deps (b : Bool) (e : E) (d : Nat) : E.deps (wrapE b e) d = E.deps e (d + (if b = true then 1 else 0)) := by cases b <;> rfl
theorem wrap_text (b : Bool) (e : E) : (wrapE b e).text = if b = true then 40 :: (e.text ++ [41]) else e.text := by cases b <;> rfl
def sR (s : Nat → Bool) : LT → Bool
  | .leaf => false
  | .node _ k _ => s k
/-- pairs around the subtrees of those that s tells, the whole left out -/
def mkE (s : Nat → Bool) (w : Nat → Nat) : LT → E
  | .leaf => .one .dot
  | .node l k r => joinE (wrapE (sR s l) (mkE s w l)) (w k) (wrapE (sR s r) (mkE s w r))
def inner : LT → List Nat
  | .leaf => []
  | .node l _ r => l.lab ++ r.lab
theorem lab_cnt (p : Nat → Bool) : ∀ T : LT, T.lab.countP p = (inner T).countP p + (if sR p T = true then 1 else 0)
  | .leaf => rfl
  | .node l k r => by
    show (l.lab ++ k :: r.lab).countP p = (l.lab ++ r.lab).countP p + (if p k = true then 1 else 0)
    rw [List.countP_append, List.countP_append, List.countP_cons]
    by_cases h : p k = true <;> simp [h] <;> omega
section
variable {s : Nat → Bool} {w : Nat → Nat}
theorem mk_lets : ∀ T : LT, (mkE s w T).lets = T.lab.map w
  | .leaf => rfl
  | .node l k r => by simp [mkE, join_lets, wrap_lets, mk_lets l, mk_lets r, LT.lab]
/-- how many pairs stand around an operator -/
def dp (s : Nat → Bool) : LT → Nat → Nat
  | .leaf, _ => 0
  | .node l k r, x => if x = k then 0 else if x < k then (if sR s l = true then 1 else 0) + dp s l x else (if sR s r = true then 1 else 0) + dp s r x
theorem mk_deps : ∀ {T : LT} {a m : Nat} (d : Nat), Run T a m → E.deps (mkE s w T) d = T.lab.map fun x => d + dp s T x
  | .leaf, _, _, _, _ => rfl
  | .node l k r, a, m, d, h => by
    obtain ⟨m1, m2, e1, rfl, e2, rfl⟩ := lab_split h
    have hl : Run l a m1 := e1
    have hr : Run r (a + m1 + 1) m2 := e2
    simp only [mkE, join_deps, wrap_deps, LT.lab, List.map_append, List.map_cons]
    rw [mk_deps _ hl, mk_deps _ hr]
    congr 1
    · refine List.map_congr_left fun x hx => ?_
      have := hl.mem.mp hx
      have ex : dp s (.node l (a + m1) r) x = (if sR s l = true then 1 else 0) + dp s l x := by rw [dp, if_neg (by omega), if_pos (by omega)]
      rw [ex]
      omega
    · congr 1
      · have ex : dp s (.node l (a + m1) r) (a + m1) = 0 := by rw [dp, if_pos rfl]
        rw [ex]
        rfl
      · refine List.map_congr_left fun x hx => ?_
        have := hr.mem.mp hx
        have ex : dp s (.node l (a + m1) r) x = (if sR s r = true then 1 else 0) + dp s r x := by rw [dp, if_neg (by omega), if_neg (by omega)]
        rw [ex]
        omega
theorem dp_root {T : LT} {x : Nat} (h : T.root = some x) : dp s T x = 0 := by
  cases T with
  | leaf => cases h
  | node l k r => cases h; rw [dp, if_pos rfl]
theorem sR_root {T : LT} {x : Nat} (h : T.root = some x) : sR s T = s x := by
  cases T with
  | leaf => cases h
  | node l k r => cases h; rfl
theorem dp_par : ∀ {T : LT} {a m x p : Nat}, Run T a m → a ≤ x → x < a + m → (anc T x).head? = some p → dp s T x = dp s T p + (if s x = true then 1 else 0)
  | .leaf, a, m, x, p, h, _, _, he => by cases he
  | .node l k r, a, m, x, p, h, h1, h2, he => by
    obtain ⟨m1, m2, e1, rfl, e2, rfl⟩ := lab_split h
    have hl : Run l a m1 := e1
    have hr : Run r (a + m1 + 1) m2 := e2
    unfold anc at he
    by_cases hx : x = a + m1
    · rw [if_pos hx] at he; cases he
    · rw [if_neg hx] at he
      by_cases hlt : x < a + m1
      · rw [if_pos hlt] at he
        have ex : dp s (.node l (a + m1) r) x = (if sR s l = true then 1 else 0) + dp s l x := by rw [dp, if_neg hx, if_pos hlt]
        cases hc : anc l x with
        | nil =>
          rw [hc] at he
          cases he
          have hro := (anc_nil hl h1 hlt).mp hc
          rw [ex, dp_root hro, sR_root hro, dp_root (T := .node l (a + m1) r) rfl]
          omega
        | cons q qs =>
          rw [hc] at he
          have hq : q = p := by simpa using he
          subst hq
          have hm := hl.mem.mp (anc_mem hl q (by rw [hc]; simp))
          have ih := dp_par hl h1 hlt (p := q) (by rw [hc]; rfl)
          have ey : dp s (.node l (a + m1) r) q = (if sR s l = true then 1 else 0) + dp s l q := by rw [dp, if_neg (by omega), if_pos (by omega)]
          rw [ex, ey, ih]
          omega
      · rw [if_neg hlt] at he
        have ex : dp s (.node l (a + m1) r) x = (if sR s r = true then 1 else 0) + dp s r x := by rw [dp, if_neg hx, if_neg hlt]
        cases hc : anc r x with
        | nil =>
          rw [hc] at he
          cases he
          have hro := (anc_nil hr (by omega) (by omega)).mp hc
          rw [ex, dp_root hro, sR_root hro, dp_root (T := .node l (a + m1) r) rfl]
          omega
        | cons q qs =>
          rw [hc] at he
          have hq : q = p := by simpa using he
          subst hq
          have hm := hr.mem.mp (anc_mem hr q (by rw [hc]; simp))
          have ih := dp_par (x := x) (p := q) hr (by omega) (by omega) (by rw [hc]; rfl)
          have ey : dp s (.node l (a + m1) r) q = (if sR s r = true then 1 else 0) + dp s r q := by rw [dp, if_neg (by omega), if_neg (by omega)]
          rw [ex, ey, ih]
          omega
end
theorem cart_root {wk : Nat → Nat → Prop} {T : LT} {x y : Nat} (h : Cart wk T) (hr : T.root = some y) (hx : x ∈ T.lab) (hn : x ≠ y) : wk y x := by
  cases T with
  | leaf => cases hr
  | node l k r =>
    cases hr
    obtain ⟨c1, c2, _, _⟩ := h
    simp only [LT.lab, List.mem_append, List.mem_cons] at hx
    rcases hx with hx | hx | hx
    · exact c1 x hx
    · exact absurd hx hn
    · exact c2 x hx
/-- a tree whose children are all the stronger ones -/
theorem cart_of {wk : Nat → Nat → Prop} (O : Ord wk) : ∀ {T : LT} {a m : Nat}, Run T a m → (∀ x p, a ≤ x → x < a + m → (anc T x).head? = some p → wk p x) → Cart wk T
  | .leaf, _, _, _, _ => trivial
  | .node l k r, a, m, h, hp => by
    obtain ⟨m1, m2, e1, rfl, e2, rfl⟩ := lab_split h
    have hl : Run l a m1 := e1
    have hr : Run r (a + m1 + 1) m2 := e2
    have cl : Cart wk l := cart_of O hl fun x p h1 h2 he => hp x p h1 (by omega) (by
      rw [anc, if_neg (by omega), if_pos (by omega), List.head?_append, he]; rfl)
    have cr : Cart wk r := cart_of O hr fun x p h1 h2 he => hp x p (by omega) (by omega) (by
      rw [anc, if_neg (by omega), if_neg (by omega), List.head?_append, he]; rfl)
    refine ⟨fun x hx => ?_, fun x hx => ?_, cl, cr⟩
    · have hm := hl.mem.mp hx
      cases hy : l.root with
      | none =>
        cases l with
        | leaf => cases hx
        | node _ _ _ => cases hy
      | some y =>
        have hy' := hl.root hy
        have w0 : wk (a + m1) y := hp y _ hy'.1 (by omega) (by
          rw [anc, if_neg (by omega), if_pos (by omega), (anc_nil hl hy'.1 hy'.2).mpr hy]; rfl)
        by_cases e : x = y
        · rw [e]; exact w0
        · exact O.trans w0 (cart_root cl hy hx e)
    · have hm := hr.mem.mp hx
      cases hy : r.root with
      | none =>
        cases r with
        | leaf => cases hx
        | node _ _ _ => cases hy
      | some y =>
        have hy' := hr.root hy
        have w0 : wk (a + m1) y := hp y _ (by omega) (by omega) (by
          rw [anc, if_neg (by omega), if_neg (by omega), (anc_nil hr hy'.1 hy'.2).mpr hy]; rfl)
        by_cases e : x = y
        · rw [e]; exact w0
        · exact O.trans w0 (cart_root cr hy hx e)
theorem anc_self {T : LT} {a m x : Nat} (h : Run T a m) (h1 : a ≤ x) (h2 : x < a + m) : (anc T x).head? ≠ some x := fun e => by
  have := congrArg List.length (anc_tail h h1 h2 e)
  rw [List.length_cons] at this
  omega
theorem anc_up {T : LT} {a m x p : Nat} (h : Run T a m) (e : (anc T x).head? = some p) : a ≤ p ∧ p < a + m := h.mem.mp (anc_mem h p (by
  cases hc : anc T x with
  | nil => rw [hc] at e; cases e
  | cons q qs => rw [hc] at e; have : q = p := by simpa using e
                 subst this; simp))
section
variable {s : Nat → Bool} {w : Nat → Nat} {v : Nat → Int} {T : LT} {n : Nat}
theorem dep_mk (h : Run T 0 n) {x : Nat} (hx : x < n) : (E.deps (mkE s w T) 0).getD x 0 = dp s T x := by
  rw [mk_deps 0 h, show T.lab = List.range' 0 n from h, List.getD_eq_getElem?_getD, List.getElem?_map, List.getElem?_range' (by omega)]
  simp
theorem dep_par (h : Run T 0 n) {x p : Nat} (hx : x < n) (he : (anc T x).head? = some p) : (E.deps (mkE s w T) 0).getD x 0 = (E.deps (mkE s w T) 0).getD p 0 + (if s x = true then 1 else 0) := by
  have hp := anc_up h he
  rw [dep_mk h hx, dep_mk h (by omega), dp_par h (Nat.zero_le x) (by omega) he]
theorem mk_n (h : Run T 0 n) : (mkE s w T).lets.length = n := by rw [mk_lets, List.length_map, show T.lab = List.range' 0 n from h, List.length_range']
/-- with pairs around all that are weaker than their parents the tree is read back -/
theorem read_back {P : Ps} (h : Run T 0 n) (hz : Rz P T none) (hl : P.length = n) (hL : ∀ c ∈ (mkE s w T).lets, isL c = true) (hv : ∀ x p, x < n → (anc T x).head? = some p → bfO v p x = true → s x = true) : treeP v (mkE s w T).text n = P := by
  obtain ⟨T', t1, t2, t3, t4⟩ := tree_run (v := v) hL
  rw [mk_n h] at t1 t2 t4
  have t1' : Run T' 0 n := by rw [Run, t1, List.range_eq_range']
  have O := wkO_ord (fun k => (E.deps (mkE s w T) 0).getD k 0) v
  have c : Cart (wkO (fun k => (E.deps (mkE s w T) 0).getD k 0) v) T := cart_of O h fun x p h1 h2 he => by
    have hd := dep_par (s := s) (w := w) h (show x < n by omega) he
    by_cases hs : s x = true
    · rw [if_pos hs] at hd
      exact Or.inl (show (E.deps (mkE s w T) 0).getD p 0 < (E.deps (mkE s w T) 0).getD x 0 by omega)
    · rw [if_neg hs] at hd
      have hb : ¬ bfO v p x = true := fun hb => hs (hv x p (by omega) he hb)
      have hne : p ≠ x := fun e => anc_self h h1 h2 (e ▸ he)
      rcases O.tot hne with q | q
      · exact q
      · exact absurd ((bfO_wk (dep := fun k => (E.deps (mkE s w T) 0).getD k 0) (by show (E.deps (mkE s w T) 0).getD p 0 = (E.deps (mkE s w T) 0).getD x 0; omega)).mpr q) hb
  have e := cart_unique O h t1' c t3
  subst e
  exact rz_unique h t2 hz t4 hl
end
def opnd (o c : Nat) : List Nat := List.replicate o 40 ++ [46] ++ List.replicate c 41
def wr (w : Nat → Nat) (a m : Nat) (o c : Nat → Nat) : List Nat := opnd (o a) (c a) ++ (List.range' a m).flatMap fun i => w i :: opnd (o (i + 1)) (c (i + 1))
theorem wr_split (w : Nat → Nat) (a m1 m2 : Nat) (o c : Nat → Nat) : wr w a (m1 + 1 + m2) o c = wr w a m1 o c ++ w (a + m1) :: wr w (a + m1 + 1) m2 o c := by
  have e : List.range' a (m1 + 1 + m2) = List.range' a m1 ++ (a + m1) :: List.range' (a + m1 + 1) m2 := by
    rw [Nat.add_assoc, ← List.range'_append_1, Nat.add_comm 1 m2, List.range'_succ]
  unfold wr
  rw [e, List.flatMap_append, List.flatMap_cons]
  simp
theorem wr_congr {w : Nat → Nat} {a m : Nat} {o c o' c' : Nat → Nat} (h : ∀ i, a ≤ i → i ≤ a + m → o i = o' i ∧ c i = c' i) : wr w a m o c = wr w a m o' c' := by
  unfold wr
  have h0 := h a (Nat.le_refl _) (by omega)
  rw [h0.1, h0.2]
  congr 1
  rw [List.flatMap_def, List.flatMap_def]
  congr 1
  refine List.map_congr_left fun i hi => ?_
  have := List.mem_range'_1.mp hi
  have h1 := h (i + 1) (by omega) (by omega)
  rw [h1.1, h1.2]
theorem opnd_open (o c : Nat) : opnd (o + 1) c = 40 :: opnd o c := by simp [opnd, List.replicate_succ]
theorem opnd_close (o c : Nat) : opnd o (c + 1) = opnd o c ++ [41] := by simp [opnd, List.replicate_succ']
theorem wr_wrap {w : Nat → Nat} {a m : Nat} {o c : Nat → Nat} (h : 0 < m) : wr w a m (fun i => o i + (if i = a then 1 else 0)) (fun i => c i + (if i = a + m then 1 else 0)) = 40 :: (wr w a m o c ++ [41]) := by
  obtain ⟨m, rfl⟩ : ∃ k, m = k + 1 + 0 := ⟨m - 1, by omega⟩
  rw [wr_split, wr_split]
  have e1 : wr w a m (fun i => o i + (if i = a then 1 else 0)) (fun i => c i + (if i = a + (m + 1 + 0) then 1 else 0)) = 40 :: wr w a m o c := by
    unfold wr
    simp only [if_true]
    rw [if_neg (by omega), Nat.add_zero, opnd_open, List.cons_append]
    congr 2
    rw [List.flatMap_def, List.flatMap_def]
    congr 1
    refine List.map_congr_left fun i hi => ?_
    have := List.mem_range'_1.mp hi
    rw [if_neg (by omega), if_neg (by omega)]
    rfl
  have e2 : wr w (a + m + 1) 0 (fun i => o i + (if i = a then 1 else 0)) (fun i => c i + (if i = a + (m + 1 + 0) then 1 else 0)) = wr w (a + m + 1) 0 o c ++ [41] := by
    unfold wr
    simp only [List.range'_zero, List.flatMap_nil, List.append_nil]
    rw [if_neg (by omega), if_pos (by omega), Nat.add_zero, opnd_close]
  rw [e1, e2]
  simp
/-- the first of a subtree; the one behind its last -/
def loF (T : LT) (x : Nat) : Nat := (subT T x).lab.headD 0
def hiF (T : LT) (x : Nat) : Nat := loF T x + (subT T x).lab.length
theorem sub_bd {T : LT} {a m x : Nat} (h : Run T a m) (h1 : a ≤ x) (h2 : x < a + m) : a ≤ loF T x ∧ loF T x ≤ x ∧ x < hiF T x ∧ hiF T x ≤ a + m ∧ Run (subT T x) (loF T x) (hiF T x - loF T x) := by
  obtain ⟨lo, hi, q1, q2, q3, q4, q5⟩ := sub_run h h1 h2
  have e1 : loF T x = lo := by
    unfold loF
    rw [show (subT T x).lab = _ from q5, show hi - lo = (hi - lo - 1) + 1 by omega, List.range'_succ]
    rfl
  have e2 : hiF T x = hi := by
    unfold hiF
    rw [e1, show (subT T x).lab = _ from q5, List.length_range']
    omega
  rw [e1, e2]
  exact ⟨q1, q2, q3, q4, q5⟩
theorem cnt_none {l : List Nat} {p : Nat → Bool} (h : ∀ x ∈ l, p x = false) : l.countP p = 0 := List.countP_eq_zero.mpr fun x hx => by rw [h x hx]; decide
section
variable {s : Nat → Bool} {w : Nat → Nat}
/-- how many open and close at an operand -/
def oc (s : Nat → Bool) (f : Nat → Nat) (l : List Nat) (i : Nat) : Nat := l.countP fun k => s k && f k == i
theorem oc_congr {f g : Nat → Nat} {l : List Nat} (h : ∀ x ∈ l, f x = g x) (i : Nat) : oc s f l i = oc s g l i := List.countP_congr fun x hx => by rw [h x hx]
theorem oc_app (f : Nat → Nat) (l l' : List Nat) (i : Nat) : oc s f (l ++ l') i = oc s f l i + oc s f l' i := List.countP_append
theorem oc_none {f : Nat → Nat} {l : List Nat} {i : Nat} (h : ∀ x ∈ l, f x ≠ i) : oc s f l i = 0 := cnt_none fun x hx => by
  rw [beq_eq_false_iff_ne.mpr (h x hx), Bool.and_false]
theorem wrap_wr {T : LT} {a m : Nat} (h : Run T a m) (ht : (mkE s w T).text = wr w a m (oc s (loF T) (inner T)) (oc s (hiF T) (inner T))) : (wrapE (sR s T) (mkE s w T)).text = wr w a m (oc s (loF T) T.lab) (oc s (hiF T) T.lab) := by
  cases T with
  | leaf => exact ht
  | node l k r =>
    have hk := h.root (k := k) rfl
    obtain ⟨q1, q2, q3, q4, q5⟩ := sub_bd h hk.1 hk.2
    have el : loF (.node l k r) k = a := by
      unfold loF
      rw [sub_eq, show (LT.node l k r).lab = _ from h, show m = (m - 1) + 1 by omega, List.range'_succ]
      rfl
    have eh : hiF (.node l k r) k = a + m := by
      unfold hiF
      rw [el, sub_eq, show (LT.node l k r).lab = _ from h, List.length_range']
    have c1 : ∀ (f : Nat → Nat) (i : Nat), oc s f (LT.node l k r).lab i = oc s f (inner (.node l k r)) i + (if (s k && f k == i) = true then 1 else 0) := fun f i => lab_cnt _ (.node l k r)
    rw [wrap_text, ht]
    by_cases hs : s k = true
    · rw [if_pos (show sR s (.node l k r) = true from hs), ← wr_wrap (show 0 < m by omega)]
      refine wr_congr fun i _ _ => ⟨?_, ?_⟩
      · rw [c1, el, hs]
        by_cases e : i = a
        · subst e; simp
        · have : (a == i) = false := beq_eq_false_iff_ne.mpr (Ne.symm e)
          simp [this, e]
      · rw [c1, eh, hs]
        by_cases e : i = a + m
        · subst e; simp
        · have : (a + m == i) = false := beq_eq_false_iff_ne.mpr (Ne.symm e)
          simp [this, e]
    · rw [if_neg (show ¬ sR s (.node l k r) = true from hs)]
      have hs' : s k = false := by simpa using hs
      refine wr_congr fun i _ _ => ⟨?_, ?_⟩
      · rw [c1, hs']; simp
      · rw [c1, hs']; simp
theorem mk_text : ∀ {T : LT} {a m : Nat}, Run T a m → (mkE s w T).text = wr w a m (oc s (loF T) (inner T)) (oc s (hiF T) (inner T))
  | .leaf, a, m, h => by
    have hm : m = 0 := by
      have := congrArg List.length h
      simpa [LT.lab] using this.symm
    subst hm
    rfl
  | .node l k r, a, m, h => by
    obtain ⟨m1, m2, e1, rfl, e2, rfl⟩ := lab_split h
    have hl : Run l a m1 := e1
    have hr : Run r (a + m1 + 1) m2 := e2
    have fl : ∀ x ∈ l.lab, loF (.node l (a + m1) r) x = loF l x ∧ hiF (.node l (a + m1) r) x = hiF l x := fun x hx => by
      have := hl.mem.mp hx
      unfold hiF loF
      rw [sub_lt (by omega)]
      exact ⟨rfl, rfl⟩
    have fr : ∀ x ∈ r.lab, loF (.node l (a + m1) r) x = loF r x ∧ hiF (.node l (a + m1) r) x = hiF r x := fun x hx => by
      have := hr.mem.mp hx
      unfold hiF loF
      rw [sub_gt (by omega)]
      exact ⟨rfl, rfl⟩
    have bl : ∀ x ∈ l.lab, loF l x < a + m1 ∧ hiF l x ≤ a + m1 := fun x hx => by
      have h1 := hl.mem.mp hx
      obtain ⟨q1, q2, q3, q4, _⟩ := sub_bd hl h1.1 h1.2
      omega
    have br : ∀ x ∈ r.lab, a + m1 + 1 ≤ loF r x ∧ a + m1 + 1 < hiF r x := fun x hx => by
      have h1 := hr.mem.mp hx
      obtain ⟨q1, q2, q3, q4, _⟩ := sub_bd hr h1.1 h1.2
      omega
    rw [show mkE s w (.node l (a + m1) r) = joinE (wrapE (sR s l) (mkE s w l)) (w (a + m1)) (wrapE (sR s r) (mkE s w r)) from rfl, join_text, wrap_wr hl (mk_text hl), wrap_wr hr (mk_text hr), wr_split]
    show _ = wr w a m1 (oc s _ (l.lab ++ r.lab)) (oc s _ (l.lab ++ r.lab)) ++ w (a + m1) :: wr w (a + m1 + 1) m2 (oc s _ (l.lab ++ r.lab)) (oc s _ (l.lab ++ r.lab))
    congr 1
    · refine wr_congr fun i h1 h2 => ⟨?_, ?_⟩
      · rw [oc_app, oc_congr (fun x hx => (fl x hx).1) i, oc_none (l := r.lab) fun x hx => by rw [(fr x hx).1]; have := br x hx; omega]; rfl
      · rw [oc_app, oc_congr (fun x hx => (fl x hx).2) i, oc_none (l := r.lab) fun x hx => by rw [(fr x hx).2]; have := br x hx; omega]; rfl
    · congr 1
      refine wr_congr fun i h1 h2 => ⟨?_, ?_⟩
      · rw [oc_app, oc_congr (fun x hx => (fr x hx).1) i, oc_none (l := l.lab) fun x hx => by rw [(fl x hx).1]; have := bl x hx; omega]; omega
      · rw [oc_app, oc_congr (fun x hx => (fr x hx).2) i, oc_none (l := l.lab) fun x hx => by rw [(fl x hx).2]; have := bl x hx; omega]; omega
end
end Tr
set_option maxHeartbeats 1000000
namespace Gr
open PySem PySem.Spec PyProof.Rows L2 Pm
open Pg (rtD pD dr divS rt_frz rt_plain rts_plain)
noncomputable def c_ltree_of_1 : M EV := comp [10] (srcR1 (aCons (loc 1) aNil)) (gN 10) yesT (con .non)
noncomputable def t_ltree_of_1 : M Bool := (tst (Pm.bin opNe (loc 3) (disp true .lst aNil)))
noncomputable def b_ltree_of_1 (S : FSem) : M Fl := (seq (asg (popd 3) (gT (gsC (gN 5) (gsC (gN 6) (gsC (gN 7) gs0))) 3))
    (Pm.ite (tst (Pm.bin opLeA (loc 5) (loc 6))) (seq (asg (Pm.bin hAdd (Pm.bin (on2I iSub) (loc 6) (loc 5)) (con (.int 1))) (gN 8))
    (seq (asg (Pm.bin hAdd (loc 5) (idx (aCons (disp true .lst (aCons (callF S (aCons (loc 0) (aCons (loc 8) aNil))) (aCons (con (.int 0)) (aCons (Pm.bin hMulT (callF S (aCons (loc 0) (aCons (con (.int 2)) aNil))) (Pm.bin (on2I iSub) (loc 8) (con (.int 1)))) aNil)))) (aCons (loc 4) aNil)))) (gN 9))
    (seq (asg (loc 7) (gI 2 (loc 9)))
    (drp (extd 3 (disp true .lst (aCons (disp false .tup (aCons (loc 5) (aCons (Pm.bin (on2I iSub) (loc 9) (con (.int 1))) (aCons (loc 9) aNil)))) (aCons (disp false .tup (aCons (Pm.bin hAdd (loc 9) (con (.int 1))) (aCons (loc 6) (aCons (loc 9) aNil)))) aNil)))))))) sNx))
noncomputable def b_ltree_of (S : FSem) : M Fl := (seq (asg c_ltree_of_1 (gN 2))
    (seq (asg (disp true .lst (aCons (disp false .tup (aCons (con (.int 0)) (aCons (Pm.bin (on2I iSub) (loc 1) (con (.int 1))) (aCons (con .non) aNil)))) aNil)) (gN 3))
    (seq (asg (callF S (aCons (loc 0) (aCons (con (.int 3)) aNil))) (gN 4))
    (seq (whl t_ltree_of_1 (b_ltree_of_1 S))
    (rtn (app opTuple (aCons (loc 2) aNil)))))))
noncomputable def x_ltree_of (S : FSem) : FSem := mkF 2 11 [] (b_ltree_of S)
def tF (P : Tr.Ps) : D := .node false .tup (P.map rtD)
theorem tup_tF (P : Tr.Ps) : opTuple [pD P] = some (tF P) := by
  show (if plainL (P.map rtD) = true then some (D.tup (P.map rtD)) else none) = _
  rw [if_pos (rts_plain P)]
  rfl
def segX (w : Tr.Seg) : D := .tup [.int (w.1 : Int), .int ((w.2.1 : Int) - 1), rtD w.2.2]
def segXs (W : List Tr.Seg) : D := .node true .lst (W.map segX)
theorem ne_segx (W : List Tr.Seg) : opNe [segXs W, .node true .lst []] = some (.bl (decide (W ≠ []))) := by
  unfold segXs
  rw [ne_nil true true fun x hx => by
    obtain ⟨w, _, rfl⟩ := List.mem_map.mp hx
    rcases w with ⟨a, b, c⟩
    cases c <;> rfl]
  congr 2
  cases W <;> simp
theorem set_pX {P : Tr.Ps} {r : Nat} {ab : Option Nat} (hr : r < P.length) {x0 x1 x3 x4 x5 x6 x7 x8 x10 : Option D} : gI 2 (loc 9) (rtD ab) [x0, x1, some (pD P), x3, x4, x5, x6, x7, x8, some (.int (r : Int)), x10] = .ok () [x0, x1, some (pD (P.set r ab)), x3, x4, x5, x6, x7, x8, some (.int (r : Int)), x10] := by
  have e2 : ixN (P.map rtD).length (r : Int) = some r := by
    rw [List.length_map]
    unfold ixN
    rw [if_pos (by omega), if_pos (by omega)]
    rfl
  have es : (P.map rtD).set r (rtD ab) = (P.set r ab).map rtD := by rw [List.map_set]
  have hl : r < (P.map rtD).length := by rw [List.length_map]; exact hr
  unfold pD
  rw [← es]
  generalize P.map rtD = L at *
  generalize rtD ab = A at *
  simp [gI, loc, bnd, Pm.ret, peek1, hl, ixN]
theorem pop_segx {W : List Tr.Seg} {w : Tr.Seg} {x0 x1 x2 x4 x5 x6 x7 x8 x9 x10 : Option D} : popd 3 [x0, x1, x2, some (segXs (W ++ [w])), x4, x5, x6, x7, x8, x9, x10] = .ok (.val (segX w)) [x0, x1, x2, some (segXs W), x4, x5, x6, x7, x8, x9, x10] := by
  have h1 : ((W ++ [w]).map segX)[((W ++ [w]).map segX).length - 1]? = some (segX w) := by simp
  have h2 : ((W ++ [w]).map segX).eraseIdx (((W ++ [w]).map segX).length - 1) = W.map segX := by
    rw [List.map_append, List.length_append]
    simp [List.eraseIdx_append_of_length_le]
  unfold segXs
  show (match ((W ++ [w]).map segX)[((W ++ [w]).map segX).length - 1]? with
    | some d => Res.ok (EV.val d) ([x0, x1, x2, some (.node true .lst ((W ++ [w]).map segX)), x4, x5, x6, x7, x8, x9, x10].set 3 (some (.node true .lst (((W ++ [w]).map segX).eraseIdx (((W ++ [w]).map segX).length - 1)))))
    | none => .stuck) = _
  rw [h1, h2]
  rfl
theorem pick_x {f e : Nat} {q1 q2 j : Int} (h : f < e) (h0 : 0 ≤ q1) (h1 : q1 < (e : Int) - f) (h2 : 0 ≤ q2) (h3 : q2 < 2) (j0 : 0 ≤ j) (j1 : j < 3) :
    ∃ (k : Int) (r : Nat), atI [D.int q1, .int 0, .int (q2 * ((e : Int) - f - 1))] j = some (.int k) ∧ (f : Int) + k = (r : Int) ∧ f ≤ r ∧ r < e := by
  have hj : j = 0 ∨ j = 1 ∨ j = 2 := by omega
  have hq : q2 = 0 ∨ q2 = 1 := by omega
  rcases hj with rfl | rfl | rfl
  · exact ⟨q1, f + q1.toNat, rfl, by omega, by omega, by omega⟩
  · exact ⟨0, f, rfl, by omega, by omega, by omega⟩
  · rcases hq with rfl | rfl
    · exact ⟨0, f, by show some (D.int (0 * ((e : Int) - f - 1))) = _; rw [Int.zero_mul], by omega, by omega, by omega⟩
    · exact ⟨(e : Int) - f - 1, e - 1, by show some (D.int (1 * ((e : Int) - f - 1))) = _; rw [Int.one_mul], by omega, by omega, by omega⟩
abbrev envX (z : List D) (n : Nat) (P : Tr.Ps) (W : List Tr.Seg) (j : Int) (x5 x6 x7 x8 x9 x10 : Option D) : Pm.Env := [some (.node true .lst z), some (.int (n : Int)), some (pD P), some (segXs W), some (.int j), x5, x6, x7, x8, x9, x10]
theorem tree_turn {S : FSem} (hS : Draws S) {ns : List Int} {a : Int} {z : List D} {n : Nat} {j : Int} {P : Tr.Ps} {W : List Tr.Seg} {w : Tr.Seg} {x5 x6 x7 x8 x9 x10 : Option D} (hl : ns.length ≤ 63) (hp : Pen ns a (.node true .lst z)) (ha : a + 2 ≤ 1000000) (j0 : 0 ≤ j) (j1 : j < 3) (hn : n ≤ 1000)
    (hw : Tr.Wt n (W ++ [w])) (hh : Tr.Half n P (W ++ [w])) (hW : W.length ≤ 1000) {Q : Fl → Pm.Env → Prop}
    (q1 : w.2.1 ≤ w.1 → ∀ x5 x6 x7 x8 x9 x10, Q .nx (envX z n P W j x5 x6 x7 x8 x9 x10))
    (q2 : ∀ (r : Nat) z' x5 x6 x7 x8 x9 x10, w.1 ≤ r → r < w.2.1 → Pen ns (a + 2) (.node true .lst z') → Q .nx (envX z' n (P.set r w.2.2) (W ++ [(w.1, r, some r), (r + 1, w.2.1, some r)]) j x5 x6 x7 x8 x9 x10)) :
    Wp (b_ltree_of_1 S) (envX z n P (W ++ [w]) j x5 x6 x7 x8 x9 x10) Q := by
  obtain ⟨f, e, ab⟩ := w
  have hlt := hw.lt (f, e, ab) (by simp)
  simp only at hlt q1 q2
  unfold envX at *
  have pp := fun x5 x6 x7 x8 x9 x10 => pop_segx (W := W) (w := (f, e, ab)) (x0 := some (.node true .lst z)) (x1 := some (.int (n : Int))) (x2 := some (pD P)) (x4 := some (.int j)) (x5 := x5) (x6 := x6) (x7 := x7) (x8 := x8) (x9 := x9) (x10 := x10)
  have fa := rt_frz ab
  have lt := opLeA_ii (f : Int) ((e : Int) - 1)
  have ap := rt_plain ab
  by_cases hfe : f < e
  · have lt2 : opLeA [.int (f : Int), .int ((e : Int) - 1)] = some (.bl true) := by rw [lt, decide_eq_true (by omega)]
    obtain ⟨q, z1, e1, u0, u1, p1⟩ := dr hS (m := (e : Int) - f) hl hp (by omega) (by omega) (divS (by omega) (by omega))
    obtain ⟨q', z2, e2, v0, v1, p2⟩ := dr hS (m := 2) hl p1 (by omega) (by omega) (by decide)
    obtain ⟨k, r, hr, hk, r0, r1⟩ := pick_x hfe u0 u1 v0 v1 j0 j1
    have hrl : r < P.length := by rw [hh.1]; omega
    have st := fun x8 x10 => set_pX (ab := ab) hrl (x0 := some (.node true .lst z2)) (x1 := some (.int (n : Int))) (x3 := some (segXs W)) (x4 := some (.int j)) (x5 := some (.int (f : Int))) (x6 := some (.int ((e : Int) - 1))) (x7 := some (rtD ab)) (x8 := x8) (x10 := x10)
    have a1 : hAdd [.int ((e : Int) - 1 - f), .int 1] = some (.int ((e : Int) - f)) := by rw [hAdd_ii]; congr 2; omega
    have a2 : hAdd [.int (f : Int), .int k] = some (.int (r : Int)) := by rw [hAdd_ii, hk]
    have a3 := hAdd_ii (r : Int) 1
    have m1 : hMulT [.int q', .int ((e : Int) - f - 1)] = some (.int (q' * ((e : Int) - f - 1))) := by
      rw [hMulT_ii]
      exact mulL (by omega)
    have am : ∀ x7 x8 x10 : Option D, extd 3 (disp true .lst (aCons (disp false .tup (aCons (loc 5) (aCons (Pm.bin (on2I iSub) (loc 9) (con (.int 1))) (aCons (loc 9) aNil)))) (aCons (disp false .tup (aCons (Pm.bin hAdd (loc 9) (con (.int 1))) (aCons (loc 6) (aCons (loc 9) aNil)))) aNil))) [some (.node true .lst z2), some (.int (n : Int)), some (pD (P.set r ab)), some (segXs W), some (.int j), some (.int (f : Int)), some (.int ((e : Int) - 1)), x7, x8, some (.int (r : Int)), x10] = .ok (.val .non) [some (.node true .lst z2), some (.int (n : Int)), some (pD (P.set r ab)), some (segXs (W ++ [(f, r, some r), (r + 1, e, some r)])), some (.int j), some (.int (f : Int)), some (.int ((e : Int) - 1)), x7, x8, some (.int (r : Int)), x10] := fun x7 x8 x10 => by
      have es : (W ++ [(f, r, some r), (r + 1, e, some r)]).map segX = W.map segX ++ [.node false .tup [.int (f : Int), .int ((r : Int) - 1), .int (r : Int)], .node false .tup [.int ((r : Int) + 1), .int ((e : Int) - 1), .int (r : Int)]] := by
        rw [List.map_append]
        rfl
      unfold segXs
      rw [es]
      have hc : (W.map segX).length + 2 ≤ 1000000 := by rw [List.length_map]; omega
      generalize W.map segX = WL at *
      generalize pD (P.set r ab) = PP at *
      generalize hAdd = HA at *
      simp [extd, mkF, reFrz, seq, Pm.ite, rtn, mov, asg, drp, sNx, bnd, Pm.bin, Pm.un, app, aCons, aNil, idx, loc, con, Pm.ret, peek1, peeks, itemOf, on2I, iAdd, iSub, iGt, iGe, iLt, iLe, iDiv, iMod, use1, useL, gI, gN, tst, andT, orT, notT, andE, orE, notE, ifE, ixN, D.frz, D.plain, plainL, argsBack, opLen, opAbs, opInt1, opNeg, disp, cap, callF, takes, puts, selA, sel, aApp, par, gT, gsC, gs0, appF, opDivmod, frzL, plainL, a3, hc]
    have fin := fun x5 x6 x7 x8 x9 x10 => q2 r z2 x5 x6 x7 x8 x9 x10 r0 r1 (p2.mono (by omega))
    unfold b_ltree_of_1
    clear q1 q2 hp p1 p2 hw hh hrl lt
    generalize hAdd = HA at *
    generalize hMulT = HM at *
    generalize popd 3 = PO at *
    generalize opLeA = OL at *
    generalize (extd 3 _) = EX at *
    generalize segXs W = SW at *
    generalize segXs (W ++ [(f, r, some r), (r + 1, e, some r)]) = SW2 at *
    generalize segXs (W ++ [(f, e, ab)]) = SW0 at *
    generalize gI 2 (loc 9) = GI at *
    generalize pD P = PP at *
    generalize pD (P.set r ab) = PP2 at *
    refine wp_seq fun K k1 k2 k3 k4 => ?_
    simp [Wp, mkF, reFrz, seq, Pm.ite, rtn, mov, asg, drp, sNx, bnd, Pm.bin, Pm.un, app, aCons, aNil, idx, loc, con, Pm.ret, peek1, peeks, itemOf, on2I, iAdd, iSub, iGt, iGe, iLt, iLe, iDiv, iMod, use1, useL, gI, gN, tst, andT, orT, notT, andE, orE, notE, ifE, ixN, D.frz, D.plain, plainL, argsBack, opLen, opAbs, opInt1, opNeg, disp, cap, callF, takes, puts, selA, sel, aApp, par, gT, gsC, gs0, appF, opDivmod, frzL, plainL, pp, segX, fa]
    refine k1 _ ?_
    clear k1 k2 k3 k4 K
    generalize rtD ab = AB at *
    refine wp_ite (Wp.of (a := true) (ρ' := [some (.node true .lst z), some (.int (n : Int)), some PP, some SW, some (.int j), some (.int (f : Int)), some (.int ((e : Int) - 1)), some AB, x8, x9, x10]) (by simp [mkF, reFrz, seq, Pm.ite, rtn, mov, asg, drp, sNx, bnd, Pm.bin, Pm.un, app, aCons, aNil, idx, loc, con, Pm.ret, peek1, peeks, itemOf, on2I, iAdd, iSub, iGt, iGe, iLt, iLe, iDiv, iMod, use1, useL, gI, gN, tst, andT, orT, notT, andE, orE, notE, ifE, ixN, D.frz, D.plain, plainL, argsBack, opLen, opAbs, opInt1, opNeg, disp, cap, callF, takes, puts, selA, sel, aApp, par, gT, gsC, gs0, appF, opDivmod, frzL, plainL, lt2]) ⟨fun _ => ?_, fun h => (nomatch h)⟩)
    refine wp_seq fun K k1 k2 k3 k4 => ?_
    simp [Wp, mkF, reFrz, seq, Pm.ite, rtn, mov, asg, drp, sNx, bnd, Pm.bin, Pm.un, app, aCons, aNil, idx, loc, con, Pm.ret, peek1, peeks, itemOf, on2I, iAdd, iSub, iGt, iGe, iLt, iLe, iDiv, iMod, use1, useL, gI, gN, tst, andT, orT, notT, andE, orE, notE, ifE, ixN, D.frz, D.plain, plainL, argsBack, opLen, opAbs, opInt1, opNeg, disp, cap, callF, takes, puts, selA, sel, aApp, par, gT, gsC, gs0, appF, opDivmod, frzL, plainL, a1]
    refine k1 _ ?_
    clear k1 k2 k3 k4 K
    refine wp_seq fun K k1 k2 k3 k4 => ?_
    simp [Wp, mkF, reFrz, seq, Pm.ite, rtn, mov, asg, drp, sNx, bnd, Pm.bin, Pm.un, app, aCons, aNil, idx, loc, con, Pm.ret, peek1, peeks, itemOf, on2I, iAdd, iSub, iGt, iGe, iLt, iLe, iDiv, iMod, use1, useL, gI, gN, tst, andT, orT, notT, andE, orE, notE, ifE, ixN, D.frz, D.plain, plainL, argsBack, opLen, opAbs, opInt1, opNeg, disp, cap, callF, takes, puts, selA, sel, aApp, par, gT, gsC, gs0, appF, opDivmod, frzL, plainL, e1, e2, a2, m1, hr]
    refine k1 _ ?_
    clear k1 k2 k3 k4 K
    refine wp_seq fun K k1 k2 k3 k4 => ?_
    simp [Wp, mkF, reFrz, seq, Pm.ite, rtn, mov, asg, drp, sNx, bnd, Pm.bin, Pm.un, app, aCons, aNil, idx, loc, con, Pm.ret, peek1, peeks, itemOf, on2I, iAdd, iSub, iGt, iGe, iLt, iLe, iDiv, iMod, use1, useL, gI, gN, tst, andT, orT, notT, andE, orE, notE, ifE, ixN, D.frz, D.plain, plainL, argsBack, opLen, opAbs, opInt1, opNeg, disp, cap, callF, takes, puts, selA, sel, aApp, par, gT, gsC, gs0, appF, opDivmod, frzL, plainL, fa, st]
    refine k1 _ ?_
    clear k1 k2 k3 k4 K
    refine wp_end fun K k1 k2 k3 k4 => ?_
    simp [Wp, mkF, reFrz, seq, Pm.ite, rtn, mov, asg, drp, sNx, bnd, Pm.bin, Pm.un, app, aCons, aNil, idx, loc, con, Pm.ret, peek1, peeks, itemOf, on2I, iAdd, iSub, iGt, iGe, iLt, iLe, iDiv, iMod, use1, useL, gI, gN, tst, andT, orT, notT, andE, orE, notE, ifE, ixN, D.frz, D.plain, plainL, argsBack, opLen, opAbs, opInt1, opNeg, disp, cap, callF, takes, puts, selA, sel, aApp, par, gT, gsC, gs0, appF, opDivmod, frzL, plainL, am]
    exact k1 _ (fin _ _ _ _ _ _)
  · have lt2 : opLeA [.int (f : Int), .int ((e : Int) - 1)] = some (.bl false) := by rw [lt, decide_eq_false (by omega)]
    have fin := fun x5 x6 x7 x8 x9 x10 => q1 (by omega) x5 x6 x7 x8 x9 x10
    unfold b_ltree_of_1
    clear q1 q2 hp hw hh lt
    generalize hAdd = HA at *
    generalize popd 3 = PO at *
    generalize opLeA = OL at *
    generalize segXs W = SW at *
    generalize segXs (W ++ [(f, e, ab)]) = SW0 at *
    generalize gI 2 (loc 9) = GI at *
    generalize pD P = PP at *
    refine wp_seq fun K k1 k2 k3 k4 => ?_
    simp [Wp, mkF, reFrz, seq, Pm.ite, rtn, mov, asg, drp, sNx, bnd, Pm.bin, Pm.un, app, aCons, aNil, idx, loc, con, Pm.ret, peek1, peeks, itemOf, on2I, iAdd, iSub, iGt, iGe, iLt, iLe, iDiv, iMod, use1, useL, gI, gN, tst, andT, orT, notT, andE, orE, notE, ifE, ixN, D.frz, D.plain, plainL, argsBack, opLen, opAbs, opInt1, opNeg, disp, cap, callF, takes, puts, selA, sel, aApp, par, gT, gsC, gs0, appF, opDivmod, frzL, plainL, pp, segX, fa]
    refine k1 _ ?_
    clear k1 k2 k3 k4 K
    generalize rtD ab = AB at *
    refine wp_ite (Wp.of (a := false) (ρ' := [some (.node true .lst z), some (.int (n : Int)), some PP, some SW, some (.int j), some (.int (f : Int)), some (.int ((e : Int) - 1)), some AB, x8, x9, x10]) (by simp [mkF, reFrz, seq, Pm.ite, rtn, mov, asg, drp, sNx, bnd, Pm.bin, Pm.un, app, aCons, aNil, idx, loc, con, Pm.ret, peek1, peeks, itemOf, on2I, iAdd, iSub, iGt, iGe, iLt, iLe, iDiv, iMod, use1, useL, gI, gN, tst, andT, orT, notT, andE, orE, notE, ifE, ixN, D.frz, D.plain, plainL, argsBack, opLen, opAbs, opInt1, opNeg, disp, cap, callF, takes, puts, selA, sel, aApp, par, gT, gsC, gs0, appF, opDivmod, frzL, plainL, lt2]) ⟨fun h => (nomatch h), fun _ => ?_⟩)
    refine wp_end fun K k1 k2 k3 k4 => ?_
    simp [Wp, mkF, reFrz, seq, Pm.ite, rtn, mov, asg, drp, sNx, bnd, Pm.bin, Pm.un, app, aCons, aNil, idx, loc, con, Pm.ret, peek1, peeks, itemOf, on2I, iAdd, iSub, iGt, iGe, iLt, iLe, iDiv, iMod, use1, useL, gI, gN, tst, andT, orT, notT, andE, orE, notE, ifE, ixN, D.frz, D.plain, plainL, argsBack, opLen, opAbs, opInt1, opNeg, disp, cap, callF, takes, puts, selA, sel, aApp, par, gT, gsC, gs0, appF, opDivmod, frzL, plainL]
    exact k1 _ (fin _ _ _ _ _ _)
theorem tree_loop {S : FSem} (hS : Draws S) {ns : List Int} {a : Int} {z : List D} {n : Nat} {j : Int} {x5 x6 x7 x8 x9 x10 : Option D} (hl : ns.length ≤ 63) (hp : Pen ns a (.node true .lst z)) (ha : a + 2000 ≤ 1000000) (j0 : 0 ≤ j) (j1 : j < 3) (hn : n ≤ 400) {Q : Fl → Pm.Env → Prop}
    (hQ : ∀ z' (P : Tr.Ps) (T : Tr.LT) W x5 x6 x7 x8 x9 x10, P.length = n → Tr.Run T 0 n → Tr.Rz P T none → Pen ns (a + 4 * (n : Int) + 2) (.node true .lst z') → Q .nx [some (.node true .lst z'), some (.int (n : Int)), some (pD P), W, some (.int j), x5, x6, x7, x8, x9, x10]) :
    Wp (whl t_ltree_of_1 (b_ltree_of_1 S)) (envX z n (List.replicate n none) [(0, n, none)] j x5 x6 x7 x8 x9 x10) Q := by
  refine wp_whl (fun m ρ => ∃ (z' : List D) (P : Tr.Ps) (W : List Tr.Seg) (x5 x6 x7 x8 x9 x10 : Option D), ρ = envX z' n P W j x5 x6 x7 x8 x9 x10 ∧ Tr.wgt W = m ∧ m ≤ 2 * n + 1 ∧ Tr.Wt n W ∧ Tr.Half n P W ∧ Pen ns (a + 2 * (2 * n + 1 - m : Nat)) (.node true .lst z')) ?_ (Tr.wgt [(0, n, none)]) _
    ⟨z, List.replicate n none, [(0, n, none)], x5, x6, x7, x8, x9, x10, rfl, rfl, by simp [Tr.wgt], Tr.wt_start n, Tr.half_start n, hp.mono (by omega)⟩
  rintro m ρ ⟨z', P, W, x5, x6, x7, x8, x9, x10, rfl, hm, hmn, hw, hh, p'⟩
  have ne := ne_segx W
  have tt : ∀ b, decide (W ≠ []) = b → t_ltree_of_1 (envX z' n P W j x5 x6 x7 x8 x9 x10) = .ok b (envX z' n P W j x5 x6 x7 x8 x9 x10) := fun b hb => by
    rw [hb] at ne
    unfold t_ltree_of_1 envX
    generalize segXs W = SW at *
    generalize pD P = PP at *
    simp [mkF, reFrz, seq, Pm.ite, rtn, mov, asg, drp, sNx, bnd, Pm.bin, Pm.un, app, aCons, aNil, idx, loc, con, Pm.ret, peek1, peeks, itemOf, on2I, iAdd, iSub, iGt, iGe, iLt, iLe, iDiv, iMod, use1, useL, gI, gN, tst, andT, orT, notT, andE, orE, notE, ifE, ixN, D.frz, D.plain, plainL, argsBack, opLen, opAbs, opInt1, opNeg, disp, cap, callF, takes, puts, selA, sel, aApp, par, gT, gsC, gs0, appF, opDivmod, frzL, plainL, ne]
  rcases List.eq_nil_or_concat W with rfl | ⟨V, w, rfl⟩
  · obtain ⟨T, h1, h2⟩ := Tr.half_end hh
    exact Wp.of (tt false (by simp)) ⟨fun h => (nomatch h), fun _ => hQ z' P T _ x5 x6 x7 x8 x9 x10 hh.1 h1 h2 (p'.mono (by omega))⟩
  · rw [List.concat_eq_append] at *
    rw [Tr.wgt_app] at hm
    obtain ⟨f, e, ab⟩ := w
    simp only [Tr.wgt] at hm
    have wl : ∀ V : List Tr.Seg, V.length ≤ Tr.wgt V := fun V => by
      induction V with
      | nil => exact Nat.zero_le _
      | cons v V ih => rw [Tr.wgt, List.length_cons]; omega
    have hV := wl V
    have hlt := hw.lt (f, e, ab) (by simp)
    simp only at hlt
    refine Wp.of (tt true (by simp)) ⟨fun _ => tree_turn hS hl p' (by omega) j0 j1 (by omega) hw hh (by omega) (fun q x5 x6 x7 x8 x9 x10 => ?_) fun r z2 x5 x6 x7 x8 x9 x10 r0 r1 p2 => ?_, fun h => (nomatch h)⟩
    · simp only at q
      exact ⟨Tr.wgt V, by omega, z', P, V, x5, x6, x7, x8, x9, x10, rfl, rfl, by omega, Tr.wt_skip hw, Tr.half_skip hh q, p'.mono (by omega)⟩
    · simp only at r0 r1
      have hg : Tr.wgt (V ++ [(f, r, some r), (r + 1, e, some r)]) = m - 1 := by
        rw [Tr.wgt_app]
        simp only [Tr.wgt]
        omega
      exact ⟨m - 1, by omega, z2, P.set r ab, V ++ [(f, r, some r), (r + 1, e, some r)], x5, x6, x7, x8, x9, x10, rfl, hg, by omega, Tr.wt_two hw r0 r1, Tr.half_two hw hh r0 r1, p2.mono (by omega)⟩
theorem nons_ok {n : Nat} {x0 : Option D} (hn : n ≤ 1000) : c_ltree_of_1 [x0, some (.int (n : Int)), none, none, none, none, none, none, none, none, none] = .ok (.val (pD (List.replicate n none))) [x0, some (.int (n : Int)), none, none, none, none, none, none, none, none, none] := by
  have hsrc : srcR1 (aCons (loc 1) aNil) [x0, some (.int (n : Int)), none, none, none, none, none, none, none, none, none] = .ok (rangeD 0 n) [x0, some (.int (n : Int)), none, none, none, none, none, none, none, none, none] := src_r1 (es := [.ref 1]) (n := n) rfl rfl (by omega)
  unfold c_ltree_of_1
  rw [comp_map (fun _ => .non) hsrc rfl rfl (by rw [range_len]; show n ≤ 1000000; omega) fun d hd => ?_]
  · congr 3
    have : (rangeD 0 n).length = n := range_len
    rw [List.map_const', this, List.map_replicate]
    rfl
  · exact ⟨_, rfl, Wp.of (a := true) rfl ⟨rfl, Wp.of (a := .val .non) rfl ⟨_, rfl, rfl⟩⟩⟩
theorem tree_abs {SD : FSem} {OT : List D → Option D} {CP : M EV} {WH : M Fl} {z z1 : List D} {n n1 j : Int} {L : D} {Q : D → List D → Prop} (e1 : SD [.node true .lst z, .int 3] = .ret (.int j) [.node true .lst z1, .int 3])
    (h2 : CP [some (.node true .lst z), some (.int n), none, none, none, none, none, none, none, none, none] = .ok (.val L) [some (.node true .lst z), some (.int n), none, none, none, none, none, none, none, none, none]) (h3 : n - 1 = n1)
    (lp : ∀ K : Fl → Pm.Env → Prop, (∀ z' PP TD W x5 x6 x7 x8 x9 x10, OT [PP] = some TD → Q TD [.node true .lst z', .int n] → K .nx [some (.node true .lst z'), some (.int n), some PP, W, some (.int j), x5, x6, x7, x8, x9, x10]) → Wp WH [some (.node true .lst z1), some (.int n), some L, some (.node true .lst [.node false .tup [.int 0, .int n1, .non]]), some (.int j), none, none, none, none, none, none] K) :
    Wf (mkF 2 11 [] (seq (asg CP (gN 2))
    (seq (asg (disp true .lst (aCons (disp false .tup (aCons (con (.int 0)) (aCons (Pm.bin (on2I iSub) (loc 1) (con (.int 1))) (aCons (con .non) aNil)))) aNil)) (gN 3))
    (seq (asg (callF SD (aCons (loc 0) (aCons (con (.int 3)) aNil))) (gN 4))
    (seq WH
    (rtn (app OT (aCons (loc 2) aNil)))))))) [.node true .lst z, .int n] Q := by
  refine wf_mkF ?_
  show Wp _ [some (.node true .lst z), some (.int n), none, none, none, none, none, none, none, none, none] _
  refine wp_seq fun K k1 k2 k3 k4 => ?_
  simp [Wp, mkF, reFrz, seq, Pm.ite, rtn, mov, asg, drp, sNx, bnd, Pm.bin, Pm.un, app, aCons, aNil, idx, loc, con, Pm.ret, peek1, peeks, itemOf, on2I, iAdd, iSub, iGt, iGe, iLt, iLe, iDiv, iMod, use1, useL, gI, gN, tst, andT, orT, notT, andE, orE, notE, ifE, ixN, D.frz, D.plain, plainL, argsBack, opLen, opAbs, opInt1, opNeg, disp, cap, callF, takes, puts, selA, sel, aApp, par, gT, gsC, gs0, appF, opDivmod, frzL, plainL, h2]
  refine k1 _ ?_
  clear k1 k2 k3 k4 K
  refine wp_seq fun K k1 k2 k3 k4 => ?_
  simp [Wp, mkF, reFrz, seq, Pm.ite, rtn, mov, asg, drp, sNx, bnd, Pm.bin, Pm.un, app, aCons, aNil, idx, loc, con, Pm.ret, peek1, peeks, itemOf, on2I, iAdd, iSub, iGt, iGe, iLt, iLe, iDiv, iMod, use1, useL, gI, gN, tst, andT, orT, notT, andE, orE, notE, ifE, ixN, D.frz, D.plain, plainL, argsBack, opLen, opAbs, opInt1, opNeg, disp, cap, callF, takes, puts, selA, sel, aApp, par, gT, gsC, gs0, appF, opDivmod, frzL, plainL, h3]
  refine k1 _ ?_
  clear k1 k2 k3 k4 K
  refine wp_seq fun K k1 k2 k3 k4 => ?_
  simp [Wp, mkF, reFrz, seq, Pm.ite, rtn, mov, asg, drp, sNx, bnd, Pm.bin, Pm.un, app, aCons, aNil, idx, loc, con, Pm.ret, peek1, peeks, itemOf, on2I, iAdd, iSub, iGt, iGe, iLt, iLe, iDiv, iMod, use1, useL, gI, gN, tst, andT, orT, notT, andE, orE, notE, ifE, ixN, D.frz, D.plain, plainL, argsBack, opLen, opAbs, opInt1, opNeg, disp, cap, callF, takes, puts, selA, sel, aApp, par, gT, gsC, gs0, appF, opDivmod, frzL, plainL, e1]
  refine k1 _ ?_
  clear k1 k2 k3 k4 K
  refine wp_seq fun K k1 k2 k3 k4 => ?_
  refine lp K fun z' PP TD W x5 x6 x7 x8 x9 x10 tu q => k1 _ ?_
  clear k1 k2 k3 k4 K lp
  refine wp_end fun K k1 k2 k3 k4 => ?_
  simp [Wp, mkF, reFrz, seq, Pm.ite, rtn, mov, asg, drp, sNx, bnd, Pm.bin, Pm.un, app, aCons, aNil, idx, loc, con, Pm.ret, peek1, peeks, itemOf, on2I, iAdd, iSub, iGt, iGe, iLt, iLe, iDiv, iMod, use1, useL, gI, gN, tst, andT, orT, notT, andE, orE, notE, ifE, ixN, D.frz, D.plain, plainL, argsBack, opLen, opAbs, opInt1, opNeg, disp, cap, callF, takes, puts, selA, sel, aApp, par, gT, gsC, gs0, appF, opDivmod, frzL, plainL, tu]
  exact k2 _ _ ⟨[.node true .lst z', .int n], by simp [argsBack, reFrz, D.plain], q⟩
/-- trees drawn are trees -/
theorem tree_ok {S : FSem} (hS : Draws S) {ns : List Int} {a : Int} {z : List D} {n : Nat} (hl : ns.length ≤ 63) (hp : Pen ns a (.node true .lst z)) (ha : a + 2010 ≤ 1000000) (hn : n ≤ 400) :
    ∃ (z' : List D) (P : Tr.Ps) (T : Tr.LT), x_ltree_of S [.node true .lst z, .int (n : Int)] = .ret (tF P) [.node true .lst z', .int (n : Int)] ∧ P.length = n ∧ Tr.Run T 0 n ∧ Tr.Rz P T none ∧ Pen ns (a + 4 * (n : Int) + 3) (.node true .lst z') := by
  obtain ⟨j, z1, e1, j0, j1, p1⟩ := dr hS (m := 3) hl hp (by omega) (by decide) (by decide)
  have hw : Wf (x_ltree_of S) [.node true .lst z, .int (n : Int)] fun d as => ∃ (z' : List D) (P : Tr.Ps) (T : Tr.LT), d = tF P ∧ as = [.node true .lst z', .int (n : Int)] ∧ P.length = n ∧ Tr.Run T 0 n ∧ Tr.Rz P T none ∧ Pen ns (a + 4 * (n : Int) + 3) (.node true .lst z') := by
    unfold x_ltree_of b_ltree_of
    refine tree_abs e1 (nons_ok (by omega)) rfl fun K hK => ?_
    exact tree_loop (Q := K) hS (n := n) (j := j) hl p1 (by omega) j0 j1 hn fun z' P T W x5 x6 x7 x8 x9 x10 h1 h2 h3 p' => hK z' (pD P) (tF P) W x5 x6 x7 x8 x9 x10 (tup_tF P) ⟨z', P, T, rfl, rfl, h1, h2, h3, p'.mono (by omega)⟩
  obtain ⟨d, as, e, z', P, T, rfl, rfl, h⟩ := hw
  exact ⟨z', P, T, e, h⟩
end Gr
namespace Tr
end Tr
namespace Tr
theorem anc_in {T : LT} {a m k y : Nat} (h : Run T a m) (hy : y ∈ anc T k) : a ≤ y ∧ y < a + m := h.mem.mp (anc_mem h y hy)
theorem path_sub : ∀ {T : LT} {a m x k : Nat}, Run T a m → a ≤ x → x < a + m → a ≤ k → k < a + m → (x ∈ k :: anc T k ↔ k ∈ (subT T x).lab)
  | .leaf, a, m, x, k, h, h1, h2, _, _ => by have := h.zero; omega
  | .node l q r, a, m, x, k, h, h1, h2, h3, h4 => by
    obtain ⟨m1, m2, e1, e2, e3, e4⟩ := lab_split h
    have hl : Run l a m1 := e1
    have hr : Run r (a + m1 + 1) m2 := e3
    rcases Nat.lt_trichotomy x q with hx | rfl | hx
    · rw [sub_lt hx]
      have sl := sub_lab hl (x := x) h1 (by omega)
      rcases Nat.lt_trichotomy k q with hk | rfl | hk
      · rw [← path_sub hl h1 (by omega) h3 (by omega)]
        rw [anc, if_neg (by omega), if_pos hk]
        simp only [List.mem_cons, List.mem_append, List.not_mem_nil, or_false]
        constructor
        · rintro (h | h | h)
          · exact .inl h
          · exact .inr h
          · omega
        · rintro (h | h)
          · exact .inl h
          · exact .inr (.inl h)
      · rw [anc, if_pos rfl]
        constructor
        · intro h
          simp at h
          omega
        · intro h
          have := hl.mem.mp (sl _ h)
          omega
      · rw [anc, if_neg (by omega), if_neg (by omega)]
        constructor
        · intro h
          simp only [List.mem_cons, List.mem_append, List.not_mem_nil, or_false] at h
          rcases h with h | h | h
          · omega
          · have := anc_in hr h; omega
          · omega
        · intro h
          have := hl.mem.mp (sl _ h)
          omega
    · rw [sub_eq]
      constructor
      · intro _
        exact h.mem.mpr ⟨h3, h4⟩
      · intro _
        rcases Nat.lt_trichotomy k x with hk | rfl | hk
        · rw [anc, if_neg (by omega), if_pos hk]; simp
        · simp
        · rw [anc, if_neg (by omega), if_neg (by omega)]; simp
    · rw [sub_gt hx]
      have sr := sub_lab hr (x := x) (by omega) (by omega)
      rcases Nat.lt_trichotomy k q with hk | rfl | hk
      · rw [anc, if_neg (by omega), if_pos hk]
        constructor
        · intro h
          simp only [List.mem_cons, List.mem_append, List.not_mem_nil, or_false] at h
          rcases h with h | h | h
          · omega
          · have := anc_in hl h; omega
          · omega
        · intro h
          have := hr.mem.mp (sr _ h)
          omega
      · rw [anc, if_pos rfl]
        constructor
        · intro h
          simp at h
          omega
        · intro h
          have := hr.mem.mp (sr _ h)
          omega
      · rw [← path_sub hr (by omega) (by omega) (by omega) (by omega)]
        rw [anc, if_neg (by omega), if_neg (by omega)]
        simp only [List.mem_cons, List.mem_append, List.not_mem_nil, or_false]
        constructor
        · rintro (h | h | h)
          · exact .inl h
          · exact .inr h
          · omega
        · rintro (h | h)
          · exact .inl h
          · exact .inr (.inl h)
end Tr
namespace Pm
open PySem PySem.Spec PyProof.Rows L2
end Pm
namespace Pm
open PySem PySem.Spec PyProof.Rows L2
section
variable {K : PySem.W.Frag} {mg : Str → Option Value} {W : WX} {Z H : Hp} {S : Fp} {σ : Sl} {X : Cx} {p : Addr}
abbrev prs (K : PySem.W.Frag) (mg : Str → Option Value) (W : WX) (q : List (Key × M EV)) : List (TE × TE) := q.map fun kv => (tC (kV kv.1), tE K mg W kv.2)
end
end Pm
set_option maxHeartbeats 1000000
namespace Pm
open PySem PySem.Spec PyProof.Rows L2
theorem wp_nx {a b : M Fl} {ρ : Env} (ρ1 : Env) {Q : Fl → Env → Prop} (h : a ρ = .ok .nx ρ1) (q : Wp b ρ1 Q) : Wp (seq a b) ρ Q := wp_seq fun K k1 k2 k3 k4 => Wp.of h (k1 _ q)
def deckD (ns : List Int) (p l : Int) : D := .node true (.dct [.inr "cells", .inr "next", .inr "rest"]) [.node false .lst (ns.map D.int), .int p, .int l]
def Dk (ns : List Int) (a : Int) (z : D) : Prop := ∃ p l, z = deckD ns p l ∧ 0 ≤ p ∧ p ≤ a ∧ 0 ≤ l
theorem Dk.mono {ns : List Int} {a b : Int} {z : D} (h : Dk ns a z) (hl : a ≤ b) : Dk ns b z := by
  obtain ⟨p, l, rfl, h1, h2, h3⟩ := h
  exact ⟨p, l, rfl, h1, by omega, h3⟩
end Pm
set_option maxHeartbeats 1000000
namespace Pg
open PySem PySem.Spec PyProof.Rows L2 Pm
/-- what waits, from the top on -/
def rest (W : List (Nat × Tr.LT)) : List Nat := W.reverse.flatMap fun q => q.1 :: q.2.lab
end Pg
set_option maxHeartbeats 1000000
namespace Pg
open PySem PySem.Spec PyProof.Rows L2 Pm
end Pg
namespace Pm
open PySem PySem.Spec PyProof.Rows L2
def augI (j : Nat) (fi : M EV) (c : Int) : M Fl := fun ρ0 => match ρ0.getD j none with
  | some (.node true .lst _) => bnd fi (fun ei => fun ρ => match ρ.getD j none, peek1 ρ ei with
    | some (.node true .lst xs), some (.int k) => match ixN xs.length k with
      | some i => match xs[i]? with
        | some (.int a) => if 0 ≤ k then .ok .nx (ρ.set j (some (.node true .lst (xs.set i (.int (a + c)))))) else .stuck
        | _ => .stuck
      | none => .stuck
    | _, _ => .stuck) ρ0
  | _ => .stuck
end Pm
set_option maxHeartbeats 1000000
namespace Pm
open PySem PySem.Spec PyProof.Rows L2 RZ
open PySem.Sem (wp)
end Pm
set_option maxHeartbeats 1000000
namespace Pm
open PySem PySem.Spec PyProof.Rows L2 RZ
open PySem.Sem (wp)
end Pm
namespace Pm
open PySem PySem.Spec PyProof.Rows L2
end Pm
set_option maxHeartbeats 1000000
namespace Pg
open PySem PySem.Spec PyProof.Rows L2 Pm
noncomputable def b_written_1 : M Fl := (seq (asg (callF x_span_of (aCons (loc 1) (aCons (loc 5) aNil))) (gT (gsC (gN 6) (gsC (gN 7) gs0)) 2))
    (seq (augI 3 (loc 6) 1)
    (augI 4 (Pm.bin hAdd (loc 7) (con (.int 1))) 1)))
/-- one more at a place -/
def bump (l : List Nat) (i : Nat) : List Nat := l.set i (l.getD i 0 + 1)
theorem bump_len (l : List Nat) (i : Nat) : (bump l i).length = l.length := List.length_set
theorem aug_at {l : List Nat} {i j : Nat} {ρ : Pm.Env} {fi : M EV} {ev : EV} (hi : i < l.length) (h : ρ.getD j none = some (oD true l)) (h1 : fi ρ = .ok ev ρ) (h2 : peek1 ρ ev = some (.int (i : Int))) : augI j fi 1 ρ = .ok .nx (ρ.set j (some (oD true (bump l i)))) := by
  have e2 : ixN (l.map fun k : Nat => D.int (k : Int)).length (i : Int) = some i := by
    rw [List.length_map]
    unfold ixN
    rw [if_pos (by omega), if_pos (by omega)]
    rfl
  have g : (l.map fun k : Nat => D.int (k : Int))[i]? = some (.int ((l.getD i 0 : Nat) : Int)) := by
    rw [List.getElem?_map, List.getElem?_eq_getElem hi, List.getD_eq_getElem?_getD, List.getElem?_eq_getElem hi]
    rfl
  have es : oD true (bump l i) = .node true .lst ((l.map fun k : Nat => D.int (k : Int)).set i (.int (((l.getD i 0 : Nat) : Int) + 1))) := by
    unfold oD bump
    rw [List.map_set]
    rfl
  rw [es]
  unfold oD at h
  generalize (l.map fun k : Nat => D.int (k : Int)) = L at *
  unfold augI
  simp only [h, bnd, h1, h2, e2, g]
  rw [if_pos (by omega)]
/-- what opens and what closes: by each pair's first and last -/
def opens (lo : Nat → Nat) (ks : List Nat) (n : Nat) : List Nat := ks.foldl (fun l k => bump l (lo k)) (List.replicate n 0)
theorem opens_snoc (lo : Nat → Nat) (ks : List Nat) (k n : Nat) : opens lo (ks ++ [k]) n = bump (opens lo ks n) (lo k) := by
  unfold opens
  rw [List.foldl_append]
  rfl
theorem opens_len (lo : Nat → Nat) (ks : List Nat) (n : Nat) : (opens lo ks n).length = n := by
  unfold opens
  suffices h : ∀ l : List Nat, (ks.foldl (fun l k => bump l (lo k)) l).length = l.length by rw [h, List.length_replicate]
  induction ks with
  | nil => intro l; rfl
  | cons k ks ih => intro l; rw [List.foldl_cons, ih, bump_len]
theorem writ_loop {XS : D} {n : Nat} {ks : List Nat} {lo hi : Nat → Nat} {TD W : D} {x5 x6 x7 x8 x9 x10 x11 x12 : Option D} {b : Bool} (tp : TD.plain = true) (hks : ks.length ≤ 1000)
    (sp : ∀ k ∈ ks, x_span_of [TD, .int (k : Int)] = .ret (.tup [.int (lo k : Int), .int ((hi k : Int) - 1)]) [TD, .int (k : Int)]) (hlo : ∀ k ∈ ks, lo k < n + 1 ∧ hi k < n + 1) {Q : Fl → Pm.Env → Prop}
    (hQ : ∀ x5 x6 x7, Q .nx [some W, some TD, some (oD false ks), some (oD true (opens lo ks (n + 1))), some (oD true (opens hi ks (n + 1))), x5, x6, x7, x8, x9, x10, x11, x12]) :
    Wp (forS (srcA (loc 2)) (gN 5) b_written_1) [some W, some TD, some (oD b ks), some (oD true (List.replicate (n + 1) 0)), some (oD true (List.replicate (n + 1) 0)), x5, x6, x7, x8, x9, x10, x11, x12] Q := by
  have hs : srcA (loc 2) [some W, some TD, some (oD b ks), some (oD true (List.replicate (n + 1) 0)), some (oD true (List.replicate (n + 1) 0)), x5, x6, x7, x8, x9, x10, x11, x12] = .ok (ks.map fun k : Nat => D.int (k : Int)) [some W, some TD, some (oD false ks), some (oD true (List.replicate (n + 1) 0)), some (oD true (List.replicate (n + 1) 0)), x5, x6, x7, x8, x9, x10, x11, x12] := by
    have fz : frzL (ks.map fun k : Nat => D.int (k : Int)) = ks.map fun k : Nat => D.int (k : Int) := frz_ints _
    generalize oD true (List.replicate (n + 1) 0) = Z at *
    unfold oD
    generalize (ks.map fun k : Nat => D.int (k : Int)) = L at *
    simp [srcA, mkF, reFrz, seq, Pm.ite, rtn, mov, asg, drp, sNx, bnd, Pm.bin, Pm.un, app, aCons, aNil, idx, loc, con, Pm.ret, peek1, peeks, itemOf, on2I, iAdd, iSub, iGt, iGe, iLt, iLe, iDiv, iMod, use1, useL, gI, gN, tst, andT, orT, notT, andE, orE, notE, ifE, ixN, D.frz, D.plain, plainL, argsBack, opLen, opAbs, opInt1, opNeg, disp, cap, callF, takes, puts, selA, sel, aApp, par, gT, gsC, gs0, appF, opDivmod, frzL, plainL, fz]
  refine wp_for hs (fun j ρ => ∃ x5 x6 x7, ρ = [some W, some TD, some (oD false ks), some (oD true (opens lo (ks.take j) (n + 1))), some (oD true (opens hi (ks.take j) (n + 1))), x5, x6, x7, x8, x9, x10, x11, x12]) ⟨x5, x6, x7, rfl⟩ ?_ ?_
  · rintro j d ρ hd ⟨x5, x6, x7, rfl⟩
    rw [List.getElem?_map] at hd
    obtain ⟨k, hk, rfl⟩ := Option.map_eq_some_iff.mp hd
    have hm := List.mem_of_getElem? hk
    obtain ⟨h1, h2⟩ := hlo k hm
    have sk := sp k hm
    have tk : ks.take (j + 1) = ks.take j ++ [k] := by rw [List.take_add_one, hk]; rfl
    refine ⟨[some W, some TD, some (oD false ks), some (oD true (opens lo (ks.take j) (n + 1))), some (oD true (opens hi (ks.take j) (n + 1))), some (.int (k : Int)), x6, x7, x8, x9, x10, x11, x12], rfl, ?_⟩
    unfold b_written_1
    refine wp_nx [some W, some TD, some (oD false ks), some (oD true (opens lo (ks.take j) (n + 1))), some (oD true (opens hi (ks.take j) (n + 1))), some (.int (k : Int)), some (.int (lo k : Int)), some (.int ((hi k : Int) - 1)), x8, x9, x10, x11, x12] ?_ ?_
    · generalize oD false ks = K1 at *
      generalize oD true (opens lo (ks.take j) (n + 1)) = O1 at *
      generalize oD true (opens hi (ks.take j) (n + 1)) = O2 at *
      generalize x_span_of = SP at *
      simp [mkF, reFrz, seq, Pm.ite, rtn, mov, asg, drp, sNx, bnd, Pm.bin, Pm.un, app, aCons, aNil, idx, loc, con, Pm.ret, peek1, peeks, itemOf, on2I, iAdd, iSub, iGt, iGe, iLt, iLe, iDiv, iMod, use1, useL, gI, gN, tst, andT, orT, notT, andE, orE, notE, ifE, ixN, D.frz, D.plain, plainL, argsBack, opLen, opAbs, opInt1, opNeg, disp, cap, callF, takes, puts, selA, sel, aApp, par, gT, gsC, gs0, appF, opDivmod, frzL, plainL, sk, tp]
    refine wp_nx _ (aug_at (l := opens lo (ks.take j) (n + 1)) (i := lo k) (ev := .ref 6) (by rw [opens_len]; exact h1) rfl rfl rfl) ?_
    rw [← opens_snoc, ← tk]
    refine Wp.of (a := .nx) (aug_at (l := opens hi (ks.take j) (n + 1)) (i := hi k) (ev := .val (.int ((hi k : Nat) : Int))) (by rw [opens_len]; exact h2) rfl ?_ rfl) ?_
    · have ad : hAdd [.int ((hi k : Int) - 1), .int 1] = some (.int (hi k : Int)) := by rw [hAdd_ii]; congr 2; omega
      generalize hAdd = HA at *
      simp [mkF, reFrz, seq, Pm.ite, rtn, mov, asg, drp, sNx, bnd, Pm.bin, Pm.un, app, aCons, aNil, idx, loc, con, Pm.ret, peek1, peeks, itemOf, on2I, iAdd, iSub, iGt, iGe, iLt, iLe, iDiv, iMod, use1, useL, gI, gN, tst, andT, orT, notT, andE, orE, notE, ifE, ixN, D.frz, D.plain, plainL, argsBack, opLen, opAbs, opInt1, opNeg, disp, cap, callF, takes, puts, selA, sel, aApp, par, gT, gsC, gs0, appF, opDivmod, frzL, plainL, ad]
    · rw [← opens_snoc, ← tk]
      exact ⟨some (.int (k : Int)), some (.int (lo k : Int)), some (.int ((hi k : Int) - 1)), rfl⟩
  · rintro ρ ⟨x5, x6, x7, rfl⟩
    rw [List.length_map, List.take_length]
    exact hQ x5 x6 x7
/-- an operand: what opens, a dot, what closes -/
def opnd (o c : Nat) : List Nat := List.replicate o 40 ++ [46] ++ List.replicate c 41
theorem flat_rp (n c : Nat) : (List.replicate n [c]).flatten = List.replicate n c := by
  induction n with
  | zero => rfl
  | succ n ih => rw [List.replicate_succ, List.flatten_cons, ih]; rfl
end Pg
namespace Ex
abbrev PP := List (Nat × Nat)
end Ex
namespace Tr
open Ex
/-- without one -/
def wo (s : Nat → Bool) (x : Nat) : Nat → Bool := fun k => s k && k != x
end Tr
namespace Pm
open PySem PySem.Spec PyProof.Rows L2
end Pm
set_option maxHeartbeats 1000000
namespace Pg
open PySem PySem.Spec PyProof.Rows L2 Pm
theorem mid_T {l : List Nat} (h : l.length ≤ cap) (a b : Nat) : gCut (some (a : Int)) (some (b : Int)) (.str (Pm.T l)) = some (.str (Pm.T ((l.drop a).take (b - a)))) := by
  have := gCut_T (l := l) h (some (a : Int)) (some (b : Int))
  rw [this]
  congr 3
  exact slL_mid l a b
end Pg
set_option maxHeartbeats 1000000
namespace Pg
open PySem PySem.Spec PyProof.Rows L2 Pm
theorem src_r2K {f : M (List EV)} {ρ ρ1 : Pm.Env} {es : List EV} {a b : Nat} (h : f ρ = .ok es ρ1) (hp : peeks ρ1 es = some [.int (a : Int), .int (b : Int)]) (ha : a ≤ 1000000) (hb : b ≤ 1000000) : srcR2 f ρ = .ok (rangeD (a : Int) (b - a)) ρ1 := by
  have h1 : sm62 (a : Int) = true := sm62_of ⟨by omega, by omega⟩
  have h2 : sm62 (b : Int) = true := sm62_of ⟨by omega, by omega⟩
  unfold srcR2 bnd
  simp only [h, hp, h1, h2, Bool.and_true, if_true]
  congr 2
  omega
theorem range_natK (lo m : Nat) : rangeD (lo : Int) m = (List.range' lo m).map fun k : Nat => D.int (k : Int) := by
  unfold rangeD
  rw [List.range'_eq_map_range, List.map_map]
  refine List.map_congr_left fun k _ => ?_
  show D.int ((lo : Int) + k) = D.int ((lo + k : Nat) : Int)
  congr 1
/-- numbers that are kept -/
theorem pick_nat {own : List Nat} {s : M (List D)} {g : Tg} {c : M Bool} {e : M EV} {ρ ρ1 : Pm.Env} {l : List Nat} (p : Nat → Bool) (I : Pm.Env → Prop) (hs : s ρ = .ok (l.map fun k : Nat => D.int (k : Int)) ρ1) (h0 : I (wipeE ρ1 own)) (hl : l.length ≤ 1000000)
    (ht : ∀ k ∈ l, ∀ ρ, I ρ → ∃ ρ2 ρ3, g (.int (k : Int)) ρ = .ok () ρ2 ∧ c ρ2 = .ok (p k) ρ3 ∧ I (wipeE ρ3 own) ∧ ∃ ev ρ4 ρ5, e ρ3 = .ok ev ρ4 ∧ use1 ev ρ4 = .ok (.int (k : Int)) ρ5 ∧ I (wipeE ρ5 own)) :
    ∃ ρ', comp own s g c e ρ = .ok (.val (oD true (l.filter p))) (backE ρ1 ρ' own) ∧ I ρ' := by
  obtain ⟨acc, ρ', e1, h1, h2⟩ := comp_wp hs (fun j ρ acc => I ρ ∧ acc = ((l.take j).filter p).map fun k : Nat => D.int (k : Int)) ⟨h0, rfl⟩ (by rw [List.length_map]; exact hl) fun j d ρ acc hd ⟨hi, ha⟩ => by
    rw [List.getElem?_map] at hd
    obtain ⟨k, hk, rfl⟩ := Option.map_eq_some_iff.mp hd
    obtain ⟨ρ2, ρ3, g1, c1, i0, ev, ρ4, ρ5, e4, e5, i5⟩ := ht k (List.mem_of_getElem? hk) ρ hi
    have tk : l.take (j + 1) = l.take j ++ [k] := by rw [List.take_add_one, hk]; rfl
    refine ⟨ρ2, g1, Wp.of c1 ⟨fun h => Wp.of e4 ⟨_, ρ5, e5, i5, ?_⟩, fun h => ⟨i0, ?_⟩⟩⟩
    · rw [tk, List.filter_append, List.map_append, ← ha]; simp [h]
    · rw [tk, List.filter_append, List.map_append, ← ha]; simp [h]
  refine ⟨ρ', ?_, h1⟩
  rw [e1, h2, List.length_map, List.take_length]
  rfl
end Pg
namespace Tr
/-- the first and the last of a subtree, as far as the operators below j tell -/
def loJ (T : LT) (j x : Nat) : Nat := if loF T x < j then loF T x else x
def hiJ (T : LT) (j x : Nat) : Nat := max x (min j (hiF T x) - 1)
theorem anc_span {T : LT} {n k x : Nat} (h : Run T 0 n) (hk : k < n) (hx : x < n) (ha : x ∈ anc T k) : loF T x ≤ k ∧ k < hiF T x := by
  obtain ⟨q1, q2, q3, q4, q5⟩ := sub_bd h (Nat.zero_le x) (by omega)
  have := (path_sub h (Nat.zero_le x) (by omega) (Nat.zero_le k) (by omega)).mp (List.mem_cons_of_mem _ ha)
  rw [q5.mem] at this
  omega
theorem anc_off {T : LT} {n k x : Nat} (h : Run T 0 n) (hk : k < n) (hx : x < n) (ha : x ∉ anc T k) : x = k ∨ k < loF T x ∨ hiF T x ≤ k := by
  by_cases e : x = k
  · exact .inl e
  · obtain ⟨q1, q2, q3, q4, q5⟩ := sub_bd h (Nat.zero_le x) (by omega)
    have : ¬ k ∈ (subT T x).lab := fun hm => by
      have := (path_sub h (Nat.zero_le x) (by omega) (Nat.zero_le k) (by omega)).mpr hm
      rcases List.mem_cons.mp this with e' | hm'
      · exact e e'
      · exact ha hm'
    rw [q5.mem] at this
    omega
theorem loJ_on {T : LT} {n k x : Nat} (h : Run T 0 n) (hk : k < n) (hx : x < n) (ha : x ∈ anc T k) : min (loJ T k x) k = loJ T (k + 1) x ∧ min (loJ T (k + 1) x) k = loJ T (k + 1) x ∧ max (hiJ T k x) k = hiJ T (k + 1) x ∧ max (hiJ T (k + 1) x) k = hiJ T (k + 1) x := by
  obtain ⟨q1, q2, q3, q4, q5⟩ := sub_bd h (Nat.zero_le x) (by omega)
  have := anc_span h hk hx ha
  unfold loJ hiJ
  refine ⟨?_, ?_, ?_, ?_⟩
  · by_cases e : loF T x < k
    · rw [if_pos e, if_pos (by omega)]; omega
    · rw [if_neg e, if_pos (by omega)]; omega
  · rw [if_pos (by omega)]; omega
  · omega
  · omega
theorem loJ_off {T : LT} {n k x : Nat} (h : Run T 0 n) (hk : k < n) (hx : x < n) (ha : x ∉ anc T k) : loJ T (k + 1) x = loJ T k x ∧ hiJ T (k + 1) x = hiJ T k x := by
  obtain ⟨q1, q2, q3, q4, q5⟩ := sub_bd h (Nat.zero_le x) (by omega)
  have := anc_off h hk hx ha
  unfold loJ hiJ
  refine ⟨?_, by omega⟩
  by_cases e : loF T x < k
  · rw [if_pos e, if_pos (by omega)]
  · rw [if_neg e]
    by_cases e2 : loF T x < k + 1
    · rw [if_pos e2]; omega
    · rw [if_neg e2]
theorem loJ_end {T : LT} {n x : Nat} (h : Run T 0 n) (hx : x < n) : loJ T n x = loF T x ∧ hiJ T n x + 1 = hiF T x := by
  obtain ⟨q1, q2, q3, q4, q5⟩ := sub_bd h (Nat.zero_le x) (by omega)
  unfold loJ hiJ
  exact ⟨by rw [if_pos (by omega)], by omega⟩
theorem loJ_zero (T : LT) (x : Nat) : loJ T 0 x = x ∧ hiJ T 0 x = x := by
  unfold loJ hiJ
  exact ⟨by rw [if_neg (by omega)], by omega⟩
/-- operands and letters by turns -/
theorem turns_wr (w : List Nat) (o c : Nat → Nat) : ∀ (m a : Nat), a + m = w.length → (List.range' a (m + 1)).flatMap (fun i => opnd (o i) (c i) ++ (w.drop i).take 1) = wr (fun i => w.getD i 0) a m o c
  | 0, a, h => by
    unfold wr
    have : w.drop a = [] := List.drop_eq_nil_of_le (by omega)
    simp [List.range'_succ, this]
  | m + 1, a, h => by
    rw [List.range'_succ, List.flatMap_cons, turns_wr w o c m (a + 1) (by omega)]
    unfold wr
    rw [List.range'_succ, List.flatMap_cons]
    have : (w.drop a).take 1 = [w.getD a 0] := by
      rw [List.drop_eq_getElem_cons (show a < w.length by omega), List.getD_eq_getElem?_getD, List.getElem?_eq_getElem (show a < w.length by omega)]
      rfl
    rw [this]
    simp
end Tr
set_option maxHeartbeats 1000000
namespace Pg
open PySem PySem.Spec PyProof.Rows L2 Pm
/-- a list by its entries -/
def fl (n : Nat) (f : Nat → Nat) : List Nat := (List.range n).map f
section
variable {P : Tr.Ps} {T : Tr.LT}
def ups (T : Tr.LT) : Option Nat → List Nat
  | none => []
  | some y => y :: Tr.anc T y
end
end Pg
set_option maxHeartbeats 1000000
namespace Gr
open PySem PySem.Spec PyProof.Rows L2 Pm
open Pg (rtD pD dr divS rt_frz rt_plain rts_plain ups)
noncomputable def c_dot_spans_1 : M EV := comp [2] (srcR1 (aCons (app opLen (aCons (loc 0) aNil)) aNil)) (gN 2) yesT (disp false .tup (aCons (loc 2) (aCons (Pm.bin hAdd (loc 2) (con (.int 1))) aNil)))
noncomputable def t_dot_spans_1 : M Bool := (tst (Pm.bin opNotN (loc 3) (con .non)))
noncomputable def b_dot_spans_1 : M Fl := (seq (asg (disp false .tup (aCons (app opMin2 (aCons (idx (aCons (idx (aCons (loc 1) (aCons (loc 3) aNil))) (aCons (con (.int 0)) aNil))) (aCons (loc 2) aNil))) (aCons (app opMax2 (aCons (idx (aCons (idx (aCons (loc 1) (aCons (loc 3) aNil))) (aCons (con (.int 1)) aNil))) (aCons (Pm.bin hAdd (loc 2) (con (.int 1))) aNil))) aNil))) (gI 1 (loc 3)))
    (asg (idx (aCons (loc 0) (aCons (loc 3) aNil))) (gN 3)))
noncomputable def b_dot_spans_2 : M Fl := (seq (asg (idx (aCons (loc 0) (aCons (loc 2) aNil))) (gN 3))
    (whl t_dot_spans_1 b_dot_spans_1))
noncomputable def b_dot_spans : M Fl := (seq (asg c_dot_spans_1 (gN 1))
    (seq (forS (srcR1 (aCons (app opLen (aCons (loc 0) aNil)) aNil)) (gN 2) b_dot_spans_2)
    (rtn (mov 1))))
noncomputable def x_dot_spans : FSem := mkF 1 4 [] b_dot_spans
/-- two places -/
def prD (p : Nat × Nat) : D := .node false .tup [.int (p.1 : Int), .int (p.2 : Int)]
def psD (b : Bool) (l : List (Nat × Nat)) : D := .node b .lst (l.map prD)
def flp (n : Nat) (f : Nat → Nat × Nat) : List (Nat × Nat) := (List.range n).map f
theorem flp_len (n : Nat) (f : Nat → Nat × Nat) : (flp n f).length = n := by unfold flp; rw [List.length_map, List.length_range]
theorem flp_set {n : Nat} {f : Nat → Nat × Nat} {y : Nat} {v : Nat × Nat} : (flp n f).set y v = flp n fun x => if x = y then v else f x := by
  unfold flp
  apply List.ext_getElem
  · rw [List.length_set, List.length_map, List.length_map]
  · intro i h1 h2
    rw [List.getElem_set]
    by_cases e : y = i
    · subst e; simp
    · rw [if_neg e]; simp [Ne.symm e]
theorem flp_congr {n : Nat} {f g : Nat → Nat × Nat} (h : ∀ x, x < n → f x = g x) : flp n f = flp n g := List.map_congr_left fun x hx => h x (List.mem_range.mp hx)
theorem flp_get {n : Nat} {f : Nat → Nat × Nat} {y : Nat} (h : y < (flp n f).length) : (flp n f)[y] = f y := by
  have h2 : y < n := by rw [flp_len] at h; exact h
  have e : (flp n f)[y]? = some (f y) := by
    unfold flp
    rw [List.getElem?_map, List.getElem?_range h2]
    rfl
  rw [List.getElem?_eq_getElem h] at e
  exact Option.some.inj e
theorem ix_nat {n k : Nat} (h : k < n) : ixN n (k : Int) = some k := by
  unfold ixN
  rw [if_pos (by omega), if_pos (by omega)]
  rfl
theorem gI_ps {ρ : Pm.Env} {j i k : Nat} {v : Nat × Nat} {l : List (Nat × Nat)} (h : ρ.getD j none = some (psD true l)) (h2 : ρ.getD i none = some (.int (k : Int))) (hk : k < l.length) : gI j (loc i) (prD v) ρ = .ok () (ρ.set j (some (psD true (l.set k v)))) := by
  have e : ixN (l.map prD).length (k : Int) = some k := ix_nat (by rw [List.length_map]; exact hk)
  unfold gI
  simp only [h]
  unfold bnd loc
  simp only [h, h2, psD, peek1, e, List.map_set]
theorem item_ps {b : Bool} {l : List (Nat × Nat)} {i j : Nat} {ρ : Pm.Env} (hi : i < l.length) (h : ρ.getD j none = some (psD b l)) : itemOf (.ref j) (i : Int) ρ = .ok (.val (prD l[i])) ρ := by
  have e2 : ixN (l.map prD).length (i : Int) = some i := ix_nat (by rw [List.length_map]; exact hi)
  have g : (l.map prD)[i]? = some (prD l[i]) := by
    rw [List.getElem?_map, List.getElem?_eq_getElem hi]
    rfl
  have pl : (prD l[i]).plain = true := rfl
  unfold psD at h
  generalize l.map prD = L at *
  unfold itemOf
  simp only [h, e2, g, pl]
  cases b <;> rfl
theorem item_tF {P : Tr.Ps} {x j : Nat} {p : Option Nat} {ρ : Pm.Env} (h : P[x]? = some p) (hr : ρ.getD j none = some (tF P)) : itemOf (.ref j) (x : Int) ρ = .ok (.val (rtD p)) ρ := by
  obtain ⟨hx, e⟩ := List.getElem?_eq_some_iff.mp h
  have e2 : ixN (P.map rtD).length (x : Int) = some x := ix_nat (by rw [List.length_map]; exact hx)
  have hp : (rtD p).plain = true := by cases p <;> rfl
  unfold itemOf
  simp only [hr, tF, e2, List.getElem?_map, h, Option.map_some, hp]
  rfl
theorem pr_0 (p : Nat × Nat) (ρ : Pm.Env) : itemOf (.val (prD p)) 0 ρ = .ok (.val (.int (p.1 : Int))) ρ := rfl
theorem pr_1 (p : Nat × Nat) (ρ : Pm.Env) : itemOf (.val (prD p)) 1 ρ = .ok (.val (.int (p.2 : Int))) ρ := rfl
theorem len_tF (P : Tr.Ps) : opLen [tF P] = some (.int (P.length : Int)) := by
  show some (D.int ((P.map rtD).length : Int)) = _
  rw [List.length_map]
theorem tF_pl (P : Tr.Ps) : (tF P).plain = true := rts_plain P
def dj (T : Tr.LT) (j x : Nat) : Nat × Nat := (Tr.loJ T j x, Tr.hiJ T j x + 1)
theorem ups_head {T : Tr.LT} {n k : Nat} (hR : Tr.Run T 0 n) (hk : k < n) : ups T (Tr.anc T k).head? = Tr.anc T k := by
  cases e : (Tr.anc T k).head? with
  | none =>
    show [] = _
    cases hc : Tr.anc T k with
    | nil => rfl
    | cons a b => rw [hc] at e; cases e
  | some y => exact (Tr.anc_tail hR (Nat.zero_le k) (by omega) e).symm
section
variable {P : Tr.Ps} {T : Tr.LT}
theorem ds_up  {n k : Nat} (hn : P.length = n) (hR : Tr.Run T 0 n) (hz : Tr.Rz P T none) (hk : k < n) {Q : Fl → Pm.Env → Prop}
    (hQ : Q .nx [some (tF P), some (psD true (flp n (dj T (k + 1)))), some (.int (k : Int)), some (rtD none)]) :
    Wp (whl t_dot_spans_1 b_dot_spans_1) [some (tF P), some (psD true (flp n (dj T k))), some (.int (k : Int)), some (rtD (Tr.anc T k).head?)] Q := by
  have ha0 := ups_head hR hk
  refine wp_whl (fun m ρ => ∃ (A : List Nat) (y : Option Nat) (L : Nat → Nat × Nat), ρ = [some (tF P), some (psD true (flp n L)), some (.int (k : Int)), some (rtD y)] ∧ Tr.anc T k = A ++ ups T y ∧ (ups T y).length = m ∧
      (∀ x, x < n → L x = if x ∈ A then dj T (k + 1) x else dj T k x)) ?_ (ups T (Tr.anc T k).head?).length _
    ⟨[], _, dj T k, rfl, by rw [ha0]; rfl, rfl, fun x _ => rfl⟩
  rintro m ρ ⟨A, y, L, rfl, hA, hm, hL⟩
  cases y with
  | none =>
    refine Wp.of (a := false) (ρ' := [some (tF P), some (psD true (flp n L)), some (.int (k : Int)), some (rtD none)]) ?_ ⟨fun h => (nomatch h), fun _ => ?_⟩
    · unfold t_dot_spans_1
      generalize tF P = TD at *
      generalize psD true (flp n L) = L1 at *
      simp [mkF, reFrz, seq, Pm.ite, rtn, mov, asg, drp, sNx, bnd, Pm.bin, Pm.un, app, aCons, aNil, idx, loc, con, Pm.ret, peek1, peeks, itemOf, on2I, iAdd, iSub, iGt, iGe, iLt, iLe, iDiv, iMod, use1, useL, gI, gN, tst, andT, orT, notT, andE, orE, notE, ifE, ixN, D.frz, D.plain, plainL, argsBack, opLen, opAbs, opInt1, opNeg, disp, cap, callF, takes, puts, selA, sel, aApp, par, gT, gsC, gs0, appF, opDivmod, frzL, plainL, rtD, opNotN, D.isNon]
    · have e : Tr.anc T k = A := by rw [hA]; exact List.append_nil A
      have eL : flp n L = flp n (dj T (k + 1)) := flp_congr fun x hx => by
        rw [hL x hx]
        by_cases hx' : x ∈ A
        · rw [if_pos hx']
        · rw [if_neg hx']
          have := Tr.loJ_off hR hk hx (by rw [e]; exact hx')
          unfold dj
          rw [this.1, this.2]
      rw [eL]
      exact hQ
  | some y =>
    have hy : y ∈ Tr.anc T k := by rw [hA]; simp [ups]
    have hyn : y < n := by have := Tr.anc_in hR hy; omega
    obtain ⟨f1, f2, f3, f4⟩ := Tr.loJ_on hR hk hyn hy
    have hL1 : min (L y).1 k = (dj T (k + 1) y).1 := by
      rw [hL y hyn]
      by_cases h : y ∈ A
      · rw [if_pos h]; exact f2
      · rw [if_neg h]; exact f1
    have hL2 : max (L y).2 (k + 1) = (dj T (k + 1) y).2 := by
      rw [hL y hyn]
      by_cases h : y ∈ A
      · rw [if_pos h]; show max (Tr.hiJ T (k + 1) y + 1) (k + 1) = Tr.hiJ T (k + 1) y + 1; omega
      · rw [if_neg h]; show max (Tr.hiJ T k y + 1) (k + 1) = Tr.hiJ T (k + 1) y + 1; omega
    have hp := Tr.anc_none (P := P) hR hz hyn
    have hup := ups_head hR hyn
    have itL : itemOf (.ref 1) (y : Int) [some (tF P), some (psD true (flp n L)), some (.int (k : Int)), some (.int (y : Int))] = .ok (.val (prD (L y))) [some (tF P), some (psD true (flp n L)), some (.int (k : Int)), some (.int (y : Int))] := by
      have := item_ps (b := true) (l := flp n L) (i := y) (j := 1) (ρ := [some (tF P), some (psD true (flp n L)), some (.int (k : Int)), some (.int (y : Int))]) (by rw [flp_len]; exact hyn) rfl
      rw [flp_get] at this
      exact this
    have p0 := pr_0 (L y)
    have p1 := pr_1 (L y)
    have mn : opMin2 [.int (((L y).1 : Nat) : Int), .int (k : Int)] = some (.int (((dj T (k + 1) y).1 : Nat) : Int)) := by rw [min2_ii, ← hL1]; congr 2; omega
    have ad : hAdd [.int (k : Int), .int 1] = some (.int ((k + 1 : Nat) : Int)) := by rw [hAdd_ii]; rfl
    have mx : opMax2 [.int (((L y).2 : Nat) : Int), .int ((k + 1 : Nat) : Int)] = some (.int (((dj T (k + 1) y).2 : Nat) : Int)) := by rw [max2_ii, ← hL2]; congr 2; omega
    have s1 := gI_ps (ρ := [some (tF P), some (psD true (flp n L)), some (.int (k : Int)), some (.int (y : Int))]) (j := 1) (i := 3) (k := y) (v := dj T (k + 1) y) rfl rfl (by rw [flp_len]; exact hyn)
    rw [flp_set] at s1
    have itP := fun a => item_tF (P := P) (x := y) (j := 0) (ρ := [some (tF P), some (a), some (.int (k : Int)), some (.int (y : Int))]) hp rfl
    refine Wp.of (a := true) (ρ' := [some (tF P), some (psD true (flp n L)), some (.int (k : Int)), some (rtD (some y))]) ?_ ⟨fun _ => ?_, fun h => (nomatch h)⟩
    · unfold t_dot_spans_1
      generalize tF P = TD at *
      generalize psD true (flp n L) = L1 at *
      simp [mkF, reFrz, seq, Pm.ite, rtn, mov, asg, drp, sNx, bnd, Pm.bin, Pm.un, app, aCons, aNil, idx, loc, con, Pm.ret, peek1, peeks, itemOf, on2I, iAdd, iSub, iGt, iGe, iLt, iLe, iDiv, iMod, use1, useL, gI, gN, tst, andT, orT, notT, andE, orE, notE, ifE, ixN, D.frz, D.plain, plainL, argsBack, opLen, opAbs, opInt1, opNeg, disp, cap, callF, takes, puts, selA, sel, aApp, par, gT, gsC, gs0, appF, opDivmod, frzL, plainL, rtD, opNotN, D.isNon]
    · unfold b_dot_spans_1
      rw [show rtD (some y) = .int (y : Int) from rfl]
      refine wp_nx [some (tF P), some (psD true (flp n fun x => if x = y then dj T (k + 1) y else L x)), some (.int (k : Int)), some (.int (y : Int))] ?_ ?_
      · clear itP
        unfold prD at s1 itL p0 p1
        generalize tF P = TD at *
        generalize psD true (flp n L) = L1 at *
        generalize psD true (flp n fun x => if x = y then dj T (k + 1) y else L x) = L2 at *
        generalize gI 1 (loc 3) = G4 at *
        generalize opMin2 = MN at *
        generalize opMax2 = MX at *
        generalize hAdd = HA at *
        generalize (((dj T (k + 1) y).1 : Nat) : Int) = V1 at *
        generalize (((dj T (k + 1) y).2 : Nat) : Int) = V2 at *
        generalize ((k + 1 : Nat) : Int) = K1 at *
        simp [mkF, reFrz, seq, Pm.ite, rtn, mov, asg, drp, sNx, bnd, Pm.bin, Pm.un, app, aCons, aNil, idx, loc, con, Pm.ret, peek1, peeks, on2I, iAdd, iSub, iGt, iGe, iLt, iLe, iDiv, iMod, use1, useL, gN, tst, andT, orT, notT, andE, orE, notE, ifE, ixN, D.frz, D.plain, plainL, argsBack, opLen, opAbs, opInt1, opNeg, disp, cap, callF, takes, puts, selA, sel, aApp, par, gT, gsC, gs0, appF, opDivmod, frzL, plainL, itL, p0, p1, mn, mx, ad, s1]
      refine Wp.of (a := .nx) (ρ' := [some (tF P), some (psD true (flp n fun x => if x = y then dj T (k + 1) y else L x)), some (.int (k : Int)), some (rtD (Tr.anc T y).head?)]) ?_ ?_
      · have itP := itP (psD true (flp n fun x => if x = y then dj T (k + 1) y else L x))
        clear itL s1 mn mx ad p0 p1
        generalize psD true (flp n fun x => if x = y then dj T (k + 1) y else L x) = L1 at *
        generalize tF P = TD at *
        generalize hrd : rtD (Tr.anc T y).head? = RD at *
        have fz : RD.frz = RD := by rw [← hrd]; exact rt_frz _
        simp [mkF, reFrz, seq, Pm.ite, rtn, mov, asg, drp, sNx, bnd, Pm.bin, Pm.un, app, aCons, aNil, idx, loc, con, Pm.ret, peek1, peeks, on2I, iAdd, iSub, iGt, iGe, iLt, iLe, iDiv, iMod, use1, useL, gN, tst, andT, orT, notT, andE, orE, notE, ifE, ixN, D.frz, D.plain, plainL, argsBack, opLen, opAbs, opInt1, opNeg, disp, cap, callF, takes, puts, selA, sel, aApp, par, gT, gsC, gs0, appF, opDivmod, frzL, plainL, itP, gN, fz]
      · refine ⟨(ups T (Tr.anc T y).head?).length, ?_, A ++ [y], (Tr.anc T y).head?, _, rfl, ?_, rfl, fun x hx => ?_⟩
        · rw [hup, ← hm]; simp [ups]
        · rw [hup, hA]; simp [ups]
        · by_cases e : x = y
          · subst e; rw [if_pos rfl, if_pos (by simp)]
          · rw [if_neg e, hL x hx]
            by_cases h : x ∈ A
            · rw [if_pos h, if_pos (by simp [h])]
            · rw [if_neg h, if_neg (by simp [h, e])]
theorem ds_loop  {n : Nat} {y1 y2 : Option D} {LD : D} (hn : P.length = n) (hl : n ≤ 1000) (hR : Tr.Run T 0 n) (hz : Tr.Rz P T none) (hlen : opLen [LD] = some (.int (n : Int))) (hLD : [some (tF P), some (.non), some (.non), some (.non)].getD 0 none = some LD) {Q : Fl → Pm.Env → Prop}
    (hQ : ∀ y1 y2, (∀ d, y1 = some d → d.plain = true) → Q .nx [some (tF P), some (psD true (flp n (dj T n))), y1, y2]) (hy : ∀ d, y1 = some d → d.plain = true := by intro d h; cases h) :
    Wp (forS (srcR1 (aCons (app opLen (aCons (loc 0) aNil)) aNil)) (gN 2) b_dot_spans_2) [some (tF P), some (psD true (flp n (dj T 0))), y1, y2] Q := by
  have hs : srcR1 (aCons (app opLen (aCons (loc 0) aNil)) aNil) [some (tF P), some (psD true (flp n (dj T 0))), y1, y2] = .ok ((List.range' 0 n).map fun k : Nat => D.int (k : Int)) [some (tF P), some (psD true (flp n (dj T 0))), y1, y2] := by
    rw [← Pg.range_natK 0 n]
    refine src_r1 (es := [.val (.int (n : Int))]) ?_ (by simp [mkF, reFrz, seq, Pm.ite, rtn, mov, asg, drp, sNx, bnd, Pm.bin, Pm.un, app, aCons, aNil, idx, loc, con, Pm.ret, peek1, peeks, itemOf, on2I, iAdd, iSub, iGt, iGe, iLt, iLe, iDiv, iMod, use1, useL, gI, gN, tst, andT, orT, notT, andE, orE, notE, ifE, ixN, D.frz, D.plain, plainL, argsBack, opLen, opAbs, opInt1, opNeg, disp, cap, callF, takes, puts, selA, sel, aApp, par, gT, gsC, gs0, appF, opDivmod, frzL, plainL]) (by omega)
    obtain rfl : tF P = LD := by simpa using hLD
    generalize psD true (flp n (dj T 0)) = L1 at *
    generalize tF P = TD at *
    generalize opLen = OL at *
    simp [mkF, reFrz, seq, Pm.ite, rtn, mov, asg, drp, sNx, bnd, Pm.bin, Pm.un, app, aCons, aNil, idx, loc, con, Pm.ret, peek1, peeks, itemOf, on2I, iAdd, iSub, iGt, iGe, iLt, iLe, iDiv, iMod, use1, useL, gI, gN, tst, andT, orT, notT, andE, orE, notE, ifE, ixN, D.frz, D.plain, plainL, argsBack, opLen, opAbs, opInt1, opNeg, disp, cap, callF, takes, puts, selA, sel, aApp, par, gT, gsC, gs0, appF, opDivmod, frzL, plainL, hlen]
  refine wp_for hs (fun j ρ => ∃ y1 y2, ρ = [some (tF P), some (psD true (flp n (dj T j))), y1, y2] ∧ ∀ d, y1 = some d → d.plain = true) ⟨y1, y2, rfl, hy⟩ ?_ ?_
  · rintro j d ρ hd ⟨y1, y2, rfl, _⟩
    rw [List.getElem?_map] at hd
    obtain ⟨k, hk, rfl⟩ := Option.map_eq_some_iff.mp hd
    obtain ⟨hj, hk'⟩ := List.getElem?_eq_some_iff.mp hk
    rw [List.getElem_range'] at hk'
    rw [List.length_range'] at hj
    obtain rfl : j = k := by omega
    refine ⟨[some (tF P), some (psD true (flp n (dj T j))), some (.int (j : Int)), y2], rfl, ?_⟩
    unfold b_dot_spans_2
    have hp := Tr.anc_none (P := P) hR hz hj
    have itP := item_tF (P := P) (x := j) (j := 0) (ρ := [some (tF P), some (psD true (flp n (dj T j))), some (.int (j : Int)), y2]) hp rfl
    refine wp_nx [some (tF P), some (psD true (flp n (dj T j))), some (.int (j : Int)), some (rtD (Tr.anc T j).head?)] ?_ ?_
    · generalize psD true (flp n (dj T j)) = L1 at *
      generalize tF P = TD at *
      generalize hrd : rtD (Tr.anc T j).head? = RD at *
      have fz : RD.frz = RD := by rw [← hrd]; exact rt_frz _
      simp [mkF, reFrz, seq, Pm.ite, rtn, mov, asg, drp, sNx, bnd, Pm.bin, Pm.un, app, aCons, aNil, idx, loc, con, Pm.ret, peek1, peeks, on2I, iAdd, iSub, iGt, iGe, iLt, iLe, iDiv, iMod, use1, useL, gN, tst, andT, orT, notT, andE, orE, notE, ifE, ixN, D.frz, D.plain, plainL, argsBack, opLen, opAbs, opInt1, opNeg, disp, cap, callF, takes, puts, selA, sel, aApp, par, gT, gsC, gs0, appF, opDivmod, frzL, plainL, itP, gN, fz]
    exact ds_up hn hR hz hj ⟨_, _, rfl, fun d h => by cases h; rfl⟩
  · rintro ρ ⟨y1, y2, rfl, h⟩
    rw [List.length_map, List.length_range']
    exact hQ y1 y2 h
theorem dj_zero (T : Tr.LT) (n : Nat) : flp n (dj T 0) = flp n fun x => (x, x + 1) := flp_congr fun x _ => by
  unfold dj
  rw [(Tr.loJ_zero T x).1, (Tr.loJ_zero T x).2]
theorem dj_end {n : Nat} (hR : Tr.Run T 0 n) : flp n (dj T n) = flp n fun x => (Tr.loF T x, Tr.hiF T x) := flp_congr fun x hx => by
  unfold dj
  rw [(Tr.loJ_end hR hx).1, (Tr.loJ_end hR hx).2]
end
end Gr
set_option maxHeartbeats 1000000
namespace Pm
open PySem PySem.Spec PyProof.Rows L2
def opFmt : List D → Option D
  | [.str y] => if y.length ≤ cap then some (.str y) else none
  | [.int i] => if i.natAbs.log2 < 1900 then some (.str (toString i : String)) else none
  | _ => none
/-- the parts, one behind the other -/
def fjs : List (M EV) → Str → M EV
  | [], acc => fun ρ => .ok (.val (.str acc)) ρ
  | f :: fs, acc => bnd f fun e ρ => match peek1 ρ e with
    | some (.str y) => if (acc ++ y).length ≤ cap then fjs fs (acc ++ y) ρ else .stuck
    | _ => .stuck
end Pm
namespace Pm
open PySem PySem.Spec PyProof.Rows L2
section
variable {X : Cx}
theorem iopd_addS : Opd X (inplaceOp .Add) gAddS := by
  refine ⟨_, iop_add_str, snd_pure fun Z H S ds vs d Q w rb e k => ?_⟩
  unfold gAddS at e
  split at e
  · split at e
    · rename_i a b c
      obtain ⟨v, u, rfl, rv, ru⟩ := rb2 rb
      obtain rfl : v = .str a := rv
      obtain rfl : u = .str b := ru
      cases e
      exact ⟨_, _, rfl, a, b, rfl, rfl, cap_le c, k _ rfl⟩
    · cases e
  · cases e
theorem iopd_gAdd : Opd X (inplaceOp .Add) gAdd := Opd.or iopd_addS iopd_addI fun ds d h => by
  unfold gAdd at h
  split at h
  · exact .inl h
  · exact .inr h
end
end Pm
set_option maxHeartbeats 2000000
namespace Pm
open PySem PySem.Spec PyProof.Rows L2
/-- an own class of exceptions as the module knows it -/
structure NCls (K : PySem.W.Frag) (mg : Str → Option Value) (n : Str) (C : Addr) : Prop where
  mgC : mg n = some (.ref C)
  rg : reg K n = some C
  xk : XK K C
  ty : PySem.W.typeIn K (.ref C) = some (.type "type")
/-- .. that is made with one field -/
structure ECls (P : Program) (w : World) (K : PySem.W.Frag) (mg : Str → Option Value) (base : Heap) (n f : Str) (C : Addr) : Prop where
  nc : NCls K mg n C
  ini : ∃ (fI : Addr) (fd : FuncData) (pn : Str), XC K C fI f ∧ FnOk P w K mg base CX0 1 fI fd ["self", pn] (spI K f) ∧ Binds K fd ["self", pn] []
section
variable {K : PySem.W.Frag} {mg : Str → Option Value} {W : WX} {X : Cx}
theorem S_raiseE {A : Nat → Bool} {k : Nat} {e : Expr} {fe : M EV} {n f : Str} {C : Addr} {p pos pos2 : Pos} (E : ECls X.prog X.w X.K X.mg X.base n f C) (ft : Fit X W k) (hk : 2 ≤ k) (ha : PA X [e] (tA X.K X.mg W (aCons fe aNil))) (hc : X.calm = true := by rfl) (hg : Gl X n := by rfl)
    (hdb : (n == ("__debug__" : Str)) = false := by decide) (he : starEach [e] X.env = (false, eval e X.env) :: starEach [] X.env := by rfl) (hpl : (backTo pos (starEach [] X.env)).any (·.1) = false := by rfl) :
    PS X (.Raise (some (.Call (.Name n p) [e] [] pos)) none pos2) (tS X.K X.mg W A (raise1 n f fe)) := by
  obtain ⟨fI, fd, pn, T, F1, hb⟩ := E.ini
  exact S_raise1 (k := 1) hc ft.tk T F1 (ft.room.mono hk) hb E.nc.mgC E.nc.rg ha hg hdb he hpl
end
def clsB : Stmt → List Stmt
  | .ClassDef _ _ _ b _ _ _ _ _ _ _ => b
  | _ => []
end Pm
set_option maxHeartbeats 2000000
namespace Pm
open PySem PySem.Spec PyProof.Rows L2
end Pm
set_option maxHeartbeats 2000000
namespace Pm
open PySem PySem.Spec PyProof.Rows L2
/-- an instance of the class n, the name m no field of it -/
def chk (n m : Str) (fe : M EV) : M EV := bnd fe fun e => fun ρ => match peek1 ρ e with
  | some (.node _ (.ins n' fs) _) => if n' = n ∧ m ∉ fs then .ok e ρ else .stuck
  | _ => .stuck
/-- a field that is plain -/
def fldE (n f : Str) (fe : M EV) : M EV := bnd fe fun e => fun ρ => match peek1 ρ e with
  | some (.node _ (.ins n' fs) xs) => if n' = n then (match (fs.zip xs).lookup f with
    | some d => if d.plain = true then .ok (.val d) ρ else .stuck
    | none => .stuck) else .stuck
  | _ => .stuck
def putN (f : Str) : List Str → List Str
  | [] => [f]
  | g :: r => if g = f then g :: r else g :: putN f r
def putX {α : Type} (f : Str) (d : α) : List Str → List α → List α
  | g :: r, x :: xs => if g = f then d :: xs else x :: putX f d r xs
  | _, _ => [d]
/-- the instance of the slot i gets a field -/
def setA (i : Nat) (n f : Str) (fe : M EV) : M Fl := bnd fe fun e => bnd (use1 e) fun d => fun ρ => match ρ.getD i none with
  | some (.node true (.ins n' fs) xs) => if n' = n ∧ fs.length < 900 ∧ fs.length = xs.length then .ok .nx (ρ.set i (some (.node true (.ins n (putN f fs)) (putX f d fs xs)))) else .stuck
  | _ => .stuck
section
variable {K : PySem.W.Frag} {mg : Str → Option Value} {W : WX} {Z H : Hp} {S : Fp} {σ : Sl} {X : Cx} {A : Nat → Bool}
theorem put_zip {f : Str} {v : V} : ∀ {fs : List Str} {ys : List V}, fs.length = ys.length → (putN f fs).zip (putX f v fs ys) = putF f v (fs.zip ys)
  | [], [], _ => rfl
  | [], _ :: _, h => by simp at h
  | _ :: _, [], h => by simp at h
  | g :: r, y :: ys, h => by
    unfold putN putX
    rw [List.zip_cons_cons]
    unfold putF
    by_cases e : g = f
    · rw [if_pos e, if_pos e, if_pos e, List.zip_cons_cons]
    · rw [if_neg e, if_neg e, if_neg e, List.zip_cons_cons, put_zip (by simpa using h)]
theorem put_len {α : Type} {f : Str} {d : α} : ∀ {fs : List Str} {xs : List α}, fs.length = xs.length → (putN f fs).length = (putX f d fs xs).length
  | [], [], _ => rfl
  | [], _ :: _, h => by simp at h
  | _ :: _, [], h => by simp at h
  | g :: r, y :: ys, h => by
    unfold putN putX
    by_cases e : g = f
    · rw [if_pos e, if_pos e]; exact h
    · rw [if_neg e, if_neg e, List.length_cons, List.length_cons, put_len (by simpa using h)]
theorem look_no {f : Str} {α : Type} : ∀ {fs : List Str} {ys : List α}, f ∉ fs → (fs.zip ys).lookup f = none
  | [], _, _ => rfl
  | _ :: _, [], _ => rfl
  | g :: r, y :: ys, h => by
    have h1 : f ≠ g := fun e => h (e ▸ List.mem_cons_self)
    rw [List.zip_cons_cons, List.lookup_cons, beq_eq_false_iff_ne.mpr h1]
    exact look_no fun q => h (List.mem_cons_of_mem _ q)
/-- a field put among the fields -/
theorem RepL.putX {f : Str} {d : D} {v : V} {T : Fp} (rv : Rep K Z H d v T) : ∀ {fs : List Str} {xs : List D} {ys : List V} {S1 : Fp}, fs.length = xs.length → RepL K Z H xs ys S1 → (∀ a, S1 a → T a → False) → RepL K Z H (Pm.putX f d fs xs) (Pm.putX f v fs ys) (fun a => S1 a ∨ T a)
  | [], [], [], S1, _, _, _ => ⟨T, Fp0, fun _ x => .inr x, fun _ x => x.elim, fun _ _ x => x, rv, trivial⟩
  | [], [], _ :: _, _, _, r, _ => r.elim
  | [], _ :: _, _, _, h, _, _ => by simp at h
  | _ :: _, [], _, _, h, _, _ => by simp at h
  | _ :: _, _ :: _, [], _, _, r, _ => r.elim
  | g :: r, x :: xs, y :: ys, S1, h, ⟨U1, U2, u1, u2, uj, rx, rl⟩, dj => by
    unfold Pm.putX
    by_cases e : g = f
    · rw [if_pos e, if_pos e]
      exact ⟨T, U2, fun _ x => .inr x, fun a x => .inl (u2 a x), fun a x y => dj a (u2 a y) x, rv, rl⟩
    · rw [if_neg e, if_neg e]
      refine ⟨U1, fun a => U2 a ∨ T a, fun a x => .inl (u1 a x), fun a x => x.elim (fun y => .inl (u2 a y)) .inr, fun a x y => y.elim (fun z => uj a x z) fun z => dj a (u1 a x) z, rx, ?_⟩
      exact RepL.putX rv (by simpa using h) rl fun a x y => dj a (u2 a x) y
/-- what stands where an instance is read -/
theorem ins_at {b : Bool} {n : Str} {fs : List Str} {xs : List D} {v : V} {S0 : Fp} (w : Sam Z H) (r : Rep K Z H (.node b (.ins n fs) xs) v S0) : ∃ (a C dx : Addr) (ys : List V) (S1 : Fp), v = .ref a ∧ reg K n = some C ∧ fs.length = ys.length ∧ H a = some (.ins C dx (fs.zip ys)) ∧ RepL K Z H xs ys S1 := by
  cases b with
  | false =>
    obtain ⟨a, ys, rfl, ⟨C, dx, h1, h2, h3⟩, rl⟩ := r
    exact ⟨a, C, dx, ys, S0, rfl, h1, h2, w.get _ _ h3 nt_ins, rl⟩
  | true =>
    obtain ⟨a, ys, S', rfl, ⟨C, dx, h1, h2, h3⟩, sa, na, sub, rl⟩ := r
    exact ⟨a, C, dx, ys, S', rfl, h1, h2, h3, rl⟩
theorem tE_chk {n m : Str} {fe : M EV} {Q : VK} (h : tE K mg W (chk n m fe) σ H Q) : tE K mg W fe σ H fun v H1 => (∃ (a C dx : Addr) (kvs : List (Str × V)), v = .ref a ∧ reg K n = some C ∧ H1 a = some (.ins C dx kvs) ∧ kvs.lookup m = none) ∧ Q v H1 := by
  obtain ⟨Z, ρ, S, w, er, o⟩ := h
  refine ⟨Z, ρ, S, w, er, ?_⟩
  simp only [chk, bnd] at o
  cases e1 : fe ρ with
  | stuck => rw [e1] at o; exact o
  | exc x ρ1 => rw [e1] at o; exact o
  | ok ev ρ1 =>
    simp only [e1] at o
    intro v Z' H' S' Sd st dj er' evr
    cases hp : peek1 ρ1 ev with
    | none => simp only [hp] at o; exact o.elim
    | some d =>
      simp only [hp] at o
      split at o
      · rename_i d b n' fs xs hd
        cases hd
        by_cases hn : n' = n ∧ m ∉ fs
        · rw [if_pos hn] at o
          obtain ⟨rfl, hm⟩ := hn
          obtain ⟨S0, rd⟩ := peek_rep er' evr hp
          obtain ⟨a, C, dx, ys, S1, rfl, h1, h2, h3, _⟩ := ins_at st.wd.same rd
          exact ⟨⟨a, C, dx, _, rfl, h1, h3, look_no hm⟩, o _ Z' H' S' Sd st dj er' evr⟩
        · rw [if_neg hn] at o; exact o.elim
      · exact o.elim
theorem E_fld {n f : Str} {C : Addr} {fe : M EV} {e : Expr} {pos : Pos} (hC : reg X.K n = some C) (hc : Cls X.K C) (hn : NoAttr X.K C f) (he : PE X e (tE X.K X.mg W fe)) (hb : attributeBase e f X.env (eval e X.env) = eval e X.env := by rfl) :
    PE X (.Attribute e f pos) (tE X.K X.mg W (fldE n f fe)) :=
  PE.of (pe_fld he hb) fun σ H Q h => by
    obtain ⟨Z, ρ, S, w, er, o⟩ := h
    refine ⟨Z, ρ, S, w, er, ?_⟩
    simp only [fldE, bnd] at o
    cases e1 : fe ρ with
    | stuck => rw [e1] at o; exact o.elim
    | exc x ρ1 => rw [e1] at o; exact o
    | ok ev ρ1 =>
      simp only [e1] at o
      intro v Z' H' S' Sd st dj er' evr
      cases hp : peek1 ρ1 ev with
      | none => simp only [hp] at o; exact o.elim
      | some d =>
        simp only [hp] at o
        split at o
        · rename_i d b n' fs xs hd
          cases hd
          by_cases hn' : n' = n
          · rw [if_pos hn'] at o
            subst hn'
            split at o
            · rename_i dat hdat
              by_cases hpl : dat.plain = true
              · rw [if_pos hpl] at o
                obtain ⟨S0, rd⟩ := peek_rep er' evr hp
                obtain ⟨a, C', dx, ys, S1, rfl, h1, h2, h3, rl⟩ := ins_at st.wd.same rd
                rw [hC] at h1
                cases h1
                obtain ⟨y, S2, ly, ry⟩ := look_rep rl hdat
                have wd' : Wd Z' H' S' := st.wd.less fun a q => .inl q
                refine ⟨a, C, dx, fs.zip ys, y, rfl, h3, hc, hn, ly, ?_⟩
                exact o y Z' H' S' Fp0 (st.less fun a q => q.elim .inl fun z => z.elim) (fun _ _ z => z.elim) er' (Rep.plain ry hpl)
              · rw [if_neg hpl] at o
                exact o.elim
            · exact o.elim
          · rw [if_neg hn'] at o
            exact o.elim
        · exact o.elim
theorem set_fld {j : Nat} {n f : Str} {fs : List Str} {xs : List D} {ρ : Env} {d : D} {v : V} {T : Fp} (w : Wd Z H (fun a => S a ∨ T a)) (dj : ∀ a, S a → T a → False) (er : EnvR K Z H ρ σ S) (e : ρ.getD j none = some (.node true (.ins n fs) xs)) (hl : fs.length = xs.length) (rv : Rep K Z H d v T) :
    ∃ (p C dx : Addr) (ys : List V), σ[j]? = some (some (.ref p)) ∧ reg K n = some C ∧ H p = some (.ins C dx (fs.zip ys)) ∧ fs.length = ys.length ∧ ∃ S', (∀ a, S' a → S a ∨ T a) ∧ S p ∧ EnvR K Z (upd H p (.ins C dx (putF f v (fs.zip ys)))) (ρ.set j (some (.node true (.ins n (putN f fs)) (putX f d fs xs)))) σ S' := by
  obtain ⟨u, U1, U2, hv, u1, u2, uj, ru, eu⟩ := er.take (getD_some e)
  obtain ⟨p, ys, U', rfl, ⟨C, dx, c1, c2, c3⟩, sa, na, sub, rl⟩ := ru
  obtain ⟨hj, ej⟩ := List.getElem?_eq_some_iff.mp hv
  have es : σ.set j (some (.ref p)) = σ := by rw [← ej, List.set_getElem_self]
  have hl' : j < ρ.length := by rw [er.length]; exact hj
  have keep : ∀ {B : Fp}, (∀ a, B a → a = p → False) → ∀ a o, B a → H a = some o → upd H p (.ins C dx (putF f v (fs.zip ys))) a = some o := fun {B} n a o b q => by rw [upd_ne fun z => n a b z]; exact q
  have nT : ∀ a, T a → a = p → False := fun a x y => dj p (u1 p sa) (by rw [← y]; exact x)
  have rv' : Rep K Z (upd H p (.ins C dx (putF f v (fs.zip ys)))) d v T := rv.move (Same.refl Z) (keep nT) fun _ x => x
  have pl : RepL K Z (upd H p (.ins C dx (putF f v (fs.zip ys)))) (putX f d fs xs) (putX f v fs ys) (fun a => U' a ∨ T a) := RepL.putX rv' hl (rl.move (Same.refl Z) (keep fun a x y => na (by rw [← y]; exact x)) fun _ x => x) fun a x y => dj a (u1 a (sub a x)) y
  have rn : Rep K Z (upd H p (.ins C dx (putF f v (fs.zip ys)))) (.node true (.ins n (putN f fs)) (putX f d fs xs)) (.ref p) (fun a => a = p ∨ (U' a ∨ T a)) := ⟨p, putX f v fs ys, _, rfl, ⟨C, dx, c1, put_len c2, by rw [put_zip c2]; exact upd_same⟩, .inl rfl, fun x => x.elim na fun z => nT p z rfl, fun _ x => .inr x, pl⟩
  have q := EnvR.put (S := fun a => (a = p ∨ (U' a ∨ T a)) ∨ U2 a) (eu.move (Same.refl Z) (keep fun a x y => uj p sa (by rw [← y]; exact x)) fun _ x => x) hl' rn (fun _ x => .inl x) (fun _ x => .inr x) fun a x y => by
    rcases x with x | x | x
    · exact uj p sa (by rw [← x]; exact y)
    · exact uj a (sub a x) y
    · exact dj a (u2 a y) x
  rw [es] at q
  refine ⟨p, C, dx, ys, hv, c1, c3, c2, _, fun a x => ?_, u1 p sa, q⟩
  rcases x with (x | x | x) | x
  · exact .inl (by rw [x]; exact u1 p sa)
  · exact .inl (u1 a (sub a x))
  · exact .inr x
  · exact .inl (u2 a x)
theorem tS_setA {j : Nat} {n f : Str} {C : Addr} {fe : M EV} {D : Ends} (hC : reg K n = some C) (hc : Cls K C) (hn : NoAttr K C f) (h : tS K mg W A (setA j n f fe) D σ H) : sFld K (tVar j) (tE K mg W fe) f D σ H := by
  obtain ⟨Z, ρ, S, w, er, o⟩ := h
  refine ⟨Z, ρ, S, w, er, ?_⟩
  simp only [setA, bnd] at o
  cases e1 : fe ρ with
  | stuck => rw [e1] at o; exact o
  | exc x ρ1 => rw [e1] at o; exact o σ (Keep.refl σ)
  | ok ev ρ1 =>
    simp only [e1] at o
    intro v Z1 H1 S1 Sa st1 dj1 er1 r1
    cases e2 : use1 ev ρ1 with
    | stuck => rw [e2] at o; exact o.elim
    | exc x ρ2 => exact absurd e2 use1_noexc
    | ok d ρ2 =>
      simp only [e2] at o
      have w1 : Wd Z1 H1 (fun a => (S1 a ∨ Sa a) ∨ Fp0 a) := st1.wd.less fun a x => x.elim id False.elim
      obtain ⟨Z2, S2, st2, m2, er2, r2⟩ := use1_ok w1 dj1 (fun _ _ x => x) er1 r1 e2
      have st2' : Step Z1 H1 (fun a => S1 a ∨ Sa a) Z2 H1 (fun a => S2 a ∨ Sa a) := ⟨st2.wd.less fun a x => .inl x, st2.zz, fun a o n e _ => e, fun a x => .inl (x.elim (fun y => .inl (m2 a y)) .inr), fun a o e => (st2.znew a o e).elim .inl fun y => .inr (y.elim (fun z => z.elim .inl False.elim) .inr)⟩
      split at o
      · rename_i n' fs xs h1
        split at o
        · rename_i hz
          obtain ⟨rfl, hz2, hz3⟩ := hz
          obtain ⟨p, C', dx, ys, hv2, c1, hp, hl, S', m', sp, er'⟩ := set_fld (f := f) st2'.wd (fun a x y => dj1 a (m2 a x) y) er2 h1 hz3 r2
          rw [hC] at c1
          cases c1
          refine ⟨.ref p, hv2, p, C, dx, _, rfl, hp, hc, hn, ?_, ?_⟩
          · rw [List.length_zip]; omega
          · exact o σ .non _ _ S' Fp0 (Keep.refl σ) ((((st1.trans st2').trans (Step.write st2'.wd (.inl sp))).less m').less fun a x => x.elim id False.elim) (fun _ _ x => x) er' trivial
        · exact o.elim
      · exact o.elim
theorem S_setA {j : Nat} {n f x : Str} {C : Addr} {fe : M EV} {e : Expr} {p2 pos' pos : Pos} (hC : reg X.K n = some C) (hc : Cls X.K C) (hn : NoAttr X.K C f) (he : PE X e (tE X.K X.mg W fe)) (hj : X.N[j]? = some x := by rfl) (hv : Vis X.env.scope x := by first | exact Or.inl rfl | exact Or.inr (Or.inl rfl) | exact Or.inr (Or.inr rfl)) (hd : (x == ("__debug__" : Str)) = false := by decide) (hcd : (x == ("__classdict__" : Str)) = false := by decide)
    (hs : swapsWith e (some (.Attribute (.Name x p2) f pos')) pos.line X.env = pure false := by rfl) : PS X (.Assign [.Attribute (.Name x p2) f pos'] e pos) (tS X.K X.mg W A (setA j n f fe)) :=
  PS.of (ps_fld (pe_var hj hv hd hcd) he hs) fun D σ H q => tS_setA hC hc hn q
end
end Pm
set_option maxHeartbeats 2000000
namespace Pm
open PySem PySem.Spec PyProof.Rows L2
/-- C(..): a new instance, told by its __init__ -/
def makeC (n : Str) (g : FSem) (fs : M (List EV)) : M EV := bnd fs fun es => fun ρ => match takes ρ es with
  | none => .stuck
  | some (ds, ρ1) => match g (.node true (.ins n []) [] :: ds) with
    | .stuck => .stuck
    | .ret .non (d :: as) => .ok (.val d) (puts es ds as ρ1)
    | .ret _ _ => .stuck
    | .exc x (_ :: as) => .exc x (puts es ds as ρ1)
    | .exc _ [] => .stuck
section
variable {K : PySem.W.Frag} {mg : Str → Option Value} {W : WX} {Z H : Hp} {S : Fp} {σ : Sl} {X : Cx} {A : Nat → Bool}
/-- a method as its class knows it -/
structure MDef (P : Program) (w : World) (K : PySem.W.Frag) (mg : Str → Option Value) (base : Heap) (k : Nat) (C : Addr) (m : Str) (f : Addr) (fd : FuncData) (ps : List Str) (g : FSem) : Prop where
  ok : FnG P w K mg base k f fd ps g
  me : Meth K C m f
  bd : Binds K fd ps []
/-- a class's __init__ -/
structure IDef (P : Program) (w : World) (K : PySem.W.Frag) (mg : Str → Option Value) (base : Heap) (k : Nat) (n : Str) (C f : Addr) (fd : FuncData) (ps : List Str) (g : FSem) : Prop where
  ok : FnG P w K mg base k f fd ps g
  mkd : Mk K C f
  mg : mg n = some (.ref C)
  bd : Binds K fd ps []
theorem E_meth {k j : Nat} {n m : Str} {C f : Addr} {fd : FuncData} {ps : List Str} {g : FSem} {o e : Expr} {es : List Expr} {fo : M EV} {fs : M (List EV)} {apos pos : Pos} {pl : Sem Bool} (hC : reg X.K n = some C) (c : Cls X.K C) (F : MDef X.prog X.w X.K X.mg X.base k C m f fd ps g) (ft : Fit X W j) (ho : PE X o (tE X.K X.mg W fo)) (ha : PA X (e :: es) (tA X.K X.mg W fs)) (hk : k ≤ j := by first | decide | omega)
    (hst : starEach (e :: es) X.env = (false, eval e X.env) :: starEach es X.env := by rfl) (hpl : (backTo pos (starEach es X.env)).any (·.1) = false := by rfl)
    (ht : eval (.Call (.Attribute o m apos) (e :: es) [] pos) X.env = (do
      let ov ← eval o X.env
      standAt apos.atName
      let (f, first) ← holding [ov] (getMethod ov m pl)
      callWith pos f first (backTo pos (starEach (e :: es) X.env)) (backToKw pos (keywordEach [] X.env))) := by rfl) :
    PE X (.Call (.Attribute o m apos) (e :: es) [] pos) (tE X.K X.mg W (callF g (aCons (chk n m fo) fs))) := by
  refine ⟨fun pins s σ H Q I h => ?_⟩
  have q0 := tE_chk (tA_cons (tE_call h))
  refine PySem.W.methodCall_KW (pl := pl) (thn (ho.run pins s σ H _ I q0) fun u s1 ⟨x, H1, I1, rx, ⟨a, C', dx, kvs, ex, hr, ea, l⟩, q⟩ => ?_) ht
  subst ex
  rw [hC] at hr
  cases hr
  obtain rfl : u = Value.ref a := rx
  refine getmeth_ok I1 ea c F.me l ?_
  refine PySem.W.callWith_K (first := [.ref a]) (h₀ := X.base) I.ok.mod.kin F.me.kp (thn (ha.run pos pins s1 σ H1 _ I1 q) fun us s2 ⟨vs, H2, I2, r, q2⟩ => ⟨I2.kIn, ?_⟩) hst hpl
  refine wpAny_call (codeAny_mono (run_G (us := .ref a :: us) (ws := .ref a :: us) (vs := V.ref a :: vs) (kws := []) F.ok ft.gd (ft.room.mono hk) ft.tk (fun hl => by have b := F.bd s2 (.ref a :: us) I2.kIn (by rw [List.append_nil]; exact hl); rw [List.append_nil] at b; exact b) I2 (.cons rfl r) q2) fun r s' hq => ?_)
  cases r with
  | error e => exact hq
  | ok fl =>
    cases fl with
    | ret u => exact hq
    | next => exact hq.elim
    | brk => exact hq.elim
    | cont => exact hq.elim
theorem E_meth0 {k j : Nat} {n m : Str} {C f : Addr} {fd : FuncData} {ps : List Str} {g : FSem} {o : Expr} {fo : M EV} {apos pos : Pos} {pl : Sem Bool} (hC : reg X.K n = some C) (c : Cls X.K C) (F : MDef X.prog X.w X.K X.mg X.base k C m f fd ps g) (ft : Fit X W j) (ho : PE X o (tE X.K X.mg W fo)) (hk : k ≤ j := by first | decide | omega)
    (ht : eval (.Call (.Attribute o m apos) [] [] pos) X.env = (do
      let ov ← eval o X.env
      standAt apos.atName
      let (f, first) ← holding [ov] (getMethod ov m pl)
      callWith pos f first (backTo pos (starEach [] X.env)) (backToKw pos (keywordEach [] X.env))) := by rfl) :
    PE X (.Call (.Attribute o m apos) [] [] pos) (tE X.K X.mg W (callF g (aCons (chk n m fo) aNil))) := by
  refine ⟨fun pins s σ H Q I h => ?_⟩
  have q0 := tE_chk (tA_cons (tE_call h))
  refine PySem.W.methodCall_KW (pl := pl) (thn (ho.run pins s σ H _ I q0) fun u s1 ⟨x, H1, I1, rx, ⟨a, C', dx, kvs, ex, hr, ea, l⟩, q⟩ => ?_) ht
  subst ex
  rw [hC] at hr
  cases hr
  obtain rfl : u = Value.ref a := rx
  have q' := tA_nil q
  refine getmeth_ok I1 ea c F.me l ?_
  refine PySem.W.callWith_K0 (first := [.ref a]) I1.kIn F.me.kp (wpAny_call (codeAny_mono (run_G (us := [.ref a]) (ws := [.ref a]) (vs := [V.ref a]) (kws := []) F.ok ft.gd (ft.room.mono hk) ft.tk (fun hl => by have b := F.bd s1 [.ref a] I1.kIn (by rw [List.append_nil]; exact hl); rw [List.append_nil] at b; exact b) I1 (.cons rfl .nil) q') fun r s' hq => ?_))
  cases r with
  | error e => exact hq
  | ok fl =>
    cases fl with
    | ret u => exact hq
    | next => exact hq.elim
    | brk => exact hq.elim
    | cont => exact hq.elim
theorem tE_make {n : Str} {C : Addr} {g : FSem} {fs : M (List EV)} {Q : VK} (hC : reg K n = some C) (h : tE K mg W (makeC n g fs) σ H Q) : tA K mg W fs σ H fun vs H1 => ∀ x dx, H1 x = none → H1 dx = none → dx ≠ x →
    spG K mg g (.ref x :: vs) (upd (upd H1 dx (.own x)) x (.ins C dx [])) (fun v H2 => v = .non ∧ Q (.ref x) H2) (fun cls d H => W cls d σ H) := by
  obtain ⟨Z, ρ, S, w, er, o⟩ := h
  refine ⟨Z, ρ, S, w, er, ?_⟩
  simp only [makeC, bnd] at o
  cases e1 : fs ρ with
  | stuck => rw [e1] at o; exact o
  | exc x ρ1 => rw [e1] at o; exact o
  | ok es ρ1 =>
    simp only [e1] at o
    intro vs Z1 H1 S1 Sa st1 dj1 er1 r1 x dx hx hdx ne
    cases e2 : takes ρ1 es with
    | none => simp only [e2] at o; exact o.elim
    | some p =>
      obtain ⟨ds, ρ2⟩ := p
      simp only [e2] at o
      obtain ⟨S2, T, m1, m2, tj, er2, rl⟩ := takes_ok er1 r1 dj1 e2
      have w2 : Wd Z1 H1 (fun a => T a ∨ S2 a) := st1.wd.less fun a x => x.elim (m2 a) fun y => .inl (m1 a y)
      have st1' : Step Z H S Z1 H1 (fun a => T a ∨ S2 a) := st1.less fun a x => x.elim (m2 a) fun y => .inl (m1 a y)
      have hx2 : upd H1 dx (.own x) x = none := by rw [upd_ne (Ne.symm ne)]; exact hx
      have sA := (Step.alloc (o := .own x) w2 hdx).less (S2 := fun a => T a ∨ S2 a) fun a q => .inl q
      have sB := (Step.alloc (o := .ins C dx []) sA.wd hx2)
      have stN : Step Z1 H1 (fun a => T a ∨ S2 a) Z1 (upd (upd H1 dx (.own x)) x (.ins C dx [])) (fun a => (a = x ∨ T a) ∨ S2 a) := (sA.trans sB).less fun a q => q.elim (fun q => q.elim .inr fun y => .inl (.inl y)) fun y => .inl (.inr y)
      have nT : ∀ a, T a → a ≠ x := fun a q e => w2.dom a (.inl q) (by rw [e]; exact hx)
      have nS : ∀ a, S2 a → a ≠ x := fun a q e => w2.dom a (.inr q) (by rw [e]; exact hx)
      have kp : ∀ a o, H1 a = some o → upd (upd H1 dx (.own x)) x (.ins C dx []) a = some o := fun a o e => by
        rw [upd_ne (ne_of_none e hx), upd_ne (ne_of_none e hdx)]; exact e
      have rl2 : RepL K Z1 (upd (upd H1 dx (.own x)) x (.ins C dx [])) (.node true (.ins n []) [] :: ds) (.ref x :: vs) (fun a => a = x ∨ T a) :=
        ⟨fun a => a = x, T, fun _ q => .inl q, fun _ q => .inr q, fun a q y => nT a y q, ⟨x, [], Fp0, rfl, ⟨C, dx, hC, rfl, upd_same⟩, rfl, fun q => q, fun _ q => q.elim, trivial⟩, rl.move (Same.refl Z1) (fun a o _ e => kp a o e) fun _ q => q⟩
      have w3 : Wd Z1 (upd (upd H1 dx (.own x)) x (.ins C dx [])) (fun a => (a = x ∨ T a) ∨ S2 a) := stN.wd
      have dj3 : ∀ a, (a = x ∨ T a) → S2 a → False := fun a q y => q.elim (fun e => nS a y e) fun t => tj a y t
      have er2' : EnvR K Z1 (upd (upd H1 dx (.own x)) x (.ins C dx [])) ρ2 σ S2 := er2.move (Same.refl Z1) (fun a o _ e => kp a o e) fun _ q => q
      have st1N := st1'.trans stN
      refine ⟨Z1, fun a => a = x ∨ T a, .node true (.ins n []) [] :: ds, er2.marks, w3.less fun a x => .inl x, rl2, ?_⟩
      cases e3 : g (.node true (.ins n []) [] :: ds) with
      | stuck => simp only [e3] at o; exact o
      | ret d as =>
        cases d with
        | non =>
          cases as with
          | nil => simp only [e3] at o; exact o.elim
          | cons d0 as =>
            simp only [e3] at o
            intro v Z3 H3 S3 Sd st3 dj4 ra rd
            cases (show v = .non from rd)
            refine ⟨rfl, ?_⟩
            obtain ⟨T1, T2, t1, t2, tj2, ra1, ra2⟩ := ra
            have st3' := st3.frame w3 dj3
            have ap := st3.apart (fun a q => w3.live a (.inr q)) dj3
            have er3 : EnvR K Z3 H3 ρ2 σ S2 := st3.stayE dj3 er2'
            have er4 := puts_ok (ds := ds) er3 r1 ra2 fun a q y => ap a (.inl (t2 a y)) q
            exact o (.ref x) Z3 H3 (fun a => S2 a ∨ T2 a) T1 ((st1N.trans st3').less fun a q => q.elim (fun q => q.elim .inr fun z => .inl (.inl (t2 a z))) fun y => .inl (.inl (t1 a y))) (fun a q y => q.elim (fun z => ap a (.inl (t1 a y)) z) fun z => tj2 a y z) er4 ra1
        | _ => simp only [e3] at o; exact o.elim
      | exc xx as =>
        cases as with
        | nil => simp only [e3] at o; exact o.elim
        | cons d0 as =>
          simp only [e3] at o
          intro cls dd Z3 H3 S3 st3 ra xr
          obtain ⟨T1, T2, t1, t2, tj2, ra1, ra2⟩ := ra
          have st3' := st3.frame w3 dj3
          have ap := st3.apart (fun a q => w3.live a (.inr q)) dj3
          have er3 : EnvR K Z3 H3 ρ2 σ S2 := st3.stayE dj3 er2'
          have er4 := puts_ok (ds := ds) er3 r1 ra2 fun a q y => ap a (t2 a y) q
          exact o cls dd Z3 H3 (fun a => S2 a ∨ T2 a) ((st1N.trans st3').less fun a q => q.elim .inr fun z => .inl (t2 a z)) er4 xr
theorem run_makeG {k : Nat} {n : Str} {C f : Addr} {fd : FuncData} {ps : List Str} {g : FSem} {pins : List (Addr × Obj)} {s : Shared} {Q : VK} {us : List Value} {vs : List V} (F : IDef X.prog X.w X.K X.mg X.base k n C f fd ps g) (hgd : X.A.guards = some []) (hr : Room (k + 1) X.A)
    (tk : Takes X W) (I : Inv X pins σ H s) (r : Vals vs us) (h : ∀ x dx, H x = none → H dx = none → dx ≠ x → spG X.K X.mg g (.ref x :: vs) (upd (upd H dx (.own x)) x (.ins C dx [])) (fun v H2 => v = .non ∧ Q (.ref x) H2) (fun cls d H => W cls d σ H)) :
    wpAny (model X.prog X.w) X.A (call (.ref C) us) (EP X pins σ Q) X.xe s := by
  have hq := h (s.heap.objs.size + 1) s.heap.objs.size (I.hok.fresh (Nat.le_succ _)) (I.hok.fresh (Nat.le_refl _)) (Nat.ne_of_lt (Nat.lt_succ_self _))
  have I2 := Inv.made (C := C) I
  have r2 : Vals (V.ref (s.heap.objs.size + 1) :: vs) (Value.ref (s.heap.objs.size + 1) :: us) := .cons rfl r
  have hl : (Value.ref (s.heap.objs.size + 1) :: us).length = ps.length := by rw [← r2.length]; exact spG_len F.ok.len hq
  refine wpAny_call (make_map (f := f) I.kIn F.mkd.makes F.mkd.init (beq_iff_eq.mp F.mkd.fn) (codeAny_mono (F.ok.run _ X.stack _ _ ⟨Value.ref (s.heap.objs.size + 1) :: us, []⟩ (Value.ref (s.heap.objs.size + 1) :: us) _ _ _ (by first | exact hgd | (simpa [Around.under] using hgd)) (hr.make C us [])
    (I2.env0.make C us []) (by have b := F.bd _ (Value.ref (s.heap.objs.size + 1) :: us) I2.kIn (by rw [List.append_nil]; exact hl); rw [List.append_nil] at b; exact b) r2 hq) fun r s' hq' => ?_))
  cases r with
  | error e => exact passAt tk σ pins _ _ e s' I2 hq'
  | ok fl =>
    cases fl with
    | ret u =>
      obtain ⟨v, H', I3, rv, ev, q3⟩ := I2.after hq'
      subst ev
      exact ⟨rv, ⟨V.ref (s.heap.objs.size + 1), H', I3, rfl, q3⟩⟩
    | next => exact False.elim hq'
    | brk => exact False.elim hq'
    | cont => exact False.elim hq'
theorem E_make {k j : Nat} {n : Str} {C f : Addr} {fd : FuncData} {ps : List Str} {g : FSem} {e : Expr} {es : List Expr} {fs : M (List EV)} {p pos : Pos} (hC : reg X.K n = some C) (F : IDef X.prog X.w X.K X.mg X.base k n C f fd ps g) (ft : Fit X W j) (ha : PA X (e :: es) (tA X.K X.mg W fs)) (hk : k + 1 ≤ j := by first | decide | omega) (hg : Gl X n := by rfl)
    (hdb : (n == ("__debug__" : Str)) = false := by decide) (he : starEach (e :: es) X.env = (false, eval e X.env) :: starEach es X.env := by rfl) (hpl : (backTo pos (starEach es X.env)).any (·.1) = false := by rfl) :
    PE X (.Call (.Name n p) (e :: es) [] pos) (tE X.K X.mg W (makeC n g fs)) := by
  refine ⟨fun pins s σ H Q I h => ?_⟩
  refine wpAny_Call_Name_kw (ld_glob I hg F.mg ?_ hdb)
  refine PySem.W.callWith_K (h₀ := X.base) I.ok.mod.kin F.mkd.kp (thn (ha.run pos pins s σ H _ I (tE_make hC h)) fun us s1 ⟨vs, H1, I1, r, q⟩ => ⟨I1.kIn, ?_⟩) he hpl
  exact run_makeG F ft.gd (ft.room.mono hk) ft.tk I1 r q
theorem E_make0 {k j : Nat} {n : Str} {C f : Addr} {fd : FuncData} {ps : List Str} {g : FSem} {p pos : Pos} (hC : reg X.K n = some C) (F : IDef X.prog X.w X.K X.mg X.base k n C f fd ps g) (ft : Fit X W j) (hk : k + 1 ≤ j := by first | decide | omega) (hg : Gl X n := by rfl)
    (hdb : (n == ("__debug__" : Str)) = false := by decide) :
    PE X (.Call (.Name n p) [] [] pos) (tE X.K X.mg W (makeC n g aNil)) := by
  refine ⟨fun pins s σ H Q I h => ?_⟩
  refine wpAny_Call_Name_kw (ld_glob I hg F.mg ?_ hdb)
  have q := tA_nil (tE_make hC h)
  exact PySem.W.callWith_K0 I.kIn F.mkd.kp (run_makeG (us := []) (vs := []) F ft.gd (ft.room.mono hk) ft.tk I .nil q)
theorem tE_fldE {n f : Str} {C : Addr} {fe : M EV} {Q : VK} (hC : reg K n = some C) (h : tE K mg W (fldE n f fe) σ H Q) : tE K mg W fe σ H fun x H1 => ∃ a dx fs v, x = .ref a ∧ H1 a = some (.ins C dx fs) ∧ fs.lookup f = some v ∧ Q v H1 := by
  obtain ⟨Z, ρ, S, w, er, o⟩ := h
  refine ⟨Z, ρ, S, w, er, ?_⟩
  simp only [fldE, bnd] at o
  cases e1 : fe ρ with
  | stuck => rw [e1] at o; exact o.elim
  | exc x ρ1 => rw [e1] at o; exact o
  | ok ev ρ1 =>
    simp only [e1] at o
    intro v Z' H' S' Sd st dj er' evr
    cases hp : peek1 ρ1 ev with
    | none => simp only [hp] at o; exact o.elim
    | some d =>
      simp only [hp] at o
      split at o
      · rename_i d b n' fs xs hd
        cases hd
        by_cases hn' : n' = n
        · rw [if_pos hn'] at o
          subst hn'
          split at o
          · rename_i dat hdat
            by_cases hpl : dat.plain = true
            · rw [if_pos hpl] at o
              obtain ⟨S0, rd⟩ := peek_rep er' evr hp
              obtain ⟨a, C', dx, ys, S1, rfl, h1, h2, h3, rl⟩ := ins_at st.wd.same rd
              rw [hC] at h1
              cases h1
              obtain ⟨y, S2, ly, ry⟩ := look_rep rl hdat
              refine ⟨a, dx, fs.zip ys, y, rfl, h3, ly, ?_⟩
              exact o y Z' H' S' Fp0 (st.less fun a q => q.elim .inl fun z => z.elim) (fun _ _ z => z.elim) er' (Rep.plain ry hpl)
            · rw [if_neg hpl] at o
              exact o.elim
          · exact o.elim
        · rw [if_neg hn'] at o
          exact o.elim
      · exact o.elim
def augA (j : Nat) (n f : Str) (g : List D → Option D) (fe : M EV) : M Fl := setA j n f (bin g (fldE n f (loc j)) fe)
theorem tS_setC {j : Nat} {n f : Str} {C : Addr} {fe : M EV} {D : Ends} (hC : reg K n = some C) (h : tS K mg W A (setA j n f fe) D σ H) : tE K mg W fe σ H fun y H1 => tVar j σ H1 fun x H2 => ∃ a dx fs, x = .ref a ∧ H2 a = some (.ins C dx fs) ∧ fs.length < 1000 ∧ D.nx σ (upd H2 a (.ins C dx (putF f y fs))) := by
  obtain ⟨Z, ρ, S, w, er, o⟩ := h
  refine ⟨Z, ρ, S, w, er, ?_⟩
  simp only [setA, bnd] at o
  cases e1 : fe ρ with
  | stuck => rw [e1] at o; exact o
  | exc x ρ1 => rw [e1] at o; exact o σ (Keep.refl σ)
  | ok ev ρ1 =>
    simp only [e1] at o
    intro v Z1 H1 S1 Sa st1 dj1 er1 r1
    cases e2 : use1 ev ρ1 with
    | stuck => rw [e2] at o; exact o.elim
    | exc x ρ2 => exact absurd e2 use1_noexc
    | ok d ρ2 =>
      simp only [e2] at o
      have w1 : Wd Z1 H1 (fun a => (S1 a ∨ Sa a) ∨ Fp0 a) := st1.wd.less fun a x => x.elim id False.elim
      obtain ⟨Z2, S2, st2, m2, er2, r2⟩ := use1_ok w1 dj1 (fun _ _ x => x) er1 r1 e2
      have st2' : Step Z1 H1 (fun a => S1 a ∨ Sa a) Z2 H1 (fun a => S2 a ∨ Sa a) := ⟨st2.wd.less fun a x => .inl x, st2.zz, fun a o n e _ => e, fun a x => .inl (x.elim (fun y => .inl (m2 a y)) .inr), fun a o e => (st2.znew a o e).elim .inl fun y => .inr (y.elim (fun z => z.elim .inl False.elim) .inr)⟩
      split at o
      · rename_i n' fs xs h1
        split at o
        · rename_i hz
          obtain ⟨rfl, hz2, hz3⟩ := hz
          obtain ⟨p, C', dx, ys, hv2, c1, hp, hl, S', m', sp, er'⟩ := set_fld (f := f) st2'.wd (fun a x y => dj1 a (m2 a x) y) er2 h1 hz3 r2
          rw [hC] at c1
          cases c1
          refine ⟨.ref p, hv2, p, dx, _, rfl, hp, ?_, ?_⟩
          · rw [List.length_zip]; omega
          · exact o σ .non _ _ S' Fp0 (Keep.refl σ) ((((st1.trans st2').trans (Step.write st2'.wd (.inl sp))).less m').less fun a x => x.elim id False.elim) (fun _ _ x => x) er' trivial
        · exact o.elim
      · exact o.elim
theorem S_augA {j : Nat} {n f x : Str} {C : Addr} {op : Operator} {g : List D → Option D} {fe : M EV} {e : Expr} {p2 pos' pos : Pos} (ho : Opd X (inplaceOp op) g) (hC : reg X.K n = some C) (hc : Cls X.K C) (hn : NoAttr X.K C f) (he : PE X e (tE X.K X.mg W fe)) (hj : X.N[j]? = some x := by rfl) (hv : Vis X.env.scope x := by first | exact Or.inl rfl | exact Or.inr (Or.inl rfl) | exact Or.inr (Or.inr rfl)) (hd : (x == ("__debug__" : Str)) = false := by decide) (hcd : (x == ("__classdict__" : Str)) = false := by decide) :
    PS X (.AugAssign (.Attribute (.Name x p2) f pos') op e pos) (tS X.K X.mg W A (augA j n f g fe)) := by
  obtain ⟨r, h1, h2⟩ := ho
  refine PS.of (ps_fldaug (rd := r) (pe_var hj hv hd hcd) he (fun pins s σ H x y u v Q I rx ry q => h1 pins s σ H x y u v Q I rx ry q)) fun D σ H q => ?_
  have q1 := tE_fldE hC (two_of (r := r) (tE_app h2 (tS_setC hC q)))
  obtain ⟨v0, hv0, a, dx, fs, v, rfl, ea, l, q2⟩ := tE_loc q1
  refine ⟨.ref a, hv0, a, C, dx, fs, v, rfl, ea, hc, hn, l, ?_⟩
  refine tE_mono (fun y H2 q3 => ?_) q2
  have e : (fun (z : V) (H3 : Hp) => ∃ dx' fs', H3 a = some (.ins C dx' fs') ∧ fs'.length < 1000 ∧ D.nx σ (upd H3 a (.ins C dx' (putF f z fs')))) =
      fun (y : V) (H1 : Hp) => tVar j σ H1 fun x H2 => ∃ a dx fs, x = .ref a ∧ H2 a = some (.ins C dx fs) ∧ fs.length < 1000 ∧ D.nx σ (upd H2 a (.ins C dx (putF f y fs))) := by
    funext z H3
    apply propext
    constructor
    · rintro ⟨dx', fs', h1, h2, h3⟩
      exact ⟨.ref a, hv0, a, dx', fs', rfl, h1, h2, h3⟩
    · rintro ⟨x, hx, a', dx', fs', ex, h1, h2, h3⟩
      rw [hv0] at hx
      cases hx
      cases ex
      exact ⟨dx', fs', h1, h2, h3⟩
  rw [e]
  exact q3
end
end Pm
namespace Sc
open PySem PySem.Spec PyProof.Rows L2 Pm
open Pg (sg)
noncomputable def b_Scanner____init__ : M Fl := (seq (Pm.ite (notT (tst (app opIsi (aCons (loc 1) (aCons (con (.op (.ty "str"))) aNil))))) (raise1 "InvalidText" "position" (con .non)) sNx)
    (seq (setA 0 "Scanner" "source" (loc 1))
    (setA 0 "Scanner" "spot" (con (.int 0)))))
noncomputable def x_Scanner____init__ : FSem := mkF 2 2 [] b_Scanner____init__
noncomputable def b_Scanner__is_at_end : M Fl := (rtn (Pm.bin opEq (fldE "Scanner" "spot" (loc 0)) (app opLen (aCons (fldE "Scanner" "source" (loc 0)) aNil))))
noncomputable def x_Scanner__is_at_end : FSem := mkF 1 1 [] b_Scanner__is_at_end
noncomputable def b_Scanner__sees : M Fl := (rtn (andE (notE (callF x_Scanner__is_at_end (aCons (chk "Scanner" "is_at_end" (loc 0)) aNil))) (Pm.bin opIn (idx (aCons (fldE "Scanner" "source" (loc 0)) (aCons (fldE "Scanner" "spot" (loc 0)) aNil))) (loc 1))))
noncomputable def x_Scanner__sees : FSem := mkF 2 2 [] b_Scanner__sees
noncomputable def b_Scanner__take : M Fl := (seq (Pm.ite (notT (tst (callF x_Scanner__sees (aCons (chk "Scanner" "sees" (loc 0)) (aCons (loc 1) aNil))))) (raise1 "InvalidText" "position" (fldE "Scanner" "spot" (loc 0))) sNx)
    (seq (augA 0 "Scanner" "spot" gAdd (con (.int 1)))
    (rtn (idx (aCons (fldE "Scanner" "source" (loc 0)) (aCons (Pm.bin (on2I iSub) (fldE "Scanner" "spot" (loc 0)) (con (.int 1))) aNil))))))
noncomputable def x_Scanner__take : FSem := mkF 2 2 [] b_Scanner__take
def scD (src : List Nat) (k : Nat) : D := .node true (.ins "Scanner" ["source", "spot"]) [.str (T src), .int (k : Int)]
theorem scD_pl (src : List Nat) (k : Nat) : (scD src k).plain = false := rfl
theorem e_ss : (("spot" : Str) == ("source" : Str)) = false := by decide +kernel
section
variable {src : List Nat} {k : Nat} {t : List (Option D)}
theorem fld_src {i : Nat} {ρ : Pm.Env} (h : ρ.getD i none = some (scD src k)) : fldE "Scanner" "source" (loc i) ρ = .ok (.val (.str (T src))) ρ := by
  unfold fldE
  have hl : loc i ρ = .ok (.ref i) ρ := by unfold loc; rw [h]
  simp only [bnd, hl, peek1, h, scD]
  rfl
theorem fld_spot {i : Nat} {ρ : Pm.Env} (h : ρ.getD i none = some (scD src k)) : fldE "Scanner" "spot" (loc i) ρ = .ok (.val (.int (k : Int))) ρ := by
  unfold fldE
  have hl : loc i ρ = .ok (.ref i) ρ := by unfold loc; rw [h]
  have e : ((["source", "spot"] : List Str).zip [D.str (T src), .int (k : Int)]).lookup ("spot" : Str) = some (D.int (k : Int)) := by
    simp [List.lookup, e_ss]
  simp only [bnd, hl, peek1, h, scD]
  rw [if_pos trivial, e]
  rfl
theorem chk_ok {i : Nat} {m : Str} {ρ : Pm.Env} (hm : m ∉ (["source", "spot"] : List Str)) (h : ρ.getD i none = some (scD src k)) : chk "Scanner" m (loc i) ρ = .ok (.ref i) ρ := by
  unfold chk
  have hl : loc i ρ = .ok (.ref i) ρ := by unfold loc; rw [h]
  simp only [bnd, hl, peek1, h, scD]
  rw [if_pos ⟨trivial, hm⟩]
end
theorem m1 : ("is_at_end" : Str) ∉ (["source", "spot"] : List Str) := by decide +kernel
theorem m2 : ("sees" : Str) ∉ (["source", "spot"] : List Str) := by decide +kernel
theorem m3 : ("take" : Str) ∉ (["source", "spot"] : List Str) := by decide +kernel
def ivX (k : Nat) : XD := ⟨"InvalidText", [("position", .int (k : Int))]⟩
section
variable {src : List Nat} {k : Nat}
theorem atend_ok (hl : src.length ≤ 1000000) : x_Scanner__is_at_end [scD src k] = .ret (.bl (decide (k = src.length))) [scD src k] := by
  have hw : Wf x_Scanner__is_at_end [scD src k] fun d as => d = .bl (decide (k = src.length)) ∧ as = [scD src k] := by
    have f1 := fld_src (src := src) (k := k) (i := 0) (ρ := [some (scD src k)]) rfl
    have f2 := fld_spot (src := src) (k := k) (i := 0) (ρ := [some (scD src k)]) rfl
    have l : opLen [.str (T src)] = some (.int (src.length : Int)) := by
      show (if (T src).length ≤ 1000000 then some (D.int ((T src).length : Int)) else none) = _
      rw [T_len, if_pos hl]
    have q : opEq [.int (k : Int), .int (src.length : Int)] = some (.bl (decide (k = src.length))) := by
      rw [eq_int']
      congr 2
      by_cases h : k = src.length
      · rw [decide_eq_true h, h]; simp
      · rw [decide_eq_false h]; exact beq_eq_false_iff_ne.mpr fun e => h (Int.ofNat_inj.mp e)
    have pl := scD_pl src k
    unfold x_Scanner__is_at_end
    refine wf_mkF ?_
    unfold b_Scanner__is_at_end
    show Wp _ [some (scD src k)] _
    generalize scD src k = SD at *
    generalize T src = TS at *
    generalize decide (k = src.length) = B at *
    generalize (k : Int) = K0 at *
    generalize (src.length : Int) = L0 at *
    generalize fldE "Scanner" "source" (loc 0) = F1 at *
    generalize fldE "Scanner" "spot" (loc 0) = F2 at *
    generalize opLen = OL at *
    generalize opEq = OE at *
    refine wp_end fun K k1 k2 k3 k4 => ?_
    simp [Wp, rtn, bnd, Pm.bin, app, aCons, aNil, Pm.ret, peek1, peeks, use1, f1, f2, l, q]
    exact k2 _ _ ⟨[SD], by simp [argsBack, reFrz, pl], rfl, rfl⟩
  obtain ⟨d, as, e, rfl, rfl⟩ := hw
  exact e
def seen (src : List Nat) (k : Nat) (cs : List Nat) : Bool := match src[k]? with
  | some c => decide (c ∈ cs)
  | none => false
theorem char_at {c : Nat} (hl : src.length ≤ 1000000) (hc : src[k]? = some c) (ρ : Pm.Env) : itemOf (.val (.str (T src))) (k : Int) ρ = .ok (.val (.str (T [c]))) ρ := by
  have hlt := (List.getElem?_eq_some_iff.mp hc).1
  have ha : atI (T src).cps.toList (k : Int) = some c := by
    unfold atI ixN
    have e : (T src).cps.toList = src := rfl
    rw [e, if_pos (by omega), if_pos (by omega)]
    show src[((k : Int)).toNat]? = _
    rw [Int.toNat_natCast]
    exact hc
  show (if (T src).length ≤ 1000000 then _ else _) = _
  rw [T_len, if_pos hl]
  show (match atI (T src).cps.toList (k : Int) with | some c => _ | none => _) = _
  rw [ha]
  rfl
theorem in_cs (c : Nat) (cs : List Nat) : opIn [.str (T [c]), .str (T cs)] = some (.bl (decide (c ∈ cs))) := by
  have h : opIn [.str (T [c]), .str (T cs)] = some (.bl (subS (T [c]) (T cs))) := rfl
  rw [h, sub_T]
theorem sees_ok {cs : List Nat} (hl : src.length ≤ 1000000) (hk : k ≤ src.length) : x_Scanner__sees [scD src k, .str (T cs)] = .ret (.bl (seen src k cs)) [scD src k, .str (T cs)] := by
  have hw : Wf x_Scanner__sees [scD src k, .str (T cs)] fun d as => d = .bl (seen src k cs) ∧ as = [scD src k, .str (T cs)] := by
    have f1 := fun ρ => fld_src (src := src) (k := k) (i := 0) (ρ := some (scD src k) :: ρ) rfl
    have f2 := fun ρ => fld_spot (src := src) (k := k) (i := 0) (ρ := some (scD src k) :: ρ) rfl
    have f3 := fun ρ => chk_ok (src := src) (k := k) (i := 0) (ρ := some (scD src k) :: ρ) m1 rfl
    have ae := atend_ok (src := src) (k := k) hl
    have pl := scD_pl src k
    have fin : Pm.Fin [] [scD src k, .str (T cs)] (fun d as => d = .bl (seen src k cs) ∧ as = [scD src k, .str (T cs)]) (.rt (.bl (seen src k cs))) [some (scD src k), some (.str (T cs))] := ⟨[scD src k, .str (T cs)], by simp [argsBack, reFrz, pl, D.plain], rfl, rfl⟩
    unfold x_Scanner__sees
    refine wf_mkF ?_
    unfold b_Scanner__sees
    show Wp _ [some (scD src k), some (.str (T cs))] _
    cases hc : src[k]? with
    | none =>
      have hkl : k = src.length := by
        have := List.getElem?_eq_none_iff.mp hc
        omega
      have es : seen src k cs = false := by unfold seen; rw [hc]
      rw [decide_eq_true hkl] at ae
      rw [es] at fin ⊢
      generalize scD src k = SD at *
      generalize T cs = CS at *
      generalize T src = TS at *
      generalize fldE "Scanner" "source" (loc 0) = F1 at *
      generalize fldE "Scanner" "spot" (loc 0) = F2 at *
      generalize chk "Scanner" "is_at_end" (loc 0) = F3 at *
      generalize x_Scanner__is_at_end = XA at *
      refine wp_end fun K k1 k2 k3 k4 => ?_
      simp [Wp, rtn, bnd, Pm.bin, app, aCons, aNil, idx, loc, Pm.ret, peek1, peeks, use1, tst, andE, notE, callF, takes, puts, f3, ae, pl]
      exact k2 _ _ fin
    | some c =>
      have hlt := (List.getElem?_eq_some_iff.mp hc).1
      have es : seen src k cs = decide (c ∈ cs) := by unfold seen; rw [hc]
      have ci := char_at hl hc
      have ic := in_cs c cs
      rw [decide_eq_false (by omega)] at ae
      rw [es] at fin ⊢
      generalize scD src k = SD at *
      generalize decide (c ∈ cs) = B at *
      generalize T cs = CS at *
      generalize T src = TS at *
      generalize T [c] = TC at *
      generalize (k : Int) = K0 at *
      generalize fldE "Scanner" "source" (loc 0) = F1 at *
      generalize fldE "Scanner" "spot" (loc 0) = F2 at *
      generalize chk "Scanner" "is_at_end" (loc 0) = F3 at *
      generalize x_Scanner__is_at_end = XA at *
      generalize opIn = OI at *
      refine wp_end fun K k1 k2 k3 k4 => ?_
      simp [Wp, mkF, reFrz, seq, Pm.ite, rtn, mov, asg, drp, sNx, bnd, Pm.bin, Pm.un, app, aCons, aNil, idx, loc, con, Pm.ret, peek1, peeks, on2I, iAdd, iSub, iGt, iGe, iLt, iLe, iDiv, iMod, use1, useL, gN, tst, andT, orT, notT, andE, orE, notE, ifE, ixN, D.frz, D.plain, plainL, argsBack, opLen, opAbs, opInt1, opNeg, disp, cap, callF, takes, puts, selA, sel, aApp, par, gT, gsC, gs0, appF, opDivmod, frzL, plainL, f1, f2, f3, ae, pl, ci, ic]
      exact k2 _ _ fin
  obtain ⟨d, as, e, rfl, rfl⟩ := hw
  exact e
theorem aug_ok {t : List (Option D)} : augA 0 "Scanner" "spot" gAdd (con (.int 1)) (some (scD src k) :: t) = .ok .nx (some (scD src (k + 1)) :: t) := by
  have f2 := fld_spot (src := src) (k := k) (i := 0) (ρ := some (scD src k) :: t) rfl
  have ga : gAdd [.int (k : Int), .int 1] = some (.int ((k + 1 : Nat) : Int)) := rfl
  have hb : Pm.bin gAdd (fldE "Scanner" "spot" (loc 0)) (con (.int 1)) (some (scD src k) :: t) = .ok (.val (.int ((k + 1 : Nat) : Int))) (some (scD src k) :: t) := by
    generalize scD src k = SD at *
    generalize fldE "Scanner" "spot" (loc 0) = F2 at *
    generalize ((k + 1 : Nat) : Int) = K1 at *
    generalize (k : Int) = K0 at *
    generalize gAdd = GA at *
    simp [bnd, Pm.bin, app, aCons, aNil, con, Pm.ret, peek1, peeks, f2, ga]
  unfold augA setA
  simp only [bnd, hb, use1, Pm.ret]
  have e0 : (some (scD src k) :: t).getD 0 none = some (.node true (.ins "Scanner" ["source", "spot"]) [.str (T src), .int (k : Int)]) := rfl
  simp only [e0]
  rw [if_pos ⟨trivial, by decide, rfl⟩]
  have e1 : putN ("spot" : Str) (["source", "spot"] : List Str) = (["source", "spot"] : List Str) := by
    have : ¬ (("source" : Str) = ("spot" : Str)) := by decide +kernel
    simp [putN, this]
  have e2 : putX ("spot" : Str) (D.int ((k + 1 : Nat) : Int)) (["source", "spot"] : List Str) [D.str (T src), .int (k : Int)] = [D.str (T src), .int ((k + 1 : Nat) : Int)] := by
    have : ¬ (("source" : Str) = ("spot" : Str)) := by decide +kernel
    simp [putX, this]
  rw [e1, e2]
  rfl
theorem take_ok {cs : List Nat} {c : Nat} (hl : src.length ≤ 1000000) (hc : src[k]? = some c) (hm : c ∈ cs) : x_Scanner__take [scD src k, .str (T cs)] = .ret (.str (T [c])) [scD src (k + 1), .str (T cs)] := by
  have hlt := (List.getElem?_eq_some_iff.mp hc).1
  have hw : Wf x_Scanner__take [scD src k, .str (T cs)] fun d as => d = .str (T [c]) ∧ as = [scD src (k + 1), .str (T cs)] := by
    have f1 := fun ρ => fld_src (src := src) (k := k + 1) (i := 0) (ρ := some (scD src (k + 1)) :: ρ) rfl
    have f2 := fun ρ => fld_spot (src := src) (k := k + 1) (i := 0) (ρ := some (scD src (k + 1)) :: ρ) rfl
    have f3 := fun ρ => chk_ok (src := src) (k := k) (i := 0) (ρ := some (scD src k) :: ρ) m2 rfl
    have se := sees_ok (k := k) (cs := cs) hl (by omega)
    have es : seen src k cs = true := by unfold seen; rw [hc]; exact decide_eq_true hm
    rw [es] at se
    have au := fun t => aug_ok (src := src) (k := k) (t := t)
    have ci := char_at hl hc
    have sb : iSub ((k + 1 : Nat) : Int) 1 = some (.int (k : Int)) := by
      show some (D.int (((k + 1 : Nat) : Int) - 1)) = _
      congr 2
      omega
    have pl := scD_pl src k
    have pl1 := scD_pl src (k + 1)
    have fin : Pm.Fin [] [scD src k, .str (T cs)] (fun d as => d = .str (T [c]) ∧ as = [scD src (k + 1), .str (T cs)]) (.rt (.str (T [c]))) [some (scD src (k + 1)), some (.str (T cs))] := ⟨[scD src (k + 1), .str (T cs)], by simp [argsBack, reFrz, pl, pl1, D.plain], rfl, rfl⟩
    unfold x_Scanner__take
    refine wf_mkF ?_
    unfold b_Scanner__take
    show Wp _ [some (scD src k), some (.str (T cs))] _
    generalize (fun (d : D) (as : List D) => d = .str (T [c]) ∧ as = [scD src (k + 1), .str (T cs)]) = QQ at *
    generalize ((k + 1 : Nat) : Int) = K1 at *
    generalize (k : Int) = K0 at *
    generalize scD src (k + 1) = SD1 at *
    generalize scD src k = SD at *
    generalize T cs = CS at *
    generalize T src = TS at *
    generalize T [c] = TC at *
    generalize fldE "Scanner" "source" (loc 0) = F1 at *
    generalize fldE "Scanner" "spot" (loc 0) = F2 at *
    generalize chk "Scanner" "sees" (loc 0) = F3 at *
    generalize augA 0 "Scanner" "spot" gAdd (con (.int 1)) = AU at *
    generalize x_Scanner__sees = XA at *
    generalize iSub = IS at *
    refine wp_seq fun K k1 k2 k3 k4 => ?_
    simp [Wp, mkF, reFrz, seq, Pm.ite, rtn, mov, asg, drp, sNx, bnd, Pm.bin, Pm.un, app, aCons, aNil, idx, loc, con, Pm.ret, peek1, peeks, itemOf, on2I, iAdd, iSub, iGt, iGe, iLt, iLe, iDiv, iMod, use1, useL, gI, gN, tst, andT, orT, notT, andE, orE, notE, ifE, ixN, D.frz, D.plain, plainL, argsBack, opLen, opAbs, opInt1, opNeg, disp, cap, callF, takes, puts, selA, sel, aApp, par, gT, gsC, gs0, appF, opDivmod, frzL, plainL, f3, se, pl]
    refine k1 _ ?_
    clear k1 k2 k3 k4 K
    refine wp_seq fun K k1 k2 k3 k4 => ?_
    refine Wp.of (au _) (k1 _ ?_)
    clear k1 k2 k3 k4 K
    refine wp_end fun K k1 k2 k3 k4 => ?_
    simp [Wp, mkF, reFrz, seq, Pm.ite, rtn, mov, asg, drp, sNx, bnd, Pm.bin, Pm.un, app, aCons, aNil, idx, loc, con, Pm.ret, peek1, peeks, on2I, iAdd, iSub, iGt, iGe, iLt, iLe, iDiv, iMod, use1, useL, gI, gN, tst, andT, orT, notT, andE, orE, notE, ifE, ixN, D.frz, D.plain, plainL, argsBack, opLen, opAbs, opInt1, opNeg, disp, cap, callF, takes, puts, selA, sel, aApp, par, gT, gsC, gs0, appF, opDivmod, frzL, plainL, f1, f2, sb, ci]
    exact k2 _ _ fin
  obtain ⟨d, as, e, rfl, rfl⟩ := hw
  exact e
theorem take_exc {cs : List Nat} (hl : src.length ≤ 1000000) (hk : k ≤ src.length) (hs : seen src k cs = false) : x_Scanner__take [scD src k, .str (T cs)] = .exc (ivX k) [scD src k, .str (T cs)] := by
  have f2 := fun ρ => fld_spot (src := src) (k := k) (i := 0) (ρ := some (scD src k) :: ρ) rfl
  have f3 := fun ρ => chk_ok (src := src) (k := k) (i := 0) (ρ := some (scD src k) :: ρ) m2 rfl
  have se := sees_ok (k := k) (cs := cs) hl hk
  rw [hs] at se
  have pl := scD_pl src k
  unfold x_Scanner__take
  refine xf_mkF rfl (by decide) ?_
  unfold b_Scanner__take ivX
  show Xp _ [some (scD src k), some (.str (T cs))] _ _
  generalize (k : Int) = K0 at *
  generalize scD src k = SD at *
  generalize T cs = CS at *
  generalize fldE "Scanner" "spot" (loc 0) = F2 at *
  generalize chk "Scanner" "sees" (loc 0) = F3 at *
  generalize x_Scanner__sees = XA at *
  refine xp_left (Xp.of (ρ' := [some SD, some (.str CS)]) ?_ (by simp [argsBack, reFrz, pl, D.plain]))
  simp [Pm.ite, bnd, aCons, aNil, loc, Pm.ret, peek1, tst, notT, D.plain, callF, takes, puts, raise1, f2, f3, se, pl]
theorem lit {s : String} {l : List Nat} (h : s.toList.map Char.toNat = l) : ((s : String) : Str) = T l := by rw [show ((s : String) : Str) = Str.ofString s from rfl, T_lit, h]
theorem litb : ((" " : String) : Str) = T [32] := lit rfl
abbrev DG : List Nat := [48, 49, 50, 51, 52, 53, 54, 55, 56, 57]
def isDg (c : Nat) : Bool := decide (c ∈ DG)
/-- the digits from a place on -/
def run (src : List Nat) (k : Nat) : List Nat := (src.drop k).takeWhile isDg
end
end Sc
namespace Tr
open Ex
theorem inner_range {P : Ps} {T : LT} {n : Nat} (hR : Run T 0 n) (hz : Rz P T none) : (List.range n).filter (fun k => (P.getD k none).isSome) = inner T := by
  cases T with
  | leaf =>
    have := hR.zero
    subst this
    rfl
  | node l k r =>
    obtain ⟨m1, m2, e1, e0, e2, e3⟩ := lab_split hR
    have key : ∀ x, x < n → (P.getD x none).isSome = decide (x ≠ k) := fun x hx => by
      have h1 := anc_none hR hz hx
      have h2 := anc_nil hR (Nat.zero_le x) (by omega)
      rw [List.getD_eq_getElem?_getD, h1]
      simp only [Option.getD_some]
      by_cases e : x = k
      · subst e
        rw [h2.mpr rfl]
        simp
      · have h3 : anc (.node l k r) x ≠ [] := fun q => e (Option.some.inj (h2.mp q)).symm
        rw [decide_eq_true e]
        cases hc : anc (.node l k r) x with
        | nil => exact absurd hc h3
        | cons a b => rfl
    have hl : List.range n = (l.lab ++ k :: r.lab) := by
      rw [List.range_eq_range']
      exact hR.symm
    have h1 : ∀ L : List Nat, (∀ x ∈ L, x < n) → (∀ x ∈ L, x ≠ k) → L.filter (fun k => (P.getD k none).isSome) = L := fun L q1 q2 => List.filter_eq_self.mpr fun x hx => by
      rw [key x (q1 x hx)]
      exact decide_eq_true (q2 x hx)
    have hk : k < n := by omega
    have g1 : ∀ x ∈ l.lab, x < k := fun x hx => by rw [e1, List.mem_range'_1] at hx; omega
    have g2 : ∀ x ∈ r.lab, k < x ∧ x < n := fun x hx => by rw [e2, List.mem_range'_1] at hx; omega
    rw [hl, List.filter_append, List.filter_cons, key k hk, if_neg (by simp), h1 l.lab (fun x hx => by have := g1 x hx; omega) (fun x hx => by have := g1 x hx; omega), h1 r.lab (fun x hx => (g2 x hx).2) (fun x hx => by have := g2 x hx; omega)]
    rfl
def allB : Nat → Bool := fun _ => true
def wF (w : List Nat) : Nat → Nat := fun i => w.getD i 0
/-- the written form of a tree -/
def txt (w : List Nat) (T : LT) : List Nat := (mkE allB (wF w) T).text
def prt (w : List Nat) (T : LT) : List Nat := (wrapE (sR allB T) (mkE allB (wF w) T)).text
def lhs (T : LT) : List (Nat × Nat) := (inner T).map fun x => (loF T x, hiF T x)
theorem txt_wr {w : List Nat} {T : LT} {n : Nat} (hR : Run T 0 n) (hw : w.length = n) :
    (List.range' 0 (n + 1)).flatMap (fun i => opnd ((lhs T).filter fun p => p.1 == i).length ((lhs T).filter fun p => p.2 == i).length ++ (w.drop i).take 1) = txt w T := by
  have h := turns_wr w (oc allB (loF T) (inner T)) (oc allB (hiF T) (inner T)) n 0 (by omega)
  rw [← mk_text (s := allB) (w := fun i => w.getD i 0) hR] at h
  rw [show txt w T = _ from h.symm]
  have e1 : ∀ i, ((lhs T).filter fun p => p.1 == i).length = oc allB (loF T) (inner T) i := fun i => by
    unfold lhs oc
    rw [← List.countP_eq_length_filter, List.countP_map]
    exact List.countP_congr fun x _ => by simp [allB]
  have e2 : ∀ i, ((lhs T).filter fun p => p.2 == i).length = oc allB (hiF T) (inner T) i := fun i => by
    unfold lhs oc
    rw [← List.countP_eq_length_filter, List.countP_map]
    exact List.countP_congr fun x _ => by simp [allB]
  simp only [e1, e2]
theorem txt_leaf (w : List Nat) : txt w .leaf = [46] := rfl
theorem txt_node (w : List Nat) (l r : LT) (k : Nat) : txt w (.node l k r) = prt w l ++ wF w k :: prt w r := by
  unfold txt prt
  rw [mkE, join_text]
theorem prt_leaf (w : List Nat) : prt w .leaf = [46] := rfl
theorem prt_node (w : List Nat) (l r : LT) (k : Nat) : prt w (.node l k r) = 40 :: (txt w (.node l k r) ++ [41]) := by
  unfold prt
  rw [wrap_text, show sR allB (.node l k r) = true from rfl, if_pos rfl]
  rfl
theorem prt_len (w : List Nat) : ∀ T : LT, (prt w T).length ≤ 4 * T.lab.length + 1
  | .leaf => Nat.le_refl _
  | .node l k r => by
    have h1 := prt_len w l
    have h2 := prt_len w r
    rw [prt_node, txt_node]
    simp only [List.length_cons, List.length_append, List.length_nil, LT.lab]
    omega
theorem txt_len (w : List Nat) (T : LT) : (txt w T).length ≤ 4 * T.lab.length + 1 := by
  cases T with
  | leaf => exact Nat.le_refl _
  | node l k r =>
    have h1 := prt_len w l
    have h2 := prt_len w r
    rw [txt_node]
    simp only [List.length_cons, List.length_append, LT.lab]
    omega
theorem prt_ch (w : List Nat) : ∀ T : LT, ∀ c ∈ prt w T, c = 40 ∨ c = 41 ∨ c = 46 ∨ ∃ x ∈ T.lab, c = wF w x
  | .leaf, c, hc => by
    rw [prt_leaf] at hc
    exact .inr (.inr (.inl (List.mem_singleton.mp hc)))
  | .node l k r, c, hc => by
    rw [prt_node, txt_node] at hc
    simp only [List.mem_cons, List.mem_append, List.not_mem_nil, or_false] at hc
    rcases hc with hc | (hc | hc | hc) | hc
    · exact .inl hc
    · rcases prt_ch w l c hc with h | h | h | ⟨x, hx, h⟩
      · exact .inl h
      · exact .inr (.inl h)
      · exact .inr (.inr (.inl h))
      · exact .inr (.inr (.inr ⟨x, by simp [LT.lab, hx], h⟩))
    · exact .inr (.inr (.inr ⟨k, by simp [LT.lab], hc⟩))
    · rcases prt_ch w r c hc with h | h | h | ⟨x, hx, h⟩
      · exact .inl h
      · exact .inr (.inl h)
      · exact .inr (.inr (.inl h))
      · exact .inr (.inr (.inr ⟨x, by simp [LT.lab, hx], h⟩))
    · exact .inr (.inl hc)
theorem txt_ch {w : List Nat} {T : LT} (hR : Run T 0 w.length) (hw : ∀ c ∈ w, 97 ≤ c ∧ c ≤ 122) : ∀ c ∈ txt w T, c < 128 := fun c hc => by
  have hc : c ∈ prt w T := by
    cases T with
    | leaf => exact hc
    | node l k r =>
      rw [prt_node]
      simp [hc]
  rcases prt_ch w T c hc with h | h | h | ⟨x, hx, h⟩
  · omega
  · omega
  · omega
  · rw [show T.lab = _ from hR, List.mem_range'_1] at hx
    have hx' : x < w.length := by omega
    unfold wF at h
    rw [List.getD_eq_getElem?_getD, List.getElem?_eq_getElem hx'] at h
    have := hw _ (List.getElem_mem hx')
    rw [h]
    show w[x] < 128
    omega
/-- the parents, in order -/
def PL : LT → Option Nat → Ps
  | .leaf, _ => []
  | .node l k r, p => PL l (some k) ++ p :: PL r (some k)
theorem PL_len : ∀ (T : LT) (p : Option Nat), (PL T p).length = T.lab.length
  | .leaf, p => rfl
  | .node l k r, p => by simp [PL, LT.lab, PL_len l, PL_len r]
theorem PL_get {P : Ps} : ∀ {T : LT} {a m : Nat} {p : Option Nat}, Run T a m → Rz P T p → ∀ i, i < m → (PL T p)[i]? = P[a + i]?
  | .leaf, a, m, p, h, _, i, hi => by have := h.zero; omega
  | .node l k r, a, m, p, h, ⟨z1, z2, z3⟩, i, hi => by
    obtain ⟨m1, m2, e1, rfl, e2, rfl⟩ := lab_split h
    have hl : (PL l (some (a + m1))).length = m1 := by rw [PL_len, e1, List.length_range']
    unfold PL
    by_cases h1 : i < m1
    · rw [List.getElem?_append_left (by omega)]
      exact PL_get (T := l) e1 z2 i h1
    · rw [List.getElem?_append_right (by omega), hl]
      by_cases h2 : i = m1
      · subst h2
        rw [Nat.sub_self]
        exact z1.symm
      · obtain ⟨j, rfl⟩ : ∃ j, i = m1 + 1 + j := ⟨i - m1 - 1, by omega⟩
        rw [show m1 + 1 + j - m1 = j + 1 by omega, List.getElem?_cons_succ, PL_get (T := r) e2 z3 j (by omega)]
        congr 1
        omega
theorem PL_eq {P : Ps} {T : LT} {n : Nat} (hR : Run T 0 n) (hz : Rz P T none) (hl : P.length = n) : PL T none = P := by
  have h1 : (PL T none).length = n := by rw [PL_len, show T.lab = _ from hR, List.length_range']
  apply List.ext_getElem?
  intro i
  by_cases hi : i < n
  · rw [PL_get hR hz i hi, Nat.zero_add]
  · rw [List.getElem?_eq_none (by omega), List.getElem?_eq_none (by omega)]
theorem PL_set {l r : LT} {k a m : Nat} {ab : Ps} {p q : Option Nat} (h : Run (.node l k r) a m) (ha : ab.length = a) : (ab ++ PL (.node l k r) p).set k q = ab ++ PL (.node l k r) q := by
  obtain ⟨m1, m2, e1, rfl, e2, rfl⟩ := lab_split h
  have hl : (PL l (some (a + m1))).length = m1 := by rw [PL_len, e1, List.length_range']
  unfold PL
  rw [List.set_append_right _ _ (by omega), ha, show a + m1 - a = m1 by omega, List.set_append_right _ _ (by omega), hl, Nat.sub_self]
  rfl
end Tr
namespace Pm
open PySem PySem.Spec PyProof.Rows L2
end Pm
set_option maxHeartbeats 1000000
namespace Gr
open PySem PySem.Spec PyProof.Rows L2 Pm
open Pg (rtD pD sg rt_frz rt_plain rts_plain)
open Tr (LT Run Rz txt lhs inner opnd)
open Sc (lit)
theorem prs_pl (l : List (Nat × Nat)) : plainL (l.map prD) = true := plainL_of fun x hx => by
  obtain ⟨p, _, rfl⟩ := List.mem_map.mp hx
  rfl
theorem src_ps {ρ : Pm.Env} {j : Nat} {b : Bool} {l : List (Nat × Nat)} (h : ρ.getD j none = some (psD b l)) : srcA (loc j) ρ = .ok (l.map prD) (ρ.set j (some (psD false l))) := by
  have fz : frzL (l.map prD) = l.map prD := frzL_of_plain _ (prs_pl l)
  unfold psD at h ⊢
  generalize l.map prD = L at *
  have h' : ρ[j]?.getD none = some (.node b .lst L) := by simpa using h
  simp [srcA, mkF, reFrz, seq, Pm.ite, rtn, mov, asg, drp, sNx, bnd, Pm.bin, Pm.un, app, aCons, aNil, idx, loc, con, Pm.ret, peek1, peeks, itemOf, on2I, iAdd, iSub, iGt, iGe, iLt, iLe, iDiv, iMod, use1, useL, gI, gN, tst, andT, orT, notT, andE, orE, notE, ifE, ixN, D.frz, D.plain, plainL, argsBack, opLen, opAbs, opInt1, opNeg, disp, cap, callF, takes, puts, selA, sel, aApp, par, gT, gsC, gs0, appF, opDivmod, frzL, plainL, h', fz]
theorem eq_nn (a b : Nat) : opEq [.int (a : Int), .int (b : Int)] = some (.bl (a == b)) := by
  show some (D.bl ((a : Int) == (b : Int))) = _
  congr 2
  exact Bool.eq_iff_iff.mpr (by rw [beq_iff_eq, beq_iff_eq]; omega)
section
variable {P : Tr.Ps} {w : List Nat}
/-- one operand with the letter behind it -/
def pce (l : List (Nat × Nat)) (w : List Nat) (i : Nat) : List Nat := opnd (l.filter fun p => p.1 == i).length (l.filter fun p => p.2 == i).length ++ (w.drop i).take 1
theorem pce_len (l : List (Nat × Nat)) (w : List Nat) (i : Nat) : (pce l w i).length ≤ 2 * l.length + 2 := by
  have h1 := List.length_filter_le (fun p : Nat × Nat => p.1 == i) l
  have h2 := List.length_filter_le (fun p : Nat × Nat => p.2 == i) l
  have h3 : ((w.drop i).take 1).length ≤ 1 := by rw [List.length_take]; omega
  unfold pce opnd
  simp only [List.length_append, List.length_replicate, List.length_singleton]
  omega
theorem pces_len (l : List (Nat × Nat)) (w : List Nat) : ∀ (a m : Nat), ((List.range' a m).flatMap (pce l w)).length ≤ m * (2 * l.length + 2)
  | a, 0 => by simp
  | a, m + 1 => by
    rw [List.range'_succ, List.flatMap_cons, List.length_append]
    have h1 := pce_len l w a
    have h2 := pces_len l w (a + 1) m
    rw [Nat.succ_mul]
    omega
theorem rep1 (c n : Nat) (h : n ≤ 1000) : hMulT [.str (T [c]), .int (n : Int)] = some (.str (T (List.replicate n c))) := by
  rw [mul_T (by omega) (by show 1 * n ≤ 1000000; omega)]
  congr 3
  rw [Pg.flat_rp]
end
end Gr
set_option maxHeartbeats 1000000
namespace Pm
open PySem PySem.Spec PyProof.Rows L2 RZ
open PySem.Sem (wp)
section
variable {prog : Program} {w : World} {A : Around} {E : Value → Shared → Prop} {s : Shared}
theorem zipN_next_item {z TI TO i1 i2 l1 l2 : Addr} {k1 k2 : Nat} {xs ys : Array Value} {x y a b : Value} {Q : Value → Shared → Prop} (D : ZipApart z TI TO i1 i2 l1 l2)
    (hz : IsZip s.heap z TI TO .none) (hTI : IsPair s.heap TI (.ref i1) (.ref i2)) (hTO : IsPair s.heap TO a b)
    (h1 : s.heap.IsListIter i1 l1 k1) (h2 : s.heap.IsTupleIter i2 l2 k2) (hl1 : s.heap.IsList l1 xs) (hl2 : s.heap.IsTuple l2 ys) (hx : xs[k1]? = some x) (hy : ys[k2]? = some y)
    (hQ : ∀ h', IsZip h' z TI TO (rawInt s.heap.objs.size) → IsPair h' TO x y → h'.IsListIter i1 l1 (k1 + 1) → h'.IsTupleIter i2 l2 (k2 + 1) → IsPair h' s.heap.objs.size x y → h'.objs.size = s.heap.objs.size + 1 →
      (∀ c o, c ≠ z → c ≠ TO → c ≠ i1 → c ≠ i2 → s.heap.get? c = some o → h'.get? c = some o) → Q (.ref s.heap.objs.size) { s with heap := h' }) :
    wpAny (model prog w) A (Builtin.«zip.__next__» ⟨[.ref z], []⟩) (fun fin s' => ∃ v, fin = .done (.ret v) ∧ Q v s') E s := by
  show wpAny _ _ (field (.ref z) 2 >>= _) _ _ _
  refine wpAny_bind (wpAny_field hz rfl (x := .bool false) rfl ?_)
  show wpAny _ _ (field (.ref z) 3 >>= _) _ _ _
  refine wpAny_bind (wpAny_field hz rfl (x := .ref TI) rfl ?_)
  refine wpAny_bind (wpAny_seqItems hTI rfl ?_)
  show wpAny _ _ (Builtin.SmallTypes.ownedTupleIsFree (.ref z) >>= _) _ _ _
  refine wpAny_bind ?_
  unfold Builtin.SmallTypes.ownedTupleIsFree
  refine wpAny_bind (wpAny_field hz rfl (x := .none) rfl (wpAny_pure ?_))
  simp only [if_true]
  refine wpAny_bind (wpAny_rule ?_)
  refine wpAny_bind (wpAny_field hz rfl (x := .ref TO) rfl ?_)
  refine wpAny_bind (wpAny_setField_rec hz (by simp) fun h₁ hz₁ hs₁ => ?_)
  replace hz₁ : IsZip h₁ z TI TO .ellipsis := hz₁
  refine wpAny_bind ?_
  simp only [List.zipIdx_cons, List.zipIdx_nil, List.forIn_cons, List.forIn_nil]

  refine wpAny_bind (wpAny_bind (wpAny_onRaise ?_))
  show wpAny _ _ (Builtin.SmallTypes.nextOf (.ref i1) >>= _) _ _ _
  refine wpAny_bind (wpAny_nextOf_list_item (h1.extBut hs₁.extBut D.i1z) (hl1.extBut hs₁.extBut D.l1z) hx fun h₂ h1₂ hs₂ => wpAny_pure ?_)
  have hTO₂ : IsPair h₂ TO a b := hs₂.extBut _ _ D.TOi1 (hs₁.extBut _ _ D.TOz hTO)
  refine wpAny_bind (wpAny_seqItems hTO₂ rfl ?_)
  refine wpAny_bind (wpAny_updateSeq_pair hTO₂ fun h₃ hTO₃ hs₃ => ?_)
  replace hTO₃ : IsPair h₃ TO x b := hTO₃
  refine wpAny_bind (wpAny_letGo (wpAny_pure ?_))

  refine wpAny_bind (wpAny_bind (wpAny_onRaise ?_))
  show wpAny _ _ (Builtin.SmallTypes.nextOf (.ref i2) >>= _) _ _ _
  refine wpAny_bind (nextOf_tuple_item (((h2.extBut hs₁.extBut D.i2z).extBut hs₂.extBut D.i12.symm).extBut hs₃.extBut D.TOi2.symm)
    (((hl2.extBut hs₁.extBut D.l2z).extBut hs₂.extBut D.l2i1).extBut hs₃.extBut D.l2TO) hy fun h₄ h2₄ hs₄ => wpAny_pure ?_)
  have hTO₄ : IsPair h₄ TO x b := hs₄.extBut _ _ D.TOi2 hTO₃
  refine wpAny_bind (wpAny_seqItems hTO₄ rfl ?_)
  refine wpAny_bind (wpAny_updateSeq_pair hTO₄ fun h₅ hTO₅ hs₅ => ?_)
  replace hTO₅ : IsPair h₅ TO x y := hTO₅
  refine wpAny_bind (wpAny_letGo (wpAny_pure (wpAny_pure ?_)))

  refine wpAny_bind (wpAny_seqItems hTO₅ rfl ?_)
  refine wpAny_bind (wpAny_newTuple ?_)
  have hsz : h₅.objs.size = s.heap.objs.size := by rw [hs₅.1, hs₄.1, hs₃.1, hs₂.1, hs₁.1]
  have hz₅ : IsZip h₅ z TI TO .ellipsis := hs₅.extBut _ _ D.TOz.symm (hs₄.extBut _ _ D.i2z.symm (hs₃.extBut _ _ D.TOz.symm (hs₂.extBut _ _ D.i1z.symm hz₁)))
  have hk₅ : ∀ c o, c ≠ z → c ≠ TO → c ≠ i1 → c ≠ i2 → s.heap.get? c = some o → h₅.get? c = some o := fun c o c1 c2 c3 c4 e =>
    hs₅.extBut _ _ c2 (hs₄.extBut _ _ c4 (hs₃.extBut _ _ c2 (hs₂.extBut _ _ c3 (hs₁.extBut _ _ c1 e))))
  have h1₅ : h₅.IsListIter i1 l1 (k1 + 1) := ((h1₂.extBut hs₃.extBut D.TOi1.symm).extBut hs₄.extBut D.i12).extBut hs₅.extBut D.TOi1.symm
  have h2₅ : h₅.IsTupleIter i2 l2 (k2 + 1) := h2₄.extBut hs₅.extBut D.TOi2.symm
  have hzlt : z < h₅.objs.size := Heap.lt_size hz₅
  have hTOlt : TO < h₅.objs.size := Heap.lt_size hTO₅
  have hi1lt : i1 < h₅.objs.size := by obtain ⟨_, e, _⟩ := h1₅; exact Heap.lt_size e
  have hi2lt : i2 < h₅.objs.size := by obtain ⟨_, e, _⟩ := h2₅; exact Heap.lt_size e
  show wpAny _ _ (Builtin.SmallTypes.ownedTupleHandOut (.ref z) (.ref h₅.objs.size) >>= _) _ _ _
  refine wpAny_bind ?_
  unfold Builtin.SmallTypes.ownedTupleHandOut
  have hz₆ : IsZip (h₅.push { cls := .type "tuple", data := .seq #[x, y] }) z TI TO .ellipsis := Heap.get?_push_of_some _ hz₅
  refine wpAny_bind (wpAny_setField_rec hz₆ (by simp) fun h₇ hz₇ hs₇ => ?_)
  replace hz₇ : IsZip h₇ z TI TO (rawInt h₅.objs.size) := hz₇
  refine wpAny_setField_rec hz₇ (by simp) fun h₈ hz₈ hs₈ => ?_
  replace hz₈ : IsZip h₈ z TI TO (rawInt h₅.objs.size) := hz₈
  have up : ∀ c o, c ≠ z → h₅.get? c = some o → h₈.get? c = some o := fun c o c1 e => hs₈.extBut _ _ c1 (hs₇.extBut _ _ c1 (Heap.get?_push_of_some _ e))
  have hT₈ : IsPair h₈ h₅.objs.size x y := hs₈.extBut _ _ (Nat.ne_of_gt hzlt) (hs₇.extBut _ _ (Nat.ne_of_gt hzlt) (Heap.get?_push_size _ rfl))
  have hz8 : h₈.objs.size = h₅.objs.size + 1 := by rw [hs₈.1, hs₇.1, Heap.size_push]
  rw [hsz] at hz₈ hT₈ hz8
  refine wpAny_pure ⟨_, rfl, ?_⟩
  show Q (.ref h₅.objs.size) _
  rw [hsz]
  exact hQ h₈ hz₈ (up _ _ D.TOz hTO₅) (h1₅.at fun o e => up _ o D.i1z e) (h2₅.at fun o e => up _ o D.i2z e) hT₈ hz8 fun c o c1 c2 c3 c4 e => up c o c1 (hk₅ c o c1 c2 c3 c4 e)
theorem zipN_next_end {z TI TO i1 i2 l1 l2 : Addr} {k1 k2 : Nat} {xs ys : Array Value} {a b : Value} {Q : PySem.Fin → Shared → Prop} (hh : A.handled = none) (D : ZipApart z TI TO i1 i2 l1 l2)
    (hz : IsZip s.heap z TI TO .none) (hTI : IsPair s.heap TI (.ref i1) (.ref i2)) (hTO : IsPair s.heap TO a b)
    (h1 : s.heap.IsListIter i1 l1 k1) (h2 : s.heap.IsTupleIter i2 l2 k2) (hl1 : s.heap.IsList l1 xs) (hl2 : s.heap.IsTuple l2 ys) (hend : xs[k1]? = none ∨ ys[k2]? = none)
    (hE : ∀ h' e, (∀ c o, c ≠ z → c ≠ TO → c ≠ i1 → c ≠ i2 → s.heap.get? c = some o → h'.get? c = some o) → (∃ o, h'.get? e = some o ∧ o.cls = .type "StopIteration") → E (.ref e) { s with heap := h' }) :
    wpAny (model prog w) A (Builtin.«zip.__next__» ⟨[.ref z], []⟩) Q E s := by
  show wpAny _ _ (field (.ref z) 2 >>= _) _ _ _
  refine wpAny_bind (wpAny_field hz rfl (x := .bool false) rfl ?_)
  show wpAny _ _ (field (.ref z) 3 >>= _) _ _ _
  refine wpAny_bind (wpAny_field hz rfl (x := .ref TI) rfl ?_)
  refine wpAny_bind (wpAny_seqItems hTI rfl ?_)
  show wpAny _ _ (Builtin.SmallTypes.ownedTupleIsFree (.ref z) >>= _) _ _ _
  refine wpAny_bind ?_
  unfold Builtin.SmallTypes.ownedTupleIsFree
  refine wpAny_bind (wpAny_field hz rfl (x := .none) rfl (wpAny_pure ?_))
  simp only [if_true]
  refine wpAny_bind (wpAny_rule ?_)
  refine wpAny_bind (wpAny_field hz rfl (x := .ref TO) rfl ?_)
  refine wpAny_bind (wpAny_setField_rec hz (by simp) fun h₁ hz₁ hs₁ => ?_)
  replace hz₁ : IsZip h₁ z TI TO .ellipsis := hz₁
  refine wpAny_bind ?_
  simp only [List.zipIdx_cons, List.zipIdx_nil, List.forIn_cons, List.forIn_nil]
  refine wpAny_bind (wpAny_bind (wpAny_onRaise ?_))
  show wpAny _ _ (Builtin.SmallTypes.nextOf (.ref i1) >>= _) _ _ _
  cases hx : xs[k1]? with
  | none =>
    refine wpAny_bind (wpAny_nextOf_list_end hh (h1.extBut hs₁.extBut D.i1z) (hl1.extBut hs₁.extBut D.l1z) hx fun h₂ e hs₂ he => ?_)
    obtain ⟨oe, hoe, hce⟩ := he
    have hz₂ : IsZip h₂ z TI TO .ellipsis := hs₂ _ _ D.i1z.symm hz₁
    have hez : e ≠ z := fun x => by subst x; rw [hz₂] at hoe; cases hoe; simp at hce
    refine wpAny_setField_rec hz₂ (by simp) fun h₃ _ hs₃ => hE h₃ e (fun c o c1 _ c3 _ x => hs₃.extBut _ _ c1 (hs₂ _ _ c3 (hs₁.extBut _ _ c1 x))) ⟨oe, hs₃.extBut _ _ hez hoe, hce⟩
  | some x =>
    have hy : ys[k2]? = none := by rcases hend with h | h; rw [hx] at h; cases h; exact h
    refine wpAny_bind (wpAny_nextOf_list_item (h1.extBut hs₁.extBut D.i1z) (hl1.extBut hs₁.extBut D.l1z) hx fun h₂ h1₂ hs₂ => wpAny_pure ?_)
    have hTO₂ : IsPair h₂ TO a b := hs₂.extBut _ _ D.TOi1 (hs₁.extBut _ _ D.TOz hTO)
    refine wpAny_bind (wpAny_seqItems hTO₂ rfl ?_)
    refine wpAny_bind (wpAny_updateSeq_pair hTO₂ fun h₃ hTO₃ hs₃ => ?_)
    refine wpAny_bind (wpAny_letGo (wpAny_pure ?_))
    refine wpAny_bind (wpAny_bind (wpAny_onRaise ?_))
    show wpAny _ _ (Builtin.SmallTypes.nextOf (.ref i2) >>= _) _ _ _
    refine wpAny_bind (nextOf_tuple_end hh (((h2.extBut hs₁.extBut D.i2z).extBut hs₂.extBut D.i12.symm).extBut hs₃.extBut D.TOi2.symm)
      (((hl2.extBut hs₁.extBut D.l2z).extBut hs₂.extBut D.l2i1).extBut hs₃.extBut D.l2TO) hy fun h₄ e hs₄ he => ?_)
    obtain ⟨oe, hoe, hce⟩ := he
    have hz₄ : IsZip h₄ z TI TO .ellipsis := hs₄ _ _ D.i2z.symm (hs₃.extBut _ _ D.TOz.symm (hs₂.extBut _ _ D.i1z.symm hz₁))
    have hez : e ≠ z := fun x => by subst x; rw [hz₄] at hoe; cases hoe; simp at hce
    refine wpAny_setField_rec hz₄ (by simp) fun h₅ _ hs₅ => hE h₅ e (fun c o c1 c2 c3 c4 x => hs₅.extBut _ _ c1 (hs₄ _ _ c4 (hs₃.extBut _ _ c2 (hs₂.extBut _ _ c3 (hs₁.extBut _ _ c1 x))))) ⟨oe, hs₅.extBut _ _ hez hoe, hce⟩
theorem pyNext_zipN_item {z TI TO i1 i2 l1 l2 : Addr} {k1 k2 : Nat} {xs ys : Array Value} {x y a b : Value} {Q : Option Value → Shared → Prop} (D : ZipApart z TI TO i1 i2 l1 l2)
    (hz : IsZip s.heap z TI TO .none) (hTI : IsPair s.heap TI (.ref i1) (.ref i2)) (hTO : IsPair s.heap TO a b)
    (h1 : s.heap.IsListIter i1 l1 k1) (h2 : s.heap.IsTupleIter i2 l2 k2) (hl1 : s.heap.IsList l1 xs) (hl2 : s.heap.IsTuple l2 ys) (hx : xs[k1]? = some x) (hy : ys[k2]? = some y)
    (hQ : ∀ h', IsZip h' z TI TO (rawInt s.heap.objs.size) → IsPair h' TO x y → h'.IsListIter i1 l1 (k1 + 1) → h'.IsTupleIter i2 l2 (k2 + 1) → IsPair h' s.heap.objs.size x y → h'.objs.size = s.heap.objs.size + 1 →
      (∀ c o, c ≠ z → c ≠ TO → c ≠ i1 → c ≠ i2 → s.heap.get? c = some o → h'.get? c = some o) → Q (some (.ref s.heap.objs.size)) { s with heap := h' }) :
    wpAny (model prog w) A (pyNext (.ref z)) Q E s := by
  have hT : s.TypeIs (.ref z) "zip" := ⟨_, hz, rfl⟩
  unfold pyNext
  exact wpAny_bind (wpAny_attempt (wpAny_callSpecial?_slot (name := Str.ofString "__next__") hT F.slot_zip_next
    (wpAny_call_entry F.slot_zip_next hT F.entry_zip_next
      (zipN_next_item D hz hTI hTO h1 h2 hl1 hl2 hx hy fun h' a1 a2 a3 a4 a5 a6 a7 => wpAny_pure (hQ h' a1 a2 a3 a4 a5 a6 a7)) (F.args_zip_next_1 _))))
theorem pyNext_zipN_end {z TI TO i1 i2 l1 l2 : Addr} {k1 k2 : Nat} {xs ys : Array Value} {a b : Value} {Q : Option Value → Shared → Prop} (hh : A.handled = none) (D : ZipApart z TI TO i1 i2 l1 l2)
    (hz : IsZip s.heap z TI TO .none) (hTI : IsPair s.heap TI (.ref i1) (.ref i2)) (hTO : IsPair s.heap TO a b)
    (h1 : s.heap.IsListIter i1 l1 k1) (h2 : s.heap.IsTupleIter i2 l2 k2) (hl1 : s.heap.IsList l1 xs) (hl2 : s.heap.IsTuple l2 ys) (hend : xs[k1]? = none ∨ ys[k2]? = none)
    (hQ : ∀ h', (∀ c o, c ≠ z → c ≠ TO → c ≠ i1 → c ≠ i2 → s.heap.get? c = some o → h'.get? c = some o) → Q none { s with heap := h' }) : wpAny (model prog w) A (pyNext (.ref z)) Q E s := by
  have hT : s.TypeIs (.ref z) "zip" := ⟨_, hz, rfl⟩
  unfold pyNext
  refine wpAny_bind (wpAny_attempt (wpAny_callSpecial?_slot (name := Str.ofString "__next__") hT F.slot_zip_next
    (wpAny_call_entry F.slot_zip_next hT F.entry_zip_next (zipN_next_end hh D hz hTI hTO h1 h2 hl1 hl2 hend fun h' e hk he => ?_) (F.args_zip_next_1 _))))
  obtain ⟨o, ho, hc⟩ := he
  refine wpAny_bind (wpAny_isInstance (T := "StopIteration") (b := true) ⟨o, ho, hc⟩ isSubtype_stop ?_)
  exact wpAny_pure (hQ _ hk)
end
abbrev zipNH1 (h : Heap) (l1 : Addr) : Heap := h.push { cls := .type "list_iterator", data := .fields #[.ref l1, .int 0 0] }
abbrev zipNH2 (h : Heap) (l1 l2 : Addr) : Heap := (zipNH1 h l1).push { cls := .type "tuple_iterator", data := .fields #[.ref l2, .int 0 0] }
abbrev zipNH3 (h : Heap) (l1 l2 : Addr) : Heap := (zipNH2 h l1 l2).push { cls := .type "tuple", data := .seq #[.ref h.objs.size, .ref (zipNH1 h l1).objs.size] }
abbrev zipNH4 (h : Heap) (l1 l2 : Addr) : Heap := (zipNH3 h l1 l2).push { cls := .type "tuple", data := .seq #[.none, .none] }
abbrev zipNH5 (h : Heap) (l1 l2 : Addr) : Heap := (zipNH4 h l1 l2).push { cls := .type "zip", data := .fields #[.none, .bool false, .bool false, .ref (zipNH2 h l1 l2).objs.size, .ref (zipNH3 h l1 l2).objs.size] }
theorem meets_zipN_new (l1 l2 : Addr) (xs ys : Array Value) :
    Meets (Builtin.«zip.__new__» ⟨[.type "zip", .ref l1, .ref l2], []⟩) (fun _ R s => s.heap.IsList l1 xs ∧ s.heap.IsTuple l2 ys ∧
      R (.ok (.ret (.ref (zipNH4 s.heap l1 l2).objs.size))) { s with heap := zipNH5 s.heap l1 l2 }) :=
  .of_wp fun prog w A R s h => by
    obtain ⟨hp, g, d, tk, os⟩ := s; obtain ⟨hl1, hl2, h⟩ := h
    have hsub := sub_zip
    have hL1 : Heap.IsList (Shared.heap ⟨hp, g, d, tk, os⟩) l1 xs := hl1
    have hL2 : Heap.IsTuple (Shared.heap ⟨hp.push { cls := .type "list_iterator", data := .fields #[.ref l1, .int 0 0] }, g, d, tk, os⟩) l2 ys := Heap.IsTuple.push hl2 _
    wp_walk using wpAny_pyIter_list hL1, wpAny_pyIter_tuple hL2
    exact ⟨_, rfl, h⟩
section
variable {prog : Program} {w : World} {A : Around} {E : Value → Shared → Prop} {s : Shared}
theorem call_zipN {l1 l2 : Addr} {xs ys : Array Value} {Q : Value → Shared → Prop} (hl1 : s.heap.IsList l1 xs) (hl2 : s.heap.IsTuple l2 ys)
    (h : ∀ h', IsZip h' (s.heap.objs.size + 4) (s.heap.objs.size + 2) (s.heap.objs.size + 3) .none → IsPair h' (s.heap.objs.size + 2) (.ref s.heap.objs.size) (.ref (s.heap.objs.size + 1)) →
      IsPair h' (s.heap.objs.size + 3) .none .none → h'.IsListIter s.heap.objs.size l1 0 → h'.IsTupleIter (s.heap.objs.size + 1) l2 0 → h'.objs.size = s.heap.objs.size + 5 →
      (∀ c o, s.heap.get? c = some o → h'.get? c = some o) → Q (.ref (s.heap.objs.size + 4)) { s with heap := h' }) :
    wpAny (model prog w) A (call (.type "zip") [.ref l1, .ref l2]) Q E s := by
  refine callType_new F.called_zip (by decide) (F.typeCall_zip_2 _ _) (F.newCall_zip_2 _ _) (fun obj => F.args_object_init_3 obj _ _) F.entry_zip_new
    (meets_zipN_new l1 l2 xs ys) ⟨hl1, hl2, ?_⟩
  have z1 : (zipNH1 s.heap l1).objs.size = s.heap.objs.size + 1 := Heap.size_push ..
  have z2 : (zipNH2 s.heap l1 l2).objs.size = s.heap.objs.size + 2 := by rw [Heap.size_push, z1]
  have z3 : (zipNH3 s.heap l1 l2).objs.size = s.heap.objs.size + 3 := by rw [Heap.size_push, z2]
  have z4 : (zipNH4 s.heap l1 l2).objs.size = s.heap.objs.size + 4 := by rw [Heap.size_push, z3]
  have z5 : (zipNH5 s.heap l1 l2).objs.size = s.heap.objs.size + 5 := by rw [Heap.size_push, z4]
  have g5 : (zipNH5 s.heap l1 l2).get? (zipNH4 s.heap l1 l2).objs.size = some _ := Heap.get?_push_size _ rfl
  have g4 : (zipNH5 s.heap l1 l2).get? (zipNH3 s.heap l1 l2).objs.size = some _ := Heap.get?_push_of_some _ (Heap.get?_push_size _ rfl)
  have g3 : (zipNH5 s.heap l1 l2).get? (zipNH2 s.heap l1 l2).objs.size = some _ := Heap.get?_push_of_some _ (Heap.get?_push_of_some _ (Heap.get?_push_size _ rfl))
  have g2 : (zipNH5 s.heap l1 l2).get? (zipNH1 s.heap l1).objs.size = some _ := Heap.get?_push_of_some _ (Heap.get?_push_of_some _ (Heap.get?_push_of_some _ (Heap.get?_push_size _ rfl)))
  have g1 : (zipNH5 s.heap l1 l2).get? s.heap.objs.size = some _ := Heap.get?_push_of_some _ (Heap.get?_push_of_some _ (Heap.get?_push_of_some _ (Heap.get?_push_of_some _ (Heap.get?_push_size _ rfl))))
  show _ ∧ _
  rw [z2, z3, z4] at g5
  rw [z1, z2] at g3
  rw [z3] at g4
  rw [z1] at g2
  rw [z4]
  exact ⟨⟨_, g5, rfl⟩, h _ g5 g3 g4 ⟨_, g1, rfl, rfl⟩ ⟨_, g2, rfl, rfl⟩ z5 fun c o x =>
    Heap.get?_push_of_some _ (Heap.get?_push_of_some _ (Heap.get?_push_of_some _ (Heap.get?_push_of_some _ (Heap.get?_push_of_some _ x))))⟩
end
/-- the tuple at a and the list at b as they stand at each turn, the items in new pairs -/
def ItzN (K : PySem.W.Frag) (a b : Addr) : It :=
  ⟨fun i H => ∃ (xs ys : List V) (x y : V), SqL K H a xs ∧ SqT K H b ys ∧ xs[i]? = some x ∧ ys[i]? = some y,
    fun i H v H' => ∃ T x y, v = .ref T ∧ H T = none ∧ H' = upd H T (.tup [x, y]) ∧ (∀ xs, SqL K H a xs → xs[i]? = some x) ∧ ∀ ys, SqT K H b ys → ys[i]? = some y,
    fun i H => ∃ xs ys : List V, SqL K H a xs ∧ SqT K H b ys ∧ (xs.length ≤ i ∨ ys.length ≤ i)⟩
theorem turn_zipN {P : Program} {w : World} {K : PySem.W.Frag} {elts : List Expr} {kk : Nat} {tpos : Pos} {a b z TI TO i1 i2 : Addr} (D : ZipApart z TI TO i1 i2 a b) :
    Turn P w K (.Tuple elts kk tpos) (ItzN K a b) [z, TI, TO, i1, i2] z (fun i h => IsZip h z TI TO .none ∧ IsPair h TI (.ref i1) (.ref i2) ∧ (∃ x y, IsPair h TO x y) ∧ h.IsListIter i1 a i ∧ h.IsTupleIter i2 b i) where
  mem := by simp
  obj := fun i h st c hc => by
    obtain ⟨hz, hTI, ⟨x, y, hTO⟩, ⟨o1, e1, _, d1⟩, ⟨o2, e2, _, d2⟩⟩ := st
    have e' : c = z ∨ c = TI ∨ c = TO ∨ c = i1 ∨ c = i2 := by simpa using hc
    rcases e' with q | q | q | q | q
    · rw [q]; exact ⟨_, hz, fun v q => nomatch q⟩
    · rw [q]; exact ⟨_, hTI, fun v q => nomatch q⟩
    · rw [q]; exact ⟨_, hTO, fun v q => nomatch q⟩
    · rw [q]; exact ⟨o1, e1, fun v q => by rw [d1] at q; cases q⟩
    · rw [q]; exact ⟨o2, e2, fun v q => by rw [d2] at q; cases q⟩
  keep := fun i h h' st k => by
    obtain ⟨hz, hTI, ⟨x, y, hTO⟩, h1, h2⟩ := st
    exact ⟨k z (by simp) _ hz, k TI (by simp) _ hTI, ⟨x, y, k TO (by simp) _ hTO⟩, h1.at fun o q => k i1 (by simp) o q, h2.at fun o q => k i2 (by simp) o q⟩
  item := by
    intro X hP hw hK hc i pins s σ H E I hf st hg
    subst hP hw hK
    obtain ⟨hz, hTI, ⟨x0, y0, hTO⟩, h1, h2⟩ := st
    obtain ⟨xs, ys, x, y, hqx, hqy, hx, hy⟩ := hg
    obtain ⟨its, rv, p, _⟩ := I.list hqx
    obtain ⟨its2, rv2, p2, _⟩ := I.tuple hqy
    obtain ⟨u, hu, ru⟩ := rv.get hx
    obtain ⟨u2, hu2, ru2⟩ := rv2.get hy
    have hzl : z < s.heap.objs.size := Heap.lt_size hz
    refine pyNext_zipN_item D hz hTI hTO h1 h2 p.isList p2 (x := u) (y := u2) (by simpa using hu) (by simpa using hu2) fun h' z' TO' h1' h2' hT hsz hk => ?_
    refine ⟨_, rfl, wpAny_letOwnedTupleGo_zip (s := { s with heap := h' }) z' fun h'' z'' sb => ?_⟩
    have hT2 : h''.get? s.heap.objs.size = some { cls := .type "tuple", data := .seq #[u, u2] } := (sb.2 _ (Nat.ne_of_gt hzl)).trans hT
    have new : ObjOk X.prog X.w (upd H s.heap.objs.size (.tup [x, y])) h'' s.heap.objs.size (.tup [x, y]) :=
      ⟨by show 2 ≤ sizeLine; decide, [u, u2], .cons ru (.cons ru2 .nil), ⟨_, hT2, rfl, _, rfl⟩⟩
    have I1 : Inv X pins σ (upd H s.heap.objs.size (.tup [x, y])) { s with heap := h'' } :=
      I.turnedNew (t' := s.toks) (ch := [z, TI, TO, i1, i2]) (fun c o hb q => (sb.2 c (fun q' => hb (by simp [q']))).trans (hk c o (fun q' => hb (by simp [q'])) (fun q' => hb (by simp [q'])) (fun q' => hb (by simp [q'])) (fun q' => hb (by simp [q'])) q)) hf (Nat.le_refl _) new
    refine ⟨.ref s.heap.objs.size, _, I1, rfl, ⟨_, x, y, rfl, I.hok.fresh (Nat.le_refl _), rfl, fun l hl => by rw [I.list_inj hl hqx]; exact hx, fun l hl => by rw [I.tuple_inj hl hqy]; exact hy⟩, ⟨z'', ?_, ⟨u, u2, ?_⟩, ?_, ?_⟩, fun c hcm => ?_⟩
    · exact (sb.2 _ D.TIz).trans (hk _ _ D.TIz D.TITO D.TIi1 D.TIi2 hTI)
    · exact (sb.2 _ D.TOz).trans TO'
    · exact h1'.at fun o q => (sb.2 _ D.i1z).trans q
    · exact h2'.at fun o q => (sb.2 _ D.i2z).trans q
    · have hlt : c < s.heap.objs.size := by
        have e' : c = z ∨ c = TI ∨ c = TO ∨ c = i1 ∨ c = i2 := by simpa using hcm
        rcases e' with q | q | q | q | q
        · rw [q]; exact hzl
        · rw [q]; exact Heap.lt_size hTI
        · rw [q]; exact Heap.lt_size hTO
        · rw [q]; obtain ⟨_, e1, _⟩ := h1; exact Heap.lt_size e1
        · rw [q]; obtain ⟨_, e2, _⟩ := h2; exact Heap.lt_size e2
      rw [upd_ne (Nat.ne_of_lt hlt)]
      exact (hf c hcm).1
  done := by
    intro X hP hw hK hc i pins s σ H E I hf st hg
    subst hP hw hK
    obtain ⟨hz, hTI, ⟨x0, y0, hTO⟩, h1, h2⟩ := st
    obtain ⟨xs, ys, hqx, hqy, hend⟩ := hg
    obtain ⟨its, rv, p, _⟩ := I.list hqx
    obtain ⟨its2, rv2, p2, _⟩ := I.tuple hqy
    have l1 := rv.length
    have l2 := rv2.length
    have he : its.toArray[i]? = none ∨ its2.toArray[i]? = none := by
      rcases hend with q | q
      · exact .inl (by simp; omega)
      · exact .inr (by simp; omega)
    exact pyNext_zipN_end (I.ok.hd hc) D hz hTI hTO h1 h2 p.isList p2 he fun h' hk => ⟨rfl, I.turnedL (t' := s.toks) (ch := [z, TI, TO, i1, i2]) (fun c o hb q =>
      hk c o (fun q' => hb (by simp [q'])) (fun q' => hb (by simp [q'])) (fun q' => hb (by simp [q'])) (fun q' => hb (by simp [q'])) q) hf⟩
  self := fun A i s Q E st h => wpAny_pyIter_zip st.1 h
def iZipN (K : PySem.W.Frag) (ta : TA) : TI := fun σ H R => ta σ H fun vs H1 => ∃ a b xs ys, vs = [.ref a, .ref b] ∧ SqL K H1 a xs ∧ SqT K H1 b ys ∧ R (ItzN K a b) H1
theorem pi_zipN {X : Cx} {e e2 : Expr} {ta : TA} {p pos tpos : Pos} {elts : List Expr} {kk : Nat} (hg : Gl X "zip") (hm : X.mg "zip" = none) (ha : PA X [e, e2] ta)
    (hs : starEach [e, e2] X.env = (false, eval e X.env) :: starEach [e2] X.env := by rfl) (hpl : (backTo pos (starEach [e2] X.env)).any (·.1) = false := by rfl) :
    PI X (.Tuple elts kk tpos) (.Call (.Name "zip" p) [e, e2] [] pos) (iZipN X.K ta) := by
  refine ⟨fun pins s σ H R I h => ?_⟩
  refine Call_ (ld_blt I hg hm PyProof.Rows.boot_zip (PyProof.Rows.callWith_type1 (thn (ha.run pos pins s σ H _ I h) fun us s1 ⟨vs, H1, I1, r1, q1⟩ => ?_) hs hpl))
  obtain ⟨a, b, xs, ys, ex, q1⟩ := q1
  subst ex
  cases r1 with
  | cons r rr =>
    cases rr with
    | cons r' rr =>
      cases rr
      cases r
      cases r'
      have fresh5 : ∀ c, c ∈ [s1.heap.objs.size + 4, s1.heap.objs.size + 2, s1.heap.objs.size + 3, s1.heap.objs.size, s1.heap.objs.size + 1] → FpOk X pins H1 c := fun c hcm => by
        have e' : c = s1.heap.objs.size + 4 ∨ c = s1.heap.objs.size + 2 ∨ c = s1.heap.objs.size + 3 ∨ c = s1.heap.objs.size ∨ c = s1.heap.objs.size + 1 := by simpa using hcm
        have hle : s1.heap.objs.size ≤ c := by
          rcases e' with z | z | z | z | z
          · rw [z]; exact Nat.le_add_right _ _
          · rw [z]; exact Nat.le_add_right _ _
          · rw [z]; exact Nat.le_add_right _ _
          · rw [z]; exact Nat.le_refl _
          · rw [z]; exact Nat.le_add_right _ _
        exact I1.fpOk hle (I1.hok.fresh hle)
      obtain ⟨hqx, hqy, q⟩ := q1
      obtain ⟨its, rv, p1, _⟩ := I1.list hqx
      obtain ⟨its2, rv2, p2, _⟩ := I1.tuple hqy
      obtain ⟨o2, ho2, _⟩ := id p2
      refine call_zipN p1.isList (show s1.heap.IsTuple b its2.toArray from p2) fun h' hz hTI hTO h1 h2 hsz hk => wpAny_pyIter_zip hz ?_
      have I2 : Inv X pins σ H1 { s1 with heap := h' } := I1.kept (t' := s1.toks) hk
      exact ⟨s1.heap.objs.size + 4, [s1.heap.objs.size + 4, s1.heap.objs.size + 2, s1.heap.objs.size + 3, s1.heap.objs.size, s1.heap.objs.size + 1], _, _, H1, rfl, I2, turn_zipN (PySem.W.ktu_apart s1.heap.objs.size a b p1.lt (Heap.lt_size ho2)), ⟨hz, hTI, ⟨_, _, hTO⟩, h1, h2⟩, fresh5, q⟩
section
variable {K : PySem.W.Frag} {mg : Str → Option Value} {W : WX} {Z Z' H H' : Hp} {S S' : Fp} {σ : Sl} {X : Cx} {a b c e e2 o : Expr} {pos : Pos} {fa fb fc : M EV}
def srcZipN (f g : M EV) : M (List D) := bnd (srcSeq f .lst) fun ds => bnd (srcSeq g .tup) fun es => ret (zipD ds es)
theorem tI_zipN {R : It → Hp → Prop} (h : tI K mg W (srcZipN fa fb) σ H R) : tI K mg W (srcSeq fa .lst) σ H fun J H1 => ∃ ds, tI K mg W (srcSeq fb .tup) σ H1 fun J2 H2 => ∃ Z2 es, Sam Z2 H2 ∧ WalkR K J Z2 ds ∧ WalkR K J2 Z2 es ∧ ∀ J3, WalkR K J3 Z2 (zipD ds es) → R J3 H2 := by
  obtain ⟨Z, ρ, S, w, er, o⟩ := h
  refine ⟨Z, ρ, S, w, er, ?_⟩
  simp only [srcZipN, bnd] at o
  cases e1 : srcSeq fa .lst ρ with
  | stuck => rw [e1] at o; exact o
  | exc x ρ1 => rw [e1] at o; exact o
  | ok ds ρ1 =>
    simp only [e1] at o
    intro J Z1 H1 S1 st1 er1 wk
    refine ⟨ds, Z1, ρ1, S1, st1.wd, er1, ?_⟩
    cases e2 : srcSeq fb .tup ρ1 with
    | stuck => simp only [e2] at o; exact o
    | exc x ρ2 => simp only [e2] at o; exact o.after st1
    | ok es ρ2 =>
      simp only [e2, ret] at o
      exact fun J2 Z2 H2 S2 st2 er2 wk2 => ⟨Z2, es, st2.wd.same, wk.more st2.zz, wk2, fun J3 w3 => o J3 Z2 H2 S2 (st1.trans st2) er2 w3⟩
theorem walk_zipN {p q : Addr} {ds es : List D} (h : WalkR K (Itl K p) Z ds) (h' : WalkR K (Itt K q) Z es) : WalkR K (ItzN K p q) Z (zipD ds es) := by
  intro Z' H' z1 z2
  obtain ⟨h1, h2⟩ := h Z' H' z1 z2
  obtain ⟨h3, h4⟩ := h' Z' H' z1 z2
  refine ⟨fun i hi => ?_, fun i d hd => ?_⟩
  · obtain ⟨xs, c1, l1⟩ := h1 (max i ds.length) (by omega)
    obtain ⟨ys, c2, l2⟩ := h3 (max i es.length) (by omega)
    rw [zipD_length] at hi
    by_cases hc : ds.length ≤ i
    · obtain ⟨xs, c1, l1⟩ := h1 i hc
      exact ⟨xs, ys, c1, c2, .inl l1⟩
    · obtain ⟨ys, c2, l2⟩ := h3 i (by omega)
      exact ⟨xs, ys, c1, c2, .inr l2⟩
  · obtain ⟨d1, e1, hd1, he1, rfl⟩ := zipD_get ds es i d hd
    obtain ⟨⟨xs, x, c1, g1⟩, y1⟩ := h2 i d1 hd1
    obtain ⟨⟨ys, y, c2, g2⟩, y2⟩ := h4 i e1 he1
    refine ⟨⟨xs, ys, x, y, c1, c2, g1, g2⟩, fun v H'' S' w hx => ?_⟩
    obtain ⟨T, u, v', rfl, nT, rfl, f1, f2⟩ := hx
    obtain ⟨Z2, st, sm, ru⟩ := y1 u H' S' w ⟨rfl, f1⟩
    obtain ⟨_, y2'⟩ := (h'.more (z1.trans st.zz)) Z2 H' (Same.refl Z2) st.wd.same
    obtain ⟨Z3, st', sm', rv⟩ := (y2' i e1 he1).2 v' H' S' st.wd ⟨rfl, f2⟩
    have st2 := Step.allocZ (o := .tup [u, v']) st'.wd nT
    refine ⟨_, (st.trans st').trans st2, fun a o e => by rw [upd_ne (ne_of_none e nT)]; exact e, T, [u, v'], rfl, SqT.of upd_same, Fp0, Fp0, fun _ x => x, fun _ x => x, fun _ x _ => x, ru.move (st'.zz.trans st2.zz) (fun _ _ x => x.elim) fun _ x => x, Fp0, Fp0, fun _ x => x, fun _ x => x, fun _ x _ => x, ?_, trivial⟩
    exact rv.move st2.zz (fun _ _ x => x.elim) fun _ x => x
theorem I_zipN {p tpos : Pos} {elts : List Expr} {kk : Nat} (hm : X.mg "zip" = none) (h : PE X e (tE X.K X.mg W fa)) (h2 : PE X e2 (tE X.K X.mg W fb)) (hg : Gl X "zip" := by rfl) (hs : starEach [e, e2] X.env = (false, eval e X.env) :: starEach [e2] X.env := by rfl) (hs2 : starEach [e2] X.env = (false, eval e2 X.env) :: starEach [] X.env := by rfl) (hpl : (backTo pos (starEach [e2] X.env)).any (·.1) = false := by rfl) :
    PI X (.Tuple elts kk tpos) (.Call (.Name "zip" p) [e, e2] [] pos) (tI X.K X.mg W (srcZipN fa fb)) :=
  PI.of (pi_zipN hg hm (pa_cons h (pa_cons h2 pa_nil hs2) hs) hs hpl) fun σ H R q => by
    have q1 := srcSeq_of (tI_zipN q) (.inl rfl)
    refine tE_mono (fun x H1 q2 => ?_) q1
    obtain ⟨p1, rfl, Z1, ys1, ds1, sm1, c, rl, k1⟩ := q2
    obtain ⟨ds, q3⟩ := k1 _ (walk_lst' (SqL.of c) rl)
    refine tE_mono (fun y H2 q4 => ?_) (srcSeq_of q3 (.inr rfl))
    obtain ⟨p2, rfl, Z2, ys2, es2, sm2, c, rl, k2⟩ := q4
    obtain ⟨Z3, es, sm3, wk1, wk2, f⟩ := k2 _ (walk_tup c rl)
    obtain ⟨xs, cx, _⟩ := (wk1 Z3 H2 (Same.refl Z3) sm3).1 ds.length (Nat.le_refl _)
    obtain ⟨zs, cz, _⟩ := (wk2 Z3 H2 (Same.refl Z3) sm3).1 es.length (Nat.le_refl _)
    exact ⟨p1, p2, xs, zs, rfl, cx, cz, f _ (walk_zipN wk1 wk2)⟩
end
end Pm
set_option maxHeartbeats 1000000
namespace Gr
open PySem PySem.Spec PyProof.Rows L2 Pm
open Pg (rtD pD sg rt_frz rt_plain rts_plain)
open Tr (LT Run Rz txt lhs inner opnd)
open Sc (lit)
noncomputable def c_show_tree_1 : M EV := comp [7, 8] (srcZipN (callF x_dot_spans (aCons (loc 1) aNil)) (loc 1)) (gT (gsC (gN 7) (gsC (gN 8) gs0)) 2) (tst (Pm.bin opNotN (loc 8) (con .non))) (loc 7)
noncomputable def c_show_tree_2 : M EV := comp [9, 10] (srcA (loc 2)) (gT (gsC (gN 9) (gsC (gN 10) gs0)) 2) (tst (Pm.bin opEq (loc 9) (loc 4))) (loc 9)
noncomputable def c_show_tree_3 : M EV := comp [9, 10] (srcA (loc 2)) (gT (gsC (gN 9) (gsC (gN 10) gs0)) 2) (tst (Pm.bin opEq (loc 10) (loc 4))) (loc 10)
noncomputable def b_show_tree_1 : M Fl := (seq (asg (app opLen (aCons c_show_tree_2 aNil)) (gN 5))
    (seq (asg (app opLen (aCons c_show_tree_3 aNil)) (gN 6))
    (drp (appd 3 (Pm.bin hAdd (Pm.bin hAdd (Pm.bin hAdd (Pm.bin hMulT (con (.str "(")) (loc 5)) (con (.str "."))) (Pm.bin hMulT (con (.str ")")) (loc 6))) (cut (loc 0) (some (loc 4)) (some (Pm.bin hAdd (loc 4) (con (.int 1))))))))))
noncomputable def b_show_tree : M Fl := (seq (asg c_show_tree_1 (gN 2))
    (seq (asg (disp true .lst aNil) (gN 3))
    (seq (forS (srcR1 (aCons (Pm.bin hAdd (app opLen (aCons (loc 0) aNil)) (con (.int 1))) aNil)) (gN 4) b_show_tree_1)
    (rtn (smet1 opJoin (con (.str "")) (loc 3))))))
noncomputable def x_show_tree : FSem := mkF 2 11 [] b_show_tree
section
variable {P : Tr.Ps} {w : List Nat}
theorem spans0 {n : Nat} (hP : P.length = n) (hn : n ≤ 1000) : c_dot_spans_1 [some (tF P), none, none, none] = .ok (.val (psD true (flp n fun x => (x, x + 1)))) [some (tF P), none, none, none] := by
  have hlen : opLen [tF P] = some (.int (n : Int)) := by rw [← hP]; exact len_tF P
  have hsrc : srcR1 (aCons (app opLen (aCons (loc 0) aNil)) aNil) [some (tF P), none, none, none] = .ok (rangeD 0 n) [some (tF P), none, none, none] := by
    refine src_r1 (es := [.val (.int (n : Int))]) ?_ (by simp [mkF, reFrz, seq, Pm.ite, rtn, mov, asg, drp, sNx, bnd, Pm.bin, Pm.un, app, aCons, aNil, idx, loc, con, Pm.ret, peek1, peeks, itemOf, on2I, iAdd, iSub, iGt, iGe, iLt, iLe, iDiv, iMod, use1, useL, gI, gN, tst, andT, orT, notT, andE, orE, notE, ifE, ixN, D.frz, D.plain, plainL, argsBack, opLen, opAbs, opInt1, opNeg, disp, cap, callF, takes, puts, selA, sel, aApp, par, gT, gsC, gs0, appF, opDivmod, frzL, plainL]) (by omega)
    generalize tF P = TD at *
    generalize opLen = OL at *
    simp [mkF, reFrz, seq, Pm.ite, rtn, mov, asg, drp, sNx, bnd, Pm.bin, Pm.un, app, aCons, aNil, idx, loc, con, Pm.ret, peek1, peeks, itemOf, on2I, iAdd, iSub, iGt, iGe, iLt, iLe, iDiv, iMod, use1, useL, gI, gN, tst, andT, orT, notT, andE, orE, notE, ifE, ixN, D.frz, D.plain, plainL, argsBack, opLen, opAbs, opInt1, opNeg, disp, cap, callF, takes, puts, selA, sel, aApp, par, gT, gsC, gs0, appF, opDivmod, frzL, plainL, hlen]
  unfold c_dot_spans_1
  rw [comp_map (fun d => match d with | .int k => prD (k.toNat, k.toNat + 1) | d => d) hsrc rfl rfl (by rw [range_len]; show n ≤ 1000000; omega) fun d hd => ?_]
  · congr 3
    unfold flp
    rw [show rangeD 0 n = rangeD ((0 : Nat) : Int) n from rfl, Pg.range_natK 0 n, List.map_map, List.map_map, List.range_eq_range']
    rfl
  · obtain ⟨j, hj⟩ := List.mem_iff_getElem?.mp hd
    obtain ⟨hj, rfl⟩ := range_get hj
    refine ⟨_, rfl, Wp.of (a := true) rfl ⟨rfl, Wp.of (a := .val (prD (j, j + 1))) (ρ' := [some (tF P), none, some (.int (0 + (j : Int))), none]) ?_ ⟨[some (tF P), none, some (.int (0 + (j : Int))), none], ?_, rfl⟩⟩⟩
    · rw [Int.zero_add]
      have ad : hAdd [.int (j : Int), .int 1] = some (.int ((j + 1 : Nat) : Int)) := by rw [hAdd_ii]; rfl
      unfold prD
      generalize tF P = TD at *
      generalize ((j + 1 : Nat) : Int) = J1 at *
      generalize hAdd = HA at *
      simp [mkF, reFrz, seq, Pm.ite, rtn, mov, asg, drp, sNx, bnd, Pm.bin, Pm.un, app, aCons, aNil, idx, loc, con, Pm.ret, peek1, peeks, itemOf, on2I, iAdd, iSub, iGt, iGe, iLt, iLe, iDiv, iMod, use1, useL, gI, gN, tst, andT, orT, notT, andE, orE, notE, ifE, ixN, D.frz, D.plain, plainL, argsBack, opLen, opAbs, opInt1, opNeg, disp, cap, callF, takes, puts, selA, sel, aApp, par, gT, gsC, gs0, appF, opDivmod, frzL, plainL, ad]
    · have : (0 + (j : Int)).toNat = j := by omega
      simp only [this]
      rfl
theorem spans_ok {TT : LT} {n : Nat} (hP : P.length = n) (hn : n ≤ 1000) (hR : Run TT 0 n) (hz : Rz P TT none) :
    x_dot_spans [tF P] = .ret (psD true (flp n fun x => (Tr.loF TT x, Tr.hiF TT x))) [tF P] := by
  have hlen : opLen [tF P] = some (.int (n : Int)) := by rw [← hP]; exact len_tF P
  have hW : Wf x_dot_spans [tF P] fun d as => d = psD true (flp n fun x => (Tr.loF TT x, Tr.hiF TT x)) ∧ as = [tF P] := by
    unfold x_dot_spans
    refine wf_mkF ?_
    unfold b_dot_spans
    show Wp _ [some (tF P), none, none, none] _
    have e0 := spans0 hP hn
    rw [← dj_zero TT n] at e0
    refine wp_nx [some (tF P), some (psD true (flp n (dj TT 0))), none, none] ?_ ?_
    · generalize psD true (flp n (dj TT 0)) = V at *
      generalize c_dot_spans_1 = CC at *
      generalize tF P = TD at *
      simp [mkF, reFrz, seq, Pm.ite, rtn, mov, asg, drp, sNx, bnd, Pm.bin, Pm.un, app, aCons, aNil, idx, loc, con, Pm.ret, peek1, peeks, itemOf, on2I, iAdd, iSub, iGt, iGe, iLt, iLe, iDiv, iMod, use1, useL, gI, gN, tst, andT, orT, notT, andE, orE, notE, ifE, ixN, D.frz, D.plain, plainL, argsBack, opLen, opAbs, opInt1, opNeg, disp, cap, callF, takes, puts, selA, sel, aApp, par, gT, gsC, gs0, appF, opDivmod, frzL, plainL, e0]
    refine wp_seq fun K k1 k2 k3 k4 => ?_
    refine ds_loop hP hn hR hz hlen rfl fun y1 y2 h1 => k1 _ ?_
    clear k1 k2 k3 k4 K
    rw [dj_end hR]
    have tp := tF_pl P
    have np : (psD true (flp n fun x => (Tr.loF TT x, Tr.hiF TT x))).plain = false := rfl
    generalize psD true (flp n fun x => (Tr.loF TT x, Tr.hiF TT x)) = V at *
    generalize tF P = TD at *
    refine wp_end fun K k1 k2 k3 k4 => ?_
    simp [Wp, mkF, reFrz, seq, Pm.ite, rtn, mov, asg, drp, sNx, bnd, Pm.bin, Pm.un, app, aCons, aNil, idx, loc, con, Pm.ret, peek1, peeks, itemOf, on2I, iAdd, iSub, iGt, iGe, iLt, iLe, iDiv, iMod, use1, useL, gI, gN, tst, andT, orT, notT, andE, orE, notE, ifE, ixN, D.frz, D.plain, plainL, argsBack, opLen, opAbs, opInt1, opNeg, disp, cap, callF, takes, puts, selA, sel, aApp, par, gT, gsC, gs0, appF, opDivmod, frzL, plainL]
    exact k2 _ _ ⟨[TD], by simp [argsBack, reFrz, tp, D.plain], rfl, rfl⟩
  obtain ⟨d, as, e, rfl, rfl⟩ := hW
  exact e
theorem zip_get (L : List D) (Q : List D) (j : Nat) (x : D) (h : (zipD L Q)[j]? = some x) : ∃ a b, L[j]? = some a ∧ Q[j]? = some b ∧ x = .node false .tup [a, b] := zipD_get L Q j x h
theorem inner_show {W : D} {n : Nat} {L : Nat → Nat × Nat} (hP : P.length = n) (hn : n ≤ 1000) (hs : x_dot_spans [tF P] = .ret (psD true (flp n L)) [tF P]) :
    c_show_tree_1 [some W, some (tF P), none, none, none, none, none, none, none, none, none] = .ok (.val (psD true (((List.range n).filter fun k => (P.getD k none).isSome).map L))) [some W, some (tF P), none, none, none, none, none, none, none, none, none] := by
  have hsrc : srcZipN (callF x_dot_spans (aCons (loc 1) aNil)) (loc 1) [some W, some (tF P), none, none, none, none, none, none, none, none, none] = .ok (zipD ((flp n L).map prD) (P.map rtD)) [some W, some (tF P), none, none, none, none, none, none, none, none, none] := by
    have fz : frzL ((flp n L).map prD) = (flp n L).map prD := frzL_of_plain _ (prs_pl _)
    have fz2 : frzL (P.map rtD) = P.map rtD := frzL_of_plain _ (rts_plain P)
    have tp : plainL (P.map rtD) = true := rts_plain P
    unfold psD tF at *
    generalize (flp n L).map prD = LD at *
    generalize P.map rtD = TD at *
    generalize x_dot_spans = XS at *
    simp [srcZipN, srcSeq, mkF, reFrz, seq, Pm.ite, rtn, mov, asg, drp, sNx, bnd, Pm.bin, Pm.un, app, aCons, aNil, idx, loc, con, Pm.ret, peek1, peeks, itemOf, on2I, iAdd, iSub, iGt, iGe, iLt, iLe, iDiv, iMod, use1, useL, gI, gN, tst, andT, orT, notT, andE, orE, notE, ifE, ixN, D.frz, D.plain, plainL, argsBack, opLen, opAbs, opInt1, opNeg, disp, cap, callF, takes, puts, selA, sel, aApp, par, gT, gsC, gs0, appF, opDivmod, frzL, plainL, fz, fz2, hs, tp]
  obtain ⟨acc, ρ', e1, h0, h2⟩ := comp_wp (own := [7, 8]) (g := gT (gsC (gN 7) (gsC (gN 8) gs0)) 2) (c := tst (Pm.bin opNotN (loc 8) (con .non))) (e := loc 7) hsrc (fun j ρ acc => ρ = [some W, some (tF P), none, none, none, none, none, none, none, none, none] ∧ acc = (((List.range j).filter fun k => (P.getD k none).isSome).map L).map prD) ⟨by simp [wipeE], rfl⟩ (by rw [zipD_length, List.length_map, flp_len, List.length_map]; show min n P.length ≤ 1000000; omega) fun j d ρ acc hd ⟨hρ, ha⟩ => by
    subst hρ
    obtain ⟨d1, d2, hd1, hd2, rfl⟩ := zip_get _ _ _ _ hd
    rw [List.getElem?_map] at hd1 hd2
    obtain ⟨p, hp0, rfl⟩ := Option.map_eq_some_iff.mp hd1
    obtain ⟨q, hq0, rfl⟩ := Option.map_eq_some_iff.mp hd2
    obtain ⟨hj, hpe⟩ := List.getElem?_eq_some_iff.mp hp0
    rw [flp_get] at hpe
    rw [flp_len] at hj
    subst hpe
    have hpj : q = P.getD j none := by rw [List.getD_eq_getElem?_getD, hq0]; rfl
    subst hpj
    have tk : (List.range (j + 1)).filter (fun k => (P.getD k none).isSome) = (List.range j).filter (fun k => (P.getD k none).isSome) ++ (if (P.getD j none).isSome = true then [j] else []) := by
      rw [List.range_succ, List.filter_append, List.filter_cons, List.filter_nil]
    have nn : opNotN [rtD (P.getD j none), .non] = some (.bl (P.getD j none).isSome) := by cases P.getD j none <;> rfl
    have rp := rt_plain (P.getD j none)
    have rf := rt_frz (P.getD j none)
    refine ⟨[some W, some (tF P), none, none, none, none, none, some (prD (L j)), some (rtD (P.getD j none)), none, none], by simp [mkF, reFrz, seq, Pm.ite, rtn, mov, asg, drp, sNx, bnd, Pm.bin, Pm.un, app, aCons, aNil, idx, loc, con, Pm.ret, peek1, peeks, itemOf, on2I, iAdd, iSub, iGt, iGe, iLt, iLe, iDiv, iMod, use1, useL, gI, gN, tst, andT, orT, notT, andE, orE, notE, ifE, ixN, D.frz, D.plain, plainL, argsBack, opLen, opAbs, opInt1, opNeg, disp, cap, callF, takes, puts, selA, sel, aApp, par, gT, gsC, gs0, appF, opDivmod, frzL, plainL, prD, rp, rf], ?_⟩
    refine Wp.of (a := (P.getD j none).isSome) (ρ' := [some W, some (tF P), none, none, none, none, none, some (prD (L j)), some (rtD (P.getD j none)), none, none]) ?_ ⟨fun h => Wp.of (a := .ref 7) rfl ⟨prD (L j), _, rfl, ?_, ?_⟩, fun h => ⟨?_, ?_⟩⟩
    · generalize (P.getD j none).isSome = B at *
      generalize tF P = TD at *
      generalize prD (L j) = PJ at *
      generalize rtD (P.getD j none) = RP at *
      generalize opNotN = NN at *
      simp [mkF, reFrz, seq, Pm.ite, rtn, mov, asg, drp, sNx, bnd, Pm.bin, Pm.un, app, aCons, aNil, idx, loc, con, Pm.ret, peek1, peeks, on2I, iAdd, iSub, iGt, iGe, iLt, iLe, iDiv, iMod, use1, useL, gN, tst, andT, orT, notT, andE, orE, notE, ifE, ixN, D.frz, D.plain, plainL, argsBack, opLen, opAbs, opInt1, opNeg, disp, cap, callF, takes, puts, selA, sel, aApp, par, gT, gsC, gs0, appF, opDivmod, frzL, plainL, nn]
    · simp [wipeE]
    · rw [tk, if_pos h, List.map_append, List.map_append, ← ha]; rfl
    · simp [wipeE]
    · rw [tk, if_neg (by rw [h]; decide), List.append_nil, ← ha]
  rw [h2, zipD_length, List.length_map, flp_len, List.length_map, hP, Nat.min_self, h0] at e1
  unfold c_show_tree_1
  rw [e1]
  rfl
theorem scnt {W : D} {b : Bool} {l : List (Nat × Nat)} {i : Nat} {x3 x5 x6 : Option D} (hl : l.length ≤ 1000) :
    c_show_tree_2 [some W, some (tF P), some (psD b l), x3, some (.int (i : Int)), x5, x6, none, none, none, none] = .ok (.val (.node true .lst ((l.filter fun p => p.1 == i).map fun p => D.int (p.1 : Int)))) [some W, some (tF P), some (psD false l), x3, some (.int (i : Int)), x5, x6, none, none, none, none] ∧
    c_show_tree_3 [some W, some (tF P), some (psD b l), x3, some (.int (i : Int)), x5, x6, none, none, none, none] = .ok (.val (.node true .lst ((l.filter fun p => p.2 == i).map fun p => D.int (p.2 : Int)))) [some W, some (tF P), some (psD false l), x3, some (.int (i : Int)), x5, x6, none, none, none, none] := by
  have hs := src_ps (ρ := [some W, some (tF P), some (psD b l), x3, some (.int (i : Int)), x5, x6, none, none, none, none]) (j := 2) rfl
  constructor
  · obtain ⟨acc, ρ', e1, h0, h2⟩ := comp_wp (own := [9, 10]) (g := gT (gsC (gN 9) (gsC (gN 10) gs0)) 2) (c := tst (Pm.bin opEq (loc 9) (loc 4))) (e := loc 9) hs (fun j ρ acc => ρ = [some W, some (tF P), some (psD false l), x3, some (.int (i : Int)), x5, x6, none, none, none, none] ∧ acc = ((l.take j).filter fun p => p.1 == i).map fun p => D.int (p.1 : Int)) ⟨rfl, rfl⟩ (by rw [List.length_map]; show _ ≤ 1000000; omega) fun j d ρ acc hd ⟨hρ, ha⟩ => by
      subst hρ
      rw [List.getElem?_map] at hd
      obtain ⟨k, hk, rfl⟩ := Option.map_eq_some_iff.mp hd
      have tk : l.take (j + 1) = l.take j ++ [k] := by rw [List.take_add_one, hk]; rfl
      have eq := eq_nn k.1 i
      refine ⟨[some W, some (tF P), some (psD false l), x3, some (.int (i : Int)), x5, x6, none, none, some (.int (k.1 : Int)), some (.int (k.2 : Int))], rfl, Wp.of (a := k.1 == i) (ρ' := [some W, some (tF P), some (psD false l), x3, some (.int (i : Int)), x5, x6, none, none, some (.int (k.1 : Int)), some (.int (k.2 : Int))]) ?_ ⟨fun h => Wp.of (a := .ref 9) rfl ⟨.int (k.1 : Int), _, rfl, rfl, ?_⟩, fun h => ⟨rfl, ?_⟩⟩⟩
      · generalize psD false l = V at *
        generalize tF P = TD at *
        generalize (k.1 == i) = B at *
        generalize opEq = EQ at *
        simp [mkF, reFrz, seq, Pm.ite, rtn, mov, asg, drp, sNx, bnd, Pm.bin, Pm.un, app, aCons, aNil, idx, loc, con, Pm.ret, peek1, peeks, on2I, iAdd, iSub, iGt, iGe, iLt, iLe, iDiv, iMod, use1, useL, gN, tst, andT, orT, notT, andE, orE, notE, ifE, ixN, D.frz, D.plain, plainL, argsBack, opLen, opAbs, opInt1, opNeg, disp, cap, callF, takes, puts, selA, sel, aApp, par, gT, gsC, gs0, appF, opDivmod, frzL, plainL, eq]
      · rw [tk, List.filter_append, List.map_append, ← ha]; simp [h]
      · rw [tk, List.filter_append, List.map_append, ← ha]; simp [h]
    rw [h2, h0, List.length_map, List.take_length] at e1
    exact e1
  · obtain ⟨acc, ρ', e1, h0, h2⟩ := comp_wp (own := [9, 10]) (g := gT (gsC (gN 9) (gsC (gN 10) gs0)) 2) (c := tst (Pm.bin opEq (loc 10) (loc 4))) (e := loc 10) hs (fun j ρ acc => ρ = [some W, some (tF P), some (psD false l), x3, some (.int (i : Int)), x5, x6, none, none, none, none] ∧ acc = ((l.take j).filter fun p => p.2 == i).map fun p => D.int (p.2 : Int)) ⟨rfl, rfl⟩ (by rw [List.length_map]; show _ ≤ 1000000; omega) fun j d ρ acc hd ⟨hρ, ha⟩ => by
      subst hρ
      rw [List.getElem?_map] at hd
      obtain ⟨k, hk, rfl⟩ := Option.map_eq_some_iff.mp hd
      have tk : l.take (j + 1) = l.take j ++ [k] := by rw [List.take_add_one, hk]; rfl
      have eq := eq_nn k.2 i
      refine ⟨[some W, some (tF P), some (psD false l), x3, some (.int (i : Int)), x5, x6, none, none, some (.int (k.1 : Int)), some (.int (k.2 : Int))], rfl, Wp.of (a := k.2 == i) (ρ' := [some W, some (tF P), some (psD false l), x3, some (.int (i : Int)), x5, x6, none, none, some (.int (k.1 : Int)), some (.int (k.2 : Int))]) ?_ ⟨fun h => Wp.of (a := .ref 10) rfl ⟨.int (k.2 : Int), _, rfl, rfl, ?_⟩, fun h => ⟨rfl, ?_⟩⟩⟩
      · generalize psD false l = V at *
        generalize tF P = TD at *
        generalize (k.2 == i) = B at *
        generalize opEq = EQ at *
        simp [mkF, reFrz, seq, Pm.ite, rtn, mov, asg, drp, sNx, bnd, Pm.bin, Pm.un, app, aCons, aNil, idx, loc, con, Pm.ret, peek1, peeks, on2I, iAdd, iSub, iGt, iGe, iLt, iLe, iDiv, iMod, use1, useL, gN, tst, andT, orT, notT, andE, orE, notE, ifE, ixN, D.frz, D.plain, plainL, argsBack, opLen, opAbs, opInt1, opNeg, disp, cap, callF, takes, puts, selA, sel, aApp, par, gT, gsC, gs0, appF, opDivmod, frzL, plainL, eq]
      · rw [tk, List.filter_append, List.map_append, ← ha]; simp [h]
      · rw [tk, List.filter_append, List.map_append, ← ha]; simp [h]
    rw [h2, h0, List.length_map, List.take_length] at e1
    exact e1
theorem len_lcomp {f : M EV} {ρ ρ1 : Pm.Env} {l : List D} (h : f ρ = .ok (.val (.node true .lst l)) ρ1) : app opLen (aCons f aNil) ρ = .ok (.val (.int (l.length : Int))) ρ1 := by
  have hl : opLen [.node true .lst l] = some (.int (l.length : Int)) := rfl
  generalize D.node true .lst l = O at *
  generalize opLen = OL at *
  simp [mkF, reFrz, seq, Pm.ite, rtn, mov, asg, drp, sNx, bnd, Pm.bin, Pm.un, app, aCons, aNil, idx, loc, con, Pm.ret, peek1, peeks, itemOf, on2I, iAdd, iSub, iGt, iGe, iLt, iLe, iDiv, iMod, use1, useL, gI, gN, tst, andT, orT, notT, andE, orE, notE, ifE, ixN, D.frz, D.plain, plainL, argsBack, opLen, opAbs, opInt1, opNeg, disp, cap, callF, takes, puts, selA, sel, aApp, par, gT, gsC, gs0, appF, opDivmod, frzL, plainL, h, hl]
theorem show_step {x5 x6 : Option D} {b : Bool} {l : List (Nat × Nat)} {i : Nat} {L : List D} (hl : l.length ≤ 300) (hw : w.length ≤ 1000) (hL : L.length ≤ 1000) :
    ∃ z5 z6, b_show_tree_1 [some (.str (T w)), some (tF P), some (psD b l), some (.node true .lst L), some (.int (i : Int)), x5, x6, none, none, none, none] = .ok .nx [some (.str (T w)), some (tF P), some (psD false l), some (.node true .lst (L ++ [.str (T (pce l w i))])), some (.int (i : Int)), z5, z6, none, none, none, none] := by
  have c1 := fun x5 x6 => len_lcomp (scnt (P := P) (W := .str (T w)) (b := b) (l := l) (i := i) (x3 := some (.node true .lst L)) (x5 := x5) (x6 := x6) (by omega)).1
  have c2 := fun x5 x6 => len_lcomp (scnt (P := P) (W := .str (T w)) (b := false) (l := l) (i := i) (x3 := some (.node true .lst L)) (x5 := x5) (x6 := x6) (by omega)).2
  simp only [List.length_map] at c1 c2
  have h1 := List.length_filter_le (fun p : Nat × Nat => p.1 == i) l
  have h2 := List.length_filter_le (fun p : Nat × Nat => p.2 == i) l
  have h3 : ((w.drop i).take 1).length ≤ 1 := by rw [List.length_take]; omega
  have hp : pce l w i = List.replicate (l.filter fun p => p.1 == i).length 40 ++ [46] ++ List.replicate (l.filter fun p => p.2 == i).length 41 ++ (w.drop i).take 1 := by unfold pce opnd; simp
  rw [hp]
  generalize (l.filter fun p => p.1 == i).length = o at *
  generalize (l.filter fun p => p.2 == i).length = c at *
  have r1 := rep1 40 o (by omega)
  have r2 := rep1 41 c (by omega)
  have l1 : (("(" : String) : Str) = T [40] := lit rfl
  have l2 : (("." : String) : Str) = T [46] := lit rfl
  have l3 : ((")" : String) : Str) = T [41] := lit rfl
  have ad : hAdd [.int (i : Int), .int 1] = some (.int ((i + 1 : Nat) : Int)) := by rw [hAdd_ii]; rfl
  have cu : gCut (some (i : Int)) (some ((i + 1 : Nat) : Int)) (.str (T w)) = some (.str (T ((w.drop i).take 1))) := by
    rw [mid_T (by show _ ≤ 1000000; omega), show i + 1 - i = 1 by omega]
  have a2 : hAdd [.str (T (List.replicate o 40)), .str (T [46])] = some (.str (T (List.replicate o 40 ++ [46]))) := add_T (by simp only [List.length_replicate, List.length_singleton]; show _ ≤ 1000000; omega)
  have a3 : hAdd [.str (T (List.replicate o 40 ++ [46])), .str (T (List.replicate c 41))] = some (.str (T (List.replicate o 40 ++ [46] ++ List.replicate c 41))) := add_T (by simp only [List.length_append, List.length_replicate, List.length_singleton]; show _ ≤ 1000000; omega)
  have a4 : hAdd [.str (T (List.replicate o 40 ++ [46] ++ List.replicate c 41)), .str (T ((w.drop i).take 1))] = some (.str (T (List.replicate o 40 ++ [46] ++ List.replicate c 41 ++ (w.drop i).take 1))) := add_T (by simp only [List.length_append, List.length_replicate, List.length_singleton]; show _ ≤ 1000000; omega)
  refine ⟨some (.int (o : Int)), some (.int (c : Int)), ?_⟩
  unfold b_show_tree_1
  rw [l1, l2, l3]
  have hc : L.length < 1000000 := by omega
  clear hp h1 h2 h3 l1 l2 l3
  generalize T w = TW at *
  generalize tF P = TD at *
  generalize psD b l = V1 at *
  generalize psD false l = V2 at *
  generalize T (List.replicate o 40 ++ [46]) = TF2 at *
  generalize T (List.replicate o 40 ++ [46] ++ List.replicate c 41) = TF3 at *
  generalize T (List.replicate o 40 ++ [46] ++ List.replicate c 41 ++ (w.drop i).take 1) = TF4 at *
  generalize T (List.replicate o 40) = R1 at *
  generalize T (List.replicate c 41) = R2 at *
  generalize T [40] = C1 at *
  generalize T [46] = C2 at *
  generalize T [41] = C3 at *
  generalize T ((w.drop i).take 1) = WD at *
  generalize ((i + 1 : Nat) : Int) = I1 at *
  generalize app opLen (aCons c_show_tree_2 aNil) = CC1 at *
  generalize app opLen (aCons c_show_tree_3 aNil) = CC2 at *
  generalize hAdd = HA at *
  generalize hMulT = HM at *
  simp [mkF, reFrz, seq, Pm.ite, rtn, mov, asg, drp, sNx, bnd, Pm.bin, Pm.un, app, aCons, aNil, idx, loc, con, Pm.ret, peek1, peeks, itemOf, on2I, iAdd, iSub, iGt, iGe, iLt, iLe, iDiv, iMod, use1, useL, gI, gN, tst, andT, orT, notT, andE, orE, notE, ifE, ixN, D.frz, D.plain, plainL, argsBack, opLen, opAbs, opInt1, opNeg, disp, cap, callF, takes, puts, selA, sel, aApp, par, gT, gsC, gs0, appF, opDivmod, frzL, plainL, cut, appd, c1, c2, r1, r2, ad, cu, a2, a3, a4, hc]
theorem show_pces {x4 x5 x6 : Option D} {b : Bool} {l : List (Nat × Nat)} {n : Nat} (hn : w.length = n) (hl : l.length ≤ 300) (hw : n ≤ 300) {Q : Fl → Pm.Env → Prop}
    (hQ : ∀ b x4 x5 x6, Q .nx [some (.str (T w)), some (tF P), some (psD b l), some (.node true .lst (((List.range' 0 (n + 1)).map (pce l w)).map fun l => D.str (T l))), x4, x5, x6, none, none, none, none]) :
    Wp (forS (srcR1 (aCons (Pm.bin hAdd (app opLen (aCons (loc 0) aNil)) (con (.int 1))) aNil)) (gN 4) b_show_tree_1) [some (.str (T w)), some (tF P), some (psD b l), some (.node true .lst []), x4, x5, x6, none, none, none, none] Q := by
  have hs : srcR1 (aCons (Pm.bin hAdd (app opLen (aCons (loc 0) aNil)) (con (.int 1))) aNil) [some (.str (T w)), some (tF P), some (psD b l), some (.node true .lst []), x4, x5, x6, none, none, none, none] = .ok ((List.range' 0 (n + 1)).map fun k : Nat => D.int (k : Int)) [some (.str (T w)), some (tF P), some (psD b l), some (.node true .lst []), x4, x5, x6, none, none, none, none] := by
    rw [← Pg.range_natK 0 (n + 1)]
    have hlen : opLen [.str (T w)] = some (.int (n : Int)) := by rw [← hn]; exact len_T (by show _ ≤ 1000000; omega)
    have ad : hAdd [.int (n : Int), .int 1] = some (.int ((n + 1 : Nat) : Int)) := by rw [hAdd_ii]; rfl
    refine src_r1 (es := [.val (.int ((n + 1 : Nat) : Int))]) ?_ (by simp [mkF, reFrz, seq, Pm.ite, rtn, mov, asg, drp, sNx, bnd, Pm.bin, Pm.un, app, aCons, aNil, idx, loc, con, Pm.ret, peek1, peeks, itemOf, on2I, iAdd, iSub, iGt, iGe, iLt, iLe, iDiv, iMod, use1, useL, gI, gN, tst, andT, orT, notT, andE, orE, notE, ifE, ixN, D.frz, D.plain, plainL, argsBack, opLen, opAbs, opInt1, opNeg, disp, cap, callF, takes, puts, selA, sel, aApp, par, gT, gsC, gs0, appF, opDivmod, frzL, plainL]) (by omega)
    generalize T w = TW at *
    generalize tF P = TD at *
    generalize psD b l = V1 at *
    generalize opLen = OL at *
    generalize ((n + 1 : Nat) : Int) = N1 at *
    generalize hAdd = HA at *
    simp [mkF, reFrz, seq, Pm.ite, rtn, mov, asg, drp, sNx, bnd, Pm.bin, Pm.un, app, aCons, aNil, idx, loc, con, Pm.ret, peek1, peeks, itemOf, on2I, iAdd, iSub, iGt, iGe, iLt, iLe, iDiv, iMod, use1, useL, gI, gN, tst, andT, orT, notT, andE, orE, notE, ifE, ixN, D.frz, D.plain, plainL, argsBack, opLen, opAbs, opInt1, opNeg, disp, cap, callF, takes, puts, selA, sel, aApp, par, gT, gsC, gs0, appF, opDivmod, frzL, plainL, hlen, ad]
  refine wp_for hs (fun j ρ => ∃ b x4 x5 x6, ρ = [some (.str (T w)), some (tF P), some (psD b l), some (.node true .lst (((List.range' 0 j).map (pce l w)).map fun l => D.str (T l))), x4, x5, x6, none, none, none, none]) ⟨b, x4, x5, x6, rfl⟩ ?_ ?_
  · rintro j d ρ hd ⟨b, x4, x5, x6, rfl⟩
    rw [List.getElem?_map] at hd
    obtain ⟨k, hk, rfl⟩ := Option.map_eq_some_iff.mp hd
    obtain ⟨hj, hk'⟩ := List.getElem?_eq_some_iff.mp hk
    rw [List.getElem_range'] at hk'
    rw [List.length_range'] at hj
    obtain rfl : j = k := by omega
    obtain ⟨z5, z6, e⟩ := show_step (P := P) (w := w) (x5 := x5) (x6 := x6) (b := b) (l := l) (i := j) (L := ((List.range' 0 j).map (pce l w)).map fun l => D.str (T l)) hl (by omega) (by rw [List.length_map, List.length_map, List.length_range']; omega)
    refine ⟨[some (.str (T w)), some (tF P), some (psD b l), some (.node true .lst (((List.range' 0 j).map (pce l w)).map fun l => D.str (T l))), some (.int (j : Int)), x5, x6, none, none, none, none], rfl, Wp.of e ⟨false, some (.int (j : Int)), z5, z6, ?_⟩⟩
    rw [List.range'_concat, List.map_append, List.map_append, Nat.zero_add, Nat.one_mul]
    rfl
  · rintro ρ ⟨b, x4, x5, x6, rfl⟩
    rw [List.length_map, List.length_range']
    exact hQ b x4 x5 x6
end
theorem show_ok {P : Tr.Ps} {w : List Nat} {TT : LT} {n : Nat} (hw : w.length = n) (hn : P.length = n) (hl : n ≤ 300) (hR : Run TT 0 n) (hz : Rz P TT none) :
    x_show_tree [.str (T w), tF P] = .ret (.str (T (txt w TT))) [.str (T w), tF P] := by
  have hW : Wf x_show_tree [.str (T w), tF P] fun d as => d = .str (T (txt w TT)) ∧ as = [.str (T w), tF P] := by
    unfold x_show_tree
    refine wf_mkF ?_
    unfold b_show_tree
    show Wp _ [some (.str (T w)), some (tF P), none, none, none, none, none, none, none, none, none] _
    have e1 := inner_show (W := .str (T w)) hn (by omega) (spans_ok hn (by omega) hR hz)
    rw [Tr.inner_range hR hz, show (inner TT).map (fun x => (Tr.loF TT x, Tr.hiF TT x)) = lhs TT from rfl] at e1
    refine wp_nx [some (.str (T w)), some (tF P), some (psD true (lhs TT)), none, none, none, none, none, none, none, none] ?_ ?_
    · generalize psD true (lhs TT) = V3 at *
      generalize c_show_tree_1 = CC at *
      generalize tF P = TD at *
      generalize T w = TW at *
      simp [mkF, reFrz, seq, Pm.ite, rtn, mov, asg, drp, sNx, bnd, Pm.bin, Pm.un, app, aCons, aNil, idx, loc, con, Pm.ret, peek1, peeks, itemOf, on2I, iAdd, iSub, iGt, iGe, iLt, iLe, iDiv, iMod, use1, useL, gI, gN, tst, andT, orT, notT, andE, orE, notE, ifE, ixN, D.frz, D.plain, plainL, argsBack, opLen, opAbs, opInt1, opNeg, disp, cap, callF, takes, puts, selA, sel, aApp, par, gT, gsC, gs0, appF, opDivmod, frzL, plainL, e1]
    refine wp_nx [some (.str (T w)), some (tF P), some (psD true (lhs TT)), some (.node true .lst []), none, none, none, none, none, none, none] ?_ ?_
    · generalize psD true (lhs TT) = V3 at *
      generalize tF P = TD at *
      generalize T w = TW at *
      simp [mkF, reFrz, seq, Pm.ite, rtn, mov, asg, drp, sNx, bnd, Pm.bin, Pm.un, app, aCons, aNil, idx, loc, con, Pm.ret, peek1, peeks, itemOf, on2I, iAdd, iSub, iGt, iGe, iLt, iLe, iDiv, iMod, use1, useL, gI, gN, tst, andT, orT, notT, andE, orE, notE, ifE, ixN, D.frz, D.plain, plainL, argsBack, opLen, opAbs, opInt1, opNeg, disp, cap, callF, takes, puts, selA, sel, aApp, par, gT, gsC, gs0, appF, opDivmod, frzL, plainL]
    have hll : (lhs TT).length ≤ 300 := by
      unfold lhs
      rw [List.length_map, ← Tr.inner_range hR hz]
      have := List.length_filter_le (fun k => (P.getD k none).isSome) (List.range n)
      rw [List.length_range] at this
      omega
    refine wp_seq fun K k1 k2 k3 k4 => ?_
    refine show_pces hw hll hl fun b x4 x5 x6 => k1 _ ?_
    clear k1 k2 k3 k4 K
    have ht := Tr.txt_wr (w := w) hR hw
    have hfl : ((List.range' 0 (n + 1)).map (pce (lhs TT) w)).flatten = txt w TT := by rw [← List.flatMap_def]; exact ht
    have hb := pces_len (lhs TT) w 0 (n + 1)
    have hb2 : (n + 1) * (2 * (lhs TT).length + 2) ≤ 301 * 602 := Nat.mul_le_mul (by omega) (by omega)
    have jn := join_ok true ((List.range' 0 (n + 1)).map (pce (lhs TT) w)) (by rw [← List.flatMap_def]; show _ ≤ 1000000; omega)
    rw [hfl] at jn
    have l0 : (("" : String) : Str) = T [] := lit rfl
    have tp := tF_pl P
    rw [l0]
    generalize ((List.range' 0 (n + 1)).map (pce (lhs TT) w)).map (fun l => D.str (T l)) = LL at *
    generalize psD b (lhs TT) = V3 at *
    generalize tF P = TD at *
    generalize T w = TW at *
    generalize T (txt w TT) = TX at *
    generalize T [] = T0 at *
    refine wp_end fun K k1 k2 k3 k4 => ?_
    simp [Wp, mkF, reFrz, seq, Pm.ite, rtn, mov, asg, drp, sNx, bnd, Pm.bin, Pm.un, app, aCons, aNil, idx, loc, con, Pm.ret, peek1, peeks, itemOf, on2I, iAdd, iSub, iGt, iGe, iLt, iLe, iDiv, iMod, use1, useL, gI, gN, tst, andT, orT, notT, andE, orE, notE, ifE, ixN, D.frz, D.plain, plainL, argsBack, opLen, opAbs, opInt1, opNeg, disp, cap, callF, takes, puts, selA, sel, aApp, par, gT, gsC, gs0, appF, opDivmod, frzL, plainL, smet1, jn]
    exact k2 _ _ ⟨[.str TW, TD], by simp [argsBack, reFrz, tp, D.plain], rfl, rfl⟩
  obtain ⟨d, as, e, rfl, rfl⟩ := hW
  exact e
end Gr
namespace Sc
open PySem PySem.Spec PyProof.Rows L2 Pm
open Pg (sg Tab rowD tabD abc_T)
open TL (numL numL_lt numL_step numL_digits numL_val numL_ne numL_inj numL_len)
abbrev RowT := Nat × Int × Int
/-- a number's text -/
def intL (i : Int) : List Nat := if i < 0 then 45 :: numL i.natAbs else numL i.natAbs
section
variable {src : List Nat} {k : Nat}
theorem drop_head {c : Nat} {w : List Nat} (h : src.drop k = c :: w) : src[k]? = some c ∧ src.drop (k + 1) = w := by
  constructor
  · have := List.getElem?_drop (xs := src) (i := k) (j := 0)
    rw [h] at this
    simpa using this.symm
  · rw [← List.drop_drop, h]
    rfl
/-- an entry's text -/
def entL (r : RowT) : List Nat := r.1 :: 32 :: (intL r.2.1 ++ 32 :: intL r.2.2)
end
end Sc
namespace Sc
open PySem PySem.Spec PyProof.Rows L2 Pm
open Pg (sg Tab rowD tabD abc_T rows_plain tabD_plain TabOk Fi)
open TL (numL numL_lt numL_step numL_digits numL_val numL_ne numL_inj numL_len joinL)
noncomputable def c_show_table_1 : M EV := comp [1, 2, 3] (srcA (loc 0)) (gT (gsC (gN 1) (gsC (gN 2) (gsC (gN 3) gs0))) 3) yesT (fjs [(Pm.un opFmt (loc 1)), (con (.str " ")), (Pm.un opFmt (loc 2)), (con (.str " ")), (Pm.un opFmt (loc 3))] Str.empty)
noncomputable def b_show_table : M Fl := (rtn (smet1 opJoin (con (.str "; ")) c_show_table_1))
noncomputable def x_show_table : FSem := mkF 1 4 [] b_show_table
theorem str_int (i : Int) : Str.ofString (toString i) = T (intL i) := by
  refine TL.ext_tl ?_
  show TL.tl (Str.ofString (toString i)) = intL i
  by_cases h : i < 0
  · obtain ⟨m, rfl⟩ : ∃ m, i = Int.negSucc m := Int.eq_negSucc_of_lt_zero h
    have e : intL (Int.negSucc m) = 45 :: numL (m + 1) := by unfold intL; rw [if_pos h]; rfl
    rw [e]
    show (Str.ofString (toString (Int.negSucc m))).cps.toList = _
    rw [signs_ofString]
    show (Int.repr (Int.negSucc m)).toList.map Char.toNat = _
    rw [Int.repr_eq_if, if_neg (by omega), String.toList_append]
    rw [show (-(Int.negSucc m)).toNat = m + 1 from rfl]
    show 45 :: ((Nat.repr (m + 1)).toList.map Char.toNat) = _
    rw [Nat.toList_repr]
    rfl
  · have e : intL i = numL i.natAbs := by unfold intL; rw [if_neg h]
    have e2 : i = ((i.natAbs : Nat) : Int) := by omega
    rw [e]
    conv => lhs; rw [e2]
    exact TL.tl_num i.natAbs
theorem log_lt {i : Int} (h : i.natAbs < 2 ^ 1000) : i.natAbs.log2 < 1900 := by
  by_cases h0 : i.natAbs = 0
  · rw [h0]; decide
  · have := (Nat.log2_lt h0).mpr h
    omega
theorem fmt_int {i : Int} (h : i.natAbs < 2 ^ 1000) : opFmt [.int i] = some (.str (T (intL i))) := by
  have := log_lt h
  show (if i.natAbs.log2 < 1900 then some (D.str (Str.ofString (toString i))) else none) = _
  rw [if_pos this, str_int]
theorem fmt_str {l : List Nat} (h : l.length ≤ 1000000) : opFmt [.str (T l)] = some (.str (T l)) := by
  show (if (T l).length ≤ 1000000 then some (D.str (T l)) else none) = _
  rw [T_len, if_pos h]
theorem strs_T : ∀ xs : List (List Nat), strsD (xs.map fun l => D.str (T l)) = some (xs.map T)
  | [] => rfl
  | x :: xs => by rw [List.map_cons, strsD, strs_T xs]; rfl
theorem join_S (S : List Nat) (xs : List (List Nat)) : Txt.join (T S) (xs.map T) = T (joinL S xs) := by
  rw [TL.join_eq]
  refine TL.ext_tl ?_
  rw [TL.tl_join, List.map_map]
  have e : (xs.map (TL.tl ∘ T)) = xs := by
    induction xs with
    | nil => rfl
    | cons x xs ih => rw [List.map_cons, ih]; rfl
  rw [e]
  rfl
theorem joinS_ok (o : Bool) (S : List Nat) (xs : List (List Nat)) (h : (xs.map List.length).sum + xs.length * S.length ≤ 1000000) : opJoin [.str (T S), .node o .lst (xs.map fun l => D.str (T l))] = some (.str (T (joinL S xs))) := by
  show (match strsD (xs.map fun l => D.str (T l)) with | some ys => if (ys.map fun y : Str => y.length).sum + ys.length * (T S).length ≤ 1000000 then some (D.str (Txt.join (T S) ys)) else none | none => none) = _
  rw [strs_T]
  have e : ((xs.map T).map fun y : Str => y.length).sum = (xs.map List.length).sum := by rw [List.map_map]; rfl
  show (if ((xs.map T).map fun y : Str => y.length).sum + (xs.map T).length * (T S).length ≤ 1000000 then some (D.str (Txt.join (T S) (xs.map T))) else none) = _
  rw [e, List.length_map, T_len, if_pos h, join_S]
/-- a table's text -/
def tabL (t : List RowT) : List Nat := joinL [59, 32] (t.map entL)
def tailL : List RowT → List Nat
  | [] => []
  | r :: t => 59 :: 32 :: (entL r ++ tailL t)
theorem tabL_cons (r : RowT) (t : List RowT) : tabL (r :: t) = entL r ++ tailL t := by
  induction t generalizing r with
  | nil => show joinL [59, 32] [entL r] = _; simp [joinL, tailL]
  | cons s t ih =>
    have := ih s
    show joinL [59, 32] (entL r :: entL s :: t.map entL) = _
    unfold tabL at this
    rw [List.map_cons] at this
    show entL r ++ ([59, 32] ++ joinL [59, 32] (entL s :: t.map entL)) = _
    rw [this]
    simp [tailL]
structure Rws (t : List RowT) : Prop where
  n1 : 1 ≤ t.length
  n6 : t.length ≤ 6
  asc : (t.map (·.1)).Pairwise (· < ·)
  let1 : ∀ r ∈ t, 97 ≤ r.1 ∧ r.1 ≤ 122
  num : ∀ r ∈ t, -1000000000000 ≤ r.2.1 ∧ r.2.1 ≤ 1000000000000 ∧ -1000000000000 ≤ r.2.2 ∧ r.2.2 ≤ 1000000000000
theorem numL_small {n : Nat} (h : n ≤ 1000000000000) : (numL n).length ≤ 13 := numL_len (by decide) (by omega)
theorem intL_small {i : Int} (h1 : -1000000000000 ≤ i) (h2 : i ≤ 1000000000000) : (intL i).length ≤ 14 := by
  have := numL_small (n := i.natAbs) (by omega)
  unfold intL
  split
  · rw [List.length_cons]; omega
  · omega
theorem Rws.ent {t : List RowT} (h : Rws t) : ∀ r ∈ t, (entL r).length ≤ 31 := fun r hr => by
  have h2 := h.num r hr
  have a := intL_small h2.1 h2.2.1
  have b := intL_small h2.2.2.1 h2.2.2.2
  unfold entL
  simp only [List.length_cons, List.length_append]
  omega
theorem sum_le {c : Nat} : ∀ {xs : List (List Nat)}, (∀ x ∈ xs, x.length ≤ c) → (xs.map List.length).sum ≤ xs.length * c
  | [], _ => by simp
  | x :: xs, h => by
    have := sum_le (xs := xs) fun y hy => h y (by simp [hy])
    have h1 := h x (by simp)
    simp only [List.map_cons, List.sum_cons, List.length_cons, Nat.add_mul, Nat.one_mul]
    omega
theorem Rws.jn {t : List RowT} (h : Rws t) : ((t.map entL).map List.length).sum + (t.map entL).length * [59, 32].length ≤ 1000000 := by
  have := sum_le (c := 31) (xs := t.map entL) fun x hx => by
    obtain ⟨r, hr, rfl⟩ := List.mem_map.mp hx
    exact h.ent r hr
  rw [List.length_map] at this
  have := h.n6
  rw [List.length_map]
  show _ + t.length * 2 ≤ _
  have : t.length * 31 ≤ 6 * 31 := Nat.mul_le_mul_right _ h.n6
  omega
theorem tail_len {t : List RowT} (h : ∀ r ∈ t, (entL r).length ≤ 31) : (tailL t).length ≤ t.length * 33 := by
  induction t with
  | nil => simp [tailL]
  | cons r t ih =>
    have h1 := h r (by simp)
    have h2 := ih fun x hx => h x (by simp [hx])
    simp only [tailL, List.length_cons, List.length_append, Nat.add_mul, Nat.one_mul]
    omega
theorem Rws.len {t : List RowT} (h : Rws t) : (tabL t).length ≤ 1000 := by
  cases t with
  | nil => have := h.n1; simp at this
  | cons r t =>
    rw [tabL_cons, List.length_append]
    have h1 := h.ent r (by simp)
    have h2 := tail_len fun x hx => h.ent x (List.mem_cons_of_mem _ hx)
    have h3 := h.n6
    rw [List.length_cons] at h3
    have : t.length * 33 ≤ 5 * 33 := Nat.mul_le_mul_right _ (by omega)
    omega
theorem row_text {r : RowT} {t0 : Option D} (h1 : -1000000000000 ≤ r.2.1 ∧ r.2.1 ≤ 1000000000000 ∧ -1000000000000 ≤ r.2.2 ∧ r.2.2 ≤ 1000000000000) :
    fjs [(un opFmt (loc 1)), (con (.str (T [32]))), (un opFmt (loc 2)), (con (.str (T [32]))), (un opFmt (loc 3))] Str.empty [t0, some (sg r.1), some (.int r.2.1), some (.int r.2.2)] = .ok (.val (.str (T (entL r)))) [t0, some (sg r.1), some (.int r.2.1), some (.int r.2.2)] := by
  have f1 : opFmt [sg r.1] = some (.str (T [r.1])) := fmt_str (by simp)
  have f2 := fmt_int (i := r.2.1) (by have : (2:Nat)^1000 > 10 ^ 100 := by decide +kernel
                                      omega)
  have f3 := fmt_int (i := r.2.2) (by have : (2:Nat)^1000 > 10 ^ 100 := by decide +kernel
                                      omega)
  have a := intL_small h1.1 h1.2.1
  have b := intL_small h1.2.2.1 h1.2.2.2
  have e0 : Str.empty = T [] := rfl
  have j : ∀ x y : List Nat, x.length + y.length ≤ 1000000 → (T x ++ T y).length ≤ 1000000 := fun x y h => by
    rw [T_app, T_len, List.length_append]
    exact h
  have u1 : un opFmt (loc 1) [t0, some (sg r.1), some (.int r.2.1), some (.int r.2.2)] = .ok (.val (.str (T [r.1]))) [t0, some (sg r.1), some (.int r.2.1), some (.int r.2.2)] := by
    generalize sg r.1 = SG at *
    generalize opFmt = OF at *
    simp [mkF, reFrz, seq, Pm.ite, rtn, mov, asg, drp, sNx, bnd, Pm.bin, Pm.un, app, aCons, aNil, idx, loc, con, Pm.ret, peek1, peeks, itemOf, on2I, iAdd, iSub, iGt, iGe, iLt, iLe, iDiv, iMod, use1, useL, gI, gN, tst, andT, orT, notT, andE, orE, notE, ifE, ixN, D.frz, D.plain, plainL, argsBack, opLen, opAbs, opInt1, opNeg, disp, cap, callF, takes, puts, selA, sel, aApp, par, gT, gsC, gs0, appF, opDivmod, frzL, plainL, f1]
  have u2 : un opFmt (loc 2) [t0, some (sg r.1), some (.int r.2.1), some (.int r.2.2)] = .ok (.val (.str (T (intL r.2.1)))) [t0, some (sg r.1), some (.int r.2.1), some (.int r.2.2)] := by
    generalize sg r.1 = SG at *
    generalize opFmt = OF at *
    simp [mkF, reFrz, seq, Pm.ite, rtn, mov, asg, drp, sNx, bnd, Pm.bin, Pm.un, app, aCons, aNil, idx, loc, con, Pm.ret, peek1, peeks, itemOf, on2I, iAdd, iSub, iGt, iGe, iLt, iLe, iDiv, iMod, use1, useL, gI, gN, tst, andT, orT, notT, andE, orE, notE, ifE, ixN, D.frz, D.plain, plainL, argsBack, opLen, opAbs, opInt1, opNeg, disp, cap, callF, takes, puts, selA, sel, aApp, par, gT, gsC, gs0, appF, opDivmod, frzL, plainL, f2]
  have u3 : un opFmt (loc 3) [t0, some (sg r.1), some (.int r.2.1), some (.int r.2.2)] = .ok (.val (.str (T (intL r.2.2)))) [t0, some (sg r.1), some (.int r.2.1), some (.int r.2.2)] := by
    generalize sg r.1 = SG at *
    generalize opFmt = OF at *
    simp [mkF, reFrz, seq, Pm.ite, rtn, mov, asg, drp, sNx, bnd, Pm.bin, Pm.un, app, aCons, aNil, idx, loc, con, Pm.ret, peek1, peeks, itemOf, on2I, iAdd, iSub, iGt, iGe, iLt, iLe, iDiv, iMod, use1, useL, gI, gN, tst, andT, orT, notT, andE, orE, notE, ifE, ixN, D.frz, D.plain, plainL, argsBack, opLen, opAbs, opInt1, opNeg, disp, cap, callF, takes, puts, selA, sel, aApp, par, gT, gsC, gs0, appF, opDivmod, frzL, plainL, f3]
  have ee : T [r.1] ++ T [32] ++ T (intL r.2.1) ++ T [32] ++ T (intL r.2.2) = T (entL r) := by
    rw [T_app, T_app, T_app, T_app]
    congr 1
    simp [entL]
  have j1 := j [] [r.1] (by simp)
  have j2 := j [r.1] [32] (by simp)
  have j3 : (T [r.1] ++ T [32] ++ T (intL r.2.1)).length ≤ 1000000 := by rw [T_app]; exact j _ _ (by simp; omega)
  have j4 : (T [r.1] ++ T [32] ++ T (intL r.2.1) ++ T [32]).length ≤ 1000000 := by rw [T_app, T_app]; exact j _ _ (by simp; omega)
  have j5 : (T [r.1] ++ T [32] ++ T (intL r.2.1) ++ T [32] ++ T (intL r.2.2)).length ≤ 1000000 := by rw [T_app, T_app, T_app]; exact j _ _ (by simp; omega)
  have en : T [] ++ T [r.1] = T [r.1] := by rw [T_app]; rfl
  rw [e0]
  simp only [fjs, bnd, u1, u2, u3, con, Pm.ret, peek1]
  rw [if_pos j1, en, if_pos j2, if_pos j3, if_pos j4, if_pos j5, ee]
theorem show_ok {t : List RowT} (h : Rws t) : x_show_table [tabD t] = .ret (.str (T (tabL t))) [tabD t] := by
  have hc : c_show_table_1 [some (tabD t), none, none, none] = .ok (.val (.lst true ((t.map entL).map fun l => D.str (T l)))) [some (tabD t), none, none, none] := by
    have hs : srcA (loc 0) [some (tabD t), none, none, none] = .ok (t.map rowD) [some (tabD t), none, none, none] := by
      have pl := rows_plain t
      have fr := frzL_of_plain _ pl
      unfold tabD
      generalize t.map rowD = L at *
      simp [srcA, mkF, reFrz, seq, Pm.ite, rtn, mov, asg, drp, sNx, bnd, Pm.bin, Pm.un, app, aCons, aNil, idx, loc, con, Pm.ret, peek1, peeks, itemOf, on2I, iAdd, iSub, iGt, iGe, iLt, iLe, iDiv, iMod, use1, useL, gI, gN, tst, andT, orT, notT, andE, orE, notE, ifE, ixN, D.frz, D.plain, plainL, argsBack, opLen, opAbs, opInt1, opNeg, disp, cap, callF, takes, puts, selA, sel, aApp, par, gT, gsC, gs0, appF, opDivmod, frzL, plainL, fr]
    unfold c_show_table_1
    rw [comp_map (fun d => match d with | .node _ _ [.str x, .int a, .int b] => .str (T (entL (x.cps.toList.headD 0, a, b))) | d => d) hs rfl rfl (by rw [List.length_map]; have := h.n6; show _ ≤ 1000000; omega) fun d hd => ?_]
    · congr 3
      rw [List.map_map, List.map_map]
      rfl
    · obtain ⟨r, hr, rfl⟩ := List.mem_map.mp hd
      refine ⟨[some (tabD t), some (sg r.1), some (.int r.2.1), some (.int r.2.2)], rfl, Wp.of (a := true) rfl ⟨rfl, ?_⟩⟩
      rw [litb]
      exact Wp.of (row_text (h.num r hr)) ⟨_, rfl, rfl⟩
  have jo := joinS_ok true [59, 32] (t.map entL) h.jn
  have l2 : (("; " : String) : Str) = T [59, 32] := lit rfl
  have hw : Wf x_show_table [tabD t] fun d as => d = .str (T (tabL t)) ∧ as = [tabD t] := by
    have tp := tabD_plain t
    unfold x_show_table
    refine wf_mkF ?_
    unfold b_show_table
    rw [l2]
    show Wp _ [some (tabD t), none, none, none] _
    have et : tabL t = joinL [59, 32] (t.map entL) := rfl
    rw [et]
    generalize joinL [59, 32] (t.map entL) = JJ at *
    generalize (t.map entL).map (fun l => D.str (T l)) = LL at *
    generalize tabD t = TD at *
    generalize c_show_table_1 = C1 at *
    generalize opJoin = OJ at *
    refine wp_end fun K k1 k2 k3 k4 => ?_
    simp [Wp, smet1, mkF, reFrz, seq, Pm.ite, rtn, mov, asg, drp, sNx, bnd, Pm.bin, Pm.un, app, aCons, aNil, idx, loc, con, Pm.ret, peek1, peeks, itemOf, on2I, iAdd, iSub, iGt, iGe, iLt, iLe, iDiv, iMod, use1, useL, gI, gN, tst, andT, orT, notT, andE, orE, notE, ifE, ixN, D.frz, D.plain, plainL, argsBack, opLen, opAbs, opInt1, opNeg, disp, cap, callF, takes, puts, selA, sel, aApp, par, gT, gsC, gs0, appF, opDivmod, frzL, plainL, hc, jo]
    exact k2 _ _ ⟨[TD], by simp [argsBack, reFrz, tp], rfl, rfl⟩
  obtain ⟨d, as, e, rfl, rfl⟩ := hw
  exact e
end Sc
namespace Sc
open PySem PySem.Spec PyProof.Rows L2 Pm
open Pg (sg Tab rowD tabD abc_T rows_plain tabD_plain TabOk Fi)
open TL (numL numL_lt numL_step numL_digits numL_val numL_ne numL_inj numL_len joinL)
theorem init_ok (src : List Nat) : x_Scanner____init__ [.node true (.ins "Scanner" []) [], .str (T src)] = .ret .non [scD src 0, .str (T src)] := by
  have hw : Wf x_Scanner____init__ [.node true (.ins "Scanner" []) [], .str (T src)] fun d as => d = .non ∧ as = [scD src 0, .str (T src)] := by
    have i1 : opIsi [.str (T src), .op (.ty "str")] = some (.bl true) := isi_str rfl
    have s1 : setA 0 "Scanner" "source" (loc 1) [some (.node true (.ins "Scanner" []) []), some (.str (T src))] = .ok .nx [some (.node true (.ins "Scanner" (["source"] : List Str)) [.str (T src)]), some (.str (T src))] := by
      unfold setA
      have hl : loc 1 [some (.node true (.ins "Scanner" []) []), some (.str (T src))] = .ok (.ref 1) [some (.node true (.ins "Scanner" []) []), some (.str (T src))] := rfl
      simp only [bnd, hl]
      rfl
    have s2 : setA 0 "Scanner" "spot" (con (.int 0)) [some (.node true (.ins "Scanner" (["source"] : List Str)) [.str (T src)]), some (.str (T src))] = .ok .nx [some (scD src 0), some (.str (T src))] := by
      unfold setA
      have hl : con (.int 0) [some (.node true (.ins "Scanner" (["source"] : List Str)) [.str (T src)]), some (.str (T src))] = .ok (.val (.int 0)) [some (.node true (.ins "Scanner" (["source"] : List Str)) [.str (T src)]), some (.str (T src))] := rfl
      have ne : ¬ (("source" : Str) = ("spot" : Str)) := by decide +kernel
      have e1 : putN ("spot" : Str) (["source"] : List Str) = (["source", "spot"] : List Str) := by simp [putN, ne]
      have e2 : putX ("spot" : Str) (D.int 0) (["source"] : List Str) [D.str (T src)] = [.str (T src), .int 0] := by simp [putX, ne]
      have e0 : ([some (D.node true (.ins "Scanner" (["source"] : List Str)) [.str (T src)]), some (.str (T src))]).getD 0 none = some (.node true (.ins "Scanner" (["source"] : List Str)) [.str (T src)]) := rfl
      simp only [bnd, hl, use1, Pm.ret, e0]
      rw [if_pos ⟨trivial, by decide, rfl⟩, e1, e2]
      rfl
    have pl := scD_pl src 0
    unfold x_Scanner____init__
    refine wf_mkF ?_
    unfold b_Scanner____init__
    show Wp _ [some (.node true (.ins "Scanner" []) []), some (.str (T src))] _
    have g0 : Pm.ite (notT (tst (app opIsi (aCons (loc 1) (aCons (con (.op (.ty "str"))) aNil))))) (raise1 "InvalidText" "position" (con .non)) sNx [some (.node true (.ins "Scanner" []) []), some (.str (T src))] = .ok .nx [some (.node true (.ins "Scanner" []) []), some (.str (T src))] := by
      generalize T src = TS at *
      generalize opIsi = OI at *
      simp [mkF, reFrz, seq, Pm.ite, rtn, mov, asg, drp, sNx, bnd, Pm.bin, Pm.un, app, aCons, aNil, idx, loc, con, Pm.ret, peek1, peeks, itemOf, on2I, iAdd, iSub, iGt, iGe, iLt, iLe, iDiv, iMod, use1, useL, gI, gN, tst, andT, orT, notT, andE, orE, notE, ifE, ixN, D.frz, D.plain, plainL, argsBack, opLen, opAbs, opInt1, opNeg, disp, cap, callF, takes, puts, selA, sel, aApp, par, gT, gsC, gs0, appF, opDivmod, frzL, plainL, i1]
    refine wp_seq fun K k1 k2 k3 k4 => ?_
    refine Wp.of g0 (k1 _ ?_)
    clear k1 k2 k3 k4 K
    refine wp_seq fun K k1 k2 k3 k4 => ?_
    refine Wp.of s1 (k1 _ ?_)
    clear k1 k2 k3 k4 K
    refine wp_end fun K k1 k2 k3 k4 => ?_
    exact Wp.of s2 (k1 _ ⟨[scD src 0, .str (T src)], by simp [argsBack, reFrz, pl, D.plain], rfl, rfl⟩)
  obtain ⟨d, as, e, rfl, rfl⟩ := hw
  exact e
end Sc
namespace Pg
open PySem PySem.Spec PyProof.Rows L2 Pm
end Pg
namespace Sc
open PySem PySem.Spec PyProof.Rows L2 Pm
open Pg (sg rowD tabD abc_T rows_plain tabD_plain dr divS ABC)
open TL (numL joinL)
end Sc
namespace Sc
open PySem PySem.Spec PyProof.Rows L2 Pm
open Pg (sg rowD tabD)
open TL (numL joinL)
/-- the characters of a table's text -/
def Ch (c : Nat) : Prop := c = 32 ∨ c = 45 ∨ c = 59 ∨ (48 ≤ c ∧ c ≤ 57) ∨ (97 ≤ c ∧ c ≤ 122)
theorem int_ch (i : Int) : ∀ c ∈ intL i, Ch c := fun c hc => by
  have hd : ∀ n, ∀ c ∈ numL n, 48 ≤ c ∧ c ≤ 57 := fun n c hc => TL.numL_digits n c hc
  unfold intL at hc
  unfold Ch
  split at hc
  · rcases List.mem_cons.mp hc with rfl | hc
    · omega
    · have := hd _ c hc; omega
  · have := hd _ c hc; omega
theorem ent_ch {r : RowT} (h : 97 ≤ r.1 ∧ r.1 ≤ 122) : ∀ c ∈ entL r, Ch c := fun c hc => by
  have a := int_ch r.2.1
  have b := int_ch r.2.2
  unfold entL at hc
  simp only [List.mem_cons, List.mem_append] at hc
  rcases hc with rfl | rfl | hc | rfl | hc
  · unfold Ch; omega
  · unfold Ch; omega
  · exact a c hc
  · unfold Ch; omega
  · exact b c hc
theorem tail_ch {t : List RowT} (h : ∀ r ∈ t, 97 ≤ r.1 ∧ r.1 ≤ 122) : ∀ c ∈ tailL t, Ch c := by
  induction t with
  | nil => intro c hc; simp [tailL] at hc
  | cons r t ih =>
    intro c hc
    have a := ent_ch (h r (by simp))
    simp only [tailL, List.mem_cons, List.mem_append] at hc
    rcases hc with rfl | rfl | hc | hc
    · unfold Ch; omega
    · unfold Ch; omega
    · exact a c hc
    · exact ih (fun r hr => h r (by simp [hr])) c hc
theorem tab_ch {t : List RowT} (h : Rws t) : ∀ c ∈ tabL t, Ch c := fun c hc => by
  cases t with
  | nil => have := h.n1; simp at this
  | cons r t =>
    rw [tabL_cons, List.mem_append] at hc
    rcases hc with hc | hc
    · exact ent_ch (h.let1 r (by simp)) c hc
    · exact tail_ch (fun r hr => h.let1 r (by simp [hr])) c hc
theorem tab_ok {t : List RowT} (h : Rws t) : PyData.strOk (T (tabL t)) = true := Pg.strOk_T fun c hc => by
  have := tab_ch h c hc
  unfold Ch at this
  omega
theorem text_low {t : List RowT} (h : Rws t) {n : Nat} : low n (.str (T (tabL t))) = true := by
  cases n <;> exact tab_ok h
theorem ne_str (s : Str) : opNe [.str s, .str s] = some (.bl false) := by rw [ne_ss]; simp
end Sc
namespace Sc
open PySem PySem.Spec PyProof.Rows L2 Pm
open Pg (sg)
def oI : Option Nat → D
  | none => .non
  | some p => .int (p : Int)
end Sc
set_option maxHeartbeats 2000000
namespace Pm
open PySem PySem.Spec PyProof.Rows L2
/-- a step within a thing: a field, a written index, an index that stands in a slot -/
inductive PSt where
  | f (n f : Str) | c (c : Int) | v (k : Nat)
def idxF (f : Str) : List Str → Option Nat
  | [] => none
  | g :: r => if f == g then some 0 else (idxF f r).map (· + 1)
def posS (ρ : Env) (k : Kd) (len : Nat) : PSt → Option Nat
  | .f n f => match k with
    | .ins n' fs => if n' = n ∧ fs.length = len then idxF f fs else none
    | _ => none
  | .c c => match k with
    | .lst => ixN len c
    | .tup => ixN len c
    | _ => none
  | .v j => match ρ.getD j none with
    | some (.int c) => (match k with
      | .lst => ixN len c
      | .tup => ixN len c
      | _ => none)
    | _ => none
def resN (ρ : Env) : List PSt → D → Option (List Nat × D)
  | [], d => some ([], d)
  | s :: r, .node _ k xs => match posS ρ k xs.length s with
    | some i => match xs[i]? with
      | some d => match resN ρ r d with
        | some (p, e) => some (i :: p, e)
        | none => none
      | none => none
    | none => none
  | _, _ => none
def getN : List Nat → D → Option D
  | [], d => some d
  | i :: p, .node _ _ xs => match xs[i]? with
    | some d => getN p d
    | none => none
  | _, _ => none
def setN : List Nat → D → D → D
  | [], _, e => e
  | i :: p, .node o k xs, e => match xs[i]? with
    | some d => .node o k (xs.set i (setN p d e))
    | none => .node o k xs
  | _, d, _ => d
theorem res_get {ρ : Env} : ∀ {st : List PSt} {d : D} {p : List Nat} {e : D}, resN ρ st d = some (p, e) → getN p d = some e
  | [], d, p, e, h => by
    simp only [resN, Option.some.injEq, Prod.mk.injEq] at h
    obtain ⟨rfl, rfl⟩ := h
    rfl
  | s :: r, d, p, e, h => by
    cases d with
    | node o k xs =>
      simp only [resN] at h
      split at h
      · split at h
        · rename_i i hi _ d1 hd
          split at h
          · rename_i p1 e1 hr
            simp only [Option.some.injEq, Prod.mk.injEq] at h
            obtain ⟨rfl, rfl⟩ := h
            simp only [getN, hd]
            exact res_get hr
          · cases h
        · cases h
      · cases h
    | _ => simp [resN] at h
def ReachS (K : PySem.W.Frag) (H : Hp) (σ : Sl) : V → List PSt → V → Prop
  | v, [], w => v = w
  | v, .f n f :: r, w => ∃ a C dx kvs u, v = .ref a ∧ reg K n = some C ∧ H a = some (.ins C dx kvs) ∧ kvs.lookup f = some u ∧ ReachS K H σ u r w
  | v, .c c :: r, w => ∃ a ws u, v = .ref a ∧ (SqL K H a ws ∨ SqT K H a ws) ∧ atI ws c = some u ∧ ReachS K H σ u r w
  | v, .v k :: r, w => ∃ c, σ[k]? = some (some (.int c)) ∧ ∃ a ws u, v = .ref a ∧ (SqL K H a ws ∨ SqT K H a ws) ∧ atI ws c = some u ∧ ReachS K H σ u r w
theorem reach_snoc {K : PySem.W.Frag} {H : Hp} {σ : Sl} {s : PSt} {w : V} : ∀ {l : List PSt} {v : V}, ReachS K H σ v (l ++ [s]) w → ∃ u, ReachS K H σ v l u ∧ ReachS K H σ u [s] w
  | [], v, h => ⟨v, rfl, h⟩
  | .f n f :: l, v, h => by
    obtain ⟨a, C, dx, kvs, u, e1, e2, e3, e4, r⟩ := h
    obtain ⟨u', r1, r2⟩ := reach_snoc r
    exact ⟨u', ⟨a, C, dx, kvs, u, e1, e2, e3, e4, r1⟩, r2⟩
  | .c c :: l, v, h => by
    obtain ⟨a, ws, u, e1, e2, e3, r⟩ := h
    obtain ⟨u', r1, r2⟩ := reach_snoc r
    exact ⟨u', ⟨a, ws, u, e1, e2, e3, r1⟩, r2⟩
  | .v k :: l, v, h => by
    obtain ⟨c, e0, a, ws, u, e1, e2, e3, r⟩ := h
    obtain ⟨u', r1, r2⟩ := reach_snoc r
    exact ⟨u', ⟨c, e0, a, ws, u, e1, e2, e3, r1⟩, r2⟩
theorem idx_look {f : Str} {v : V} : ∀ {fs : List Str} {ys : List V} {i : Nat}, idxF f fs = some i → ys[i]? = some v → fs.length = ys.length → (fs.zip ys).lookup f = some v
  | [], ys, i, h, _, _ => by simp [idxF] at h
  | g :: fs, [], i, _, h, _ => by simp at h
  | g :: fs, y :: ys, i, h, hy, hl => by
    rw [List.zip_cons_cons, List.lookup_cons]
    unfold idxF at h
    cases e : f == g with
    | true =>
      simp only [e, if_true, Option.some.injEq] at h
      subst h
      simpa using hy
    | false =>
      simp only [e, Bool.false_eq_true, if_false] at h
      cases e2 : idxF f fs with
      | none => rw [e2] at h; simp at h
      | some k =>
        rw [e2] at h
        simp only [Option.map_some, Option.some.injEq] at h
        subst h
        exact idx_look e2 (by simpa using hy) (by simpa using hl)
section
variable {K : PySem.W.Frag} {mg : Str → Option Value} {W : WX} {Z Z' H H' : Hp} {S S' : Fp} {σ : Sl} {X : Cx} {A : Nat → Bool}
/-- how a step is seen in the heap -/
theorem step_reach {ρ : Env} {o : Bool} {k : Kd} {xs : List D} {s : PSt} {r : List PSt} {i : Nat} {a : Addr} {ys : List V} {y w : V} (hp : posS ρ k xs.length s = some i) (hl : xs.length = ys.length) (hy : ys[i]? = some y)
    (hv : ∀ q c, ρ.getD q none = some (.int c) → σ[q]? = some (some (.int c))) (hc : Frd K H a ys k) (rr : ReachS K H σ y r w) : ReachS K H σ (.ref a) (s :: r) w := by
  have sq : k = .lst ∨ k = .tup → (SqL K H a ys ∨ SqT K H a ys) := fun h => by
    rcases h with rfl | rfl
    · exact .inl (SqL.of hc)
    · exact .inr hc
  have at' : ∀ {c : Int}, ixN xs.length c = some i → atI ys c = some y := fun {c} h => by
    unfold atI
    rw [← hl, h]
    exact hy
  cases s with
  | f n f =>
    cases k with
    | ins n' fs =>
      simp only [posS] at hp
      split at hp
      · rename_i hh
        obtain ⟨rfl, hfl⟩ := hh
        obtain ⟨C, dx, h1, h2, h3⟩ := hc
        exact ⟨a, C, dx, fs.zip ys, y, rfl, h1, h3, idx_look hp hy h2, rr⟩
      · cases hp
    | _ => simp [posS] at hp
  | c c =>
    cases k with
    | lst => exact ⟨a, ys, y, rfl, sq (.inl rfl), at' hp, rr⟩
    | tup => exact ⟨a, ys, y, rfl, sq (.inr rfl), at' hp, rr⟩
    | _ => simp [posS] at hp
  | v q =>
    simp only [posS] at hp
    split at hp
    · rename_i c hq
      cases k with
      | lst => exact ⟨c, hv q c hq, a, ys, y, rfl, sq (.inl rfl), at' hp, rr⟩
      | tup => exact ⟨c, hv q c hq, a, ys, y, rfl, sq (.inr rfl), at' hp, rr⟩
      | _ => simp at hp
    · cases hp
/-- a thing within is taken out; how another one is put back, and how it is reached -/
theorem take_at (w0 : Sam Z H) : ∀ (p : List Nat) {d : D} {v : V} {S : Fp} {d' : D}, Rep K Z H d v S → getN p d = some d' →
    ∃ (w : V) (T C : Fp), Rep K Z H d' w T ∧ (∀ a, T a → S a) ∧ (∀ a, C a → S a) ∧ (∀ a, C a → T a → False) ∧
      (∀ (ρ : Env) (st : List PSt), (∀ q c, ρ.getD q none = some (.int c) → σ[q]? = some (some (.int c))) → resN ρ st d = some (p, d') → ReachS K H σ v st w) ∧
      ∀ (Z' H' : Hp) (e : D) (T' S' : Fp), Same Z Z' → (∀ a o, C a → H a = some o → H' a = some o) → Rep K Z' H' e w T' → (∀ a, C a → S' a) → (∀ a, T' a → S' a) → (∀ a, C a → T' a → False) → Rep K Z' H' (setN p d e) v S' := by
  intro p
  induction p with
  | nil =>
    intro d v S d' r h
    simp only [getN, Option.some.injEq] at h
    subst h
    refine ⟨v, S, Fp0, r, fun _ x => x, fun _ x => x.elim, fun _ x => x.elim, fun ρ st hv hr => ?_, fun Z' H' e T' S' z _ r' _ mT _ => r'.move (Same.refl _) (fun _ _ _ x => x) mT⟩
    cases st with
    | nil => rfl
    | cons s st =>
      cases d with
      | node o k xs =>
        simp only [resN] at hr
        split at hr
        · split at hr
          · split at hr
            · simp at hr
            · cases hr
          · cases hr
        · cases hr
      | _ => simp [resN] at hr
  | cons i p ih =>
    intro d v S d' r h
    cases d with
    | node o k xs =>
      simp only [getN] at h
      split at h
      · rename_i d1 hxi
        have up : ∀ e, setN (i :: p) (.node o k xs) e = .node o k (xs.set i (setN p d1 e)) := fun e => by
          rw [setN, hxi]
        have rs : ∀ (ρ : Env) (st : List PSt), resN ρ st (.node o k xs) = some (i :: p, d') → ∃ s st', st = s :: st' ∧ posS ρ k xs.length s = some i ∧ resN ρ st' d1 = some (p, d') := fun ρ st hr => by
          cases st with
          | nil => simp [resN] at hr
          | cons s st =>
            simp only [resN] at hr
            split at hr
            · rename_i i' hi
              split at hr
              · rename_i d2 hd2
                split at hr
                · rename_i p1 e1 hr1
                  simp only [Option.some.injEq, Prod.mk.injEq, List.cons.injEq] at hr
                  obtain ⟨⟨rfl, rfl⟩, rfl⟩ := hr
                  rw [hxi] at hd2
                  cases hd2
                  exact ⟨s, st, rfl, hi, hr1⟩
                · cases hr
              · cases hr
            · cases hr
        by_cases hot : o = true ∧ k ≠ .tup
        · obtain ⟨rfl, hk⟩ := hot
          rw [rep_own hk] at r
          obtain ⟨a, ws, S1, rfl, cc, sa, na, sub, rl⟩ := r
          obtain ⟨y, T1, T2, hy, t1, t2, tj, ry, put⟩ := rl.take hxi
          obtain ⟨w, T, C, rw', mT, mC, dC, rch, cl⟩ := ih ry h
          have hws : ws.set i y = ws := by
            obtain ⟨hl, el⟩ := List.getElem?_eq_some_iff.mp hy
            rw [← el, List.set_getElem_self]
          refine ⟨w, T, fun b => C b ∨ T2 b ∨ b = a, rw', fun b x => sub b (t1 b (mT b x)), fun b x => x.elim (fun z => sub b (t1 b (mC b z))) fun q => q.elim (fun z => sub b (t2 b z)) fun e => by rw [e]; exact sa, fun b x z => x.elim (fun q => dC b q z) fun q => q.elim (fun q => tj b (mT b z) q) fun e => na (by rw [← e]; exact t1 b (mT b z)), fun ρ st hv hr => ?_, ?_⟩
          · obtain ⟨s, st', rfl, hs, hr'⟩ := rs ρ st hr
            exact step_reach (o := true) hs rl.length hy hv cc.frd (rch ρ st' hv hr')
          · intro Z' H' e T' S2 z kp re mC' mT' dT'
            rw [up, rep_own hk]
            have r' := cl Z' H' e T' (fun b => C b ∨ T' b) z (fun b o x q => kp b o (.inl x) q) re (fun b x => .inl x) (fun b x => .inr x) fun b x y => dT' b (.inl x) y
            have pl := put Z' H' (setN p d1 e) y (fun b => C b ∨ T' b) (fun b => (C b ∨ T' b) ∨ T2 b) z (fun b o x q => kp b o (.inr (.inl x)) q) r' (fun b x => .inl x) (fun b x => .inr x) fun b x y => x.elim (fun q => tj b (mC b q) y) fun q => dT' b (.inr (.inl y)) q
            rw [hws] at pl
            refine ⟨a, ws, _, rfl, cc.same fun o q => kp a o (.inr (.inr rfl)) q, mC' a (.inr (.inr rfl)), fun x => ?_, fun b x => ?_, pl⟩
            · rcases x with (x | x) | x
              · exact na (t1 a (mC a x))
              · exact dT' a (.inr (.inr rfl)) x
              · exact na (t2 a x)
            · rcases x with (x | x) | x
              · exact mC' b (.inl x)
              · exact mT' b x
              · exact mC' b (.inr (.inl x))
        · have hf : ∃ a ws, v = .ref a ∧ Frd K H a ws k ∧ (∀ Z' H' ds S', Same Z Z' → RepL K Z' H' ds ws S' → Rep K Z' H' (.node o k ds) (.ref a) S') ∧ RepL K Z H xs ws S := by
            cases o with
            | false =>
              obtain ⟨a, ws, rfl, cc, rl⟩ := r
              exact ⟨a, ws, rfl, cc.sam w0, fun Z' H' ds S' z q => ⟨a, ws, rfl, cc.same z, q⟩, rl⟩
            | true =>
              have hk : k = .tup := Classical.byContradiction fun n => hot ⟨rfl, n⟩
              subst hk
              obtain ⟨a, ws, rfl, cc, rl⟩ := r
              exact ⟨a, ws, rfl, Pm.SqT.sam cc.1 w0, fun Z' H' ds S' z q => ⟨a, ws, rfl, ⟨Pm.SqT.same cc.1 z, cc.2.same z⟩, q⟩, rl⟩
          obtain ⟨a, ws, rfl, fr, mk, rl⟩ := hf
          obtain ⟨y, T1, T2, hy, t1, t2, tj, ry, put⟩ := rl.take hxi
          obtain ⟨w, T, C, rw', mT, mC, dC, rch, cl⟩ := ih ry h
          have hws : ws.set i y = ws := by
            obtain ⟨hl, el⟩ := List.getElem?_eq_some_iff.mp hy
            rw [← el, List.set_getElem_self]
          refine ⟨w, T, fun b => C b ∨ T2 b, rw', fun b x => t1 b (mT b x), fun b x => x.elim (fun z => t1 b (mC b z)) (t2 b), fun b x z => x.elim (fun q => dC b q z) fun q => tj b (mT b z) q, fun ρ st hv hr => ?_, ?_⟩
          · obtain ⟨s, st', rfl, hs, hr'⟩ := rs ρ st hr
            exact step_reach (o := o) hs rl.length hy hv fr (rch ρ st' hv hr')
          · intro Z' H' e T' S2 z kp re mC' mT' dT'
            rw [up]
            have r' := cl Z' H' e T' (fun b => C b ∨ T' b) z (fun b o x q => kp b o (.inl x) q) re (fun b x => .inl x) (fun b x => .inr x) fun b x y => dT' b (.inl x) y
            have pl := put Z' H' (setN p d1 e) y (fun b => C b ∨ T' b) S2 z (fun b o x q => kp b o (.inr x) q) r' (fun b x => x.elim (fun q => mC' b (.inl q)) (mT' b)) (fun b x => mC' b (.inr x)) fun b x y => x.elim (fun q => tj b (mC b q) y) fun q => dT' b (.inr y) q
            rw [hws] at pl
            exact mk Z' H' _ S2 z pl
      · cases h
    | _ => simp [getN] at h
theorem env_int {ρ : Env} {q : Nat} {c : Int} (er : EnvR K Z H ρ σ S) (h : ρ.getD q none = some (.int c)) : σ[q]? = some (some (.int c)) := by
  obtain ⟨v, S1, S2, hv, _, _, _, r, _⟩ := er.take (getD_some h)
  rw [hv]
  exact congrArg (fun z => some (some z)) r
/-- the thing put back -/
def focE (i j : Nat) (p : List Nat) (a : Addr) : Res Fl → Option (Fl × Env)
  | .ok fl ρ => match ρ.getD i none, ρ.getD j none with
    | some (.node true .lst zs), some d => match getN p d with
      | some (.op (.ref b)) => if b = a then some (fl, (ρ.set i none).set j (some (setN p d (.node true .lst zs)))) else none
      | _ => none
    | _, _ => none
  | _ => none
/-- the slot i names the list at the steps st within the slot j while m runs -/
noncomputable def foc (i j : Nat) (st : List PSt) (m : M Fl) : M Fl := fun ρ => match ρ.getD j none with
  | some d => match resN ρ st d with
    | some (p, .node true .lst zs) => open Classical in if h : (i ≠ j ∧ i < ρ.length) ∧ ∃ r, ∀ a : Addr, focE i j p a (m ((ρ.set j (some (setN p d (.op (.ref a))))).set i (some (.node true .lst zs)))) = some r then .ok (Classical.choose h.2).1 (Classical.choose h.2).2 else .stuck
    | _ => .stuck
  | none => .stuck
theorem foc_ok {i j : Nat} {st : List PSt} {m : M Fl} {ρ ρ2 : Env} {fl : Fl} {d : D} {p : List Nat} {zs : List D} (h1 : ρ.getD j none = some d) (h2 : resN ρ st d = some (p, .node true .lst zs)) (hij : i ≠ j) (hi : i < ρ.length)
    (h : ∀ a : Addr, focE i j p a (m ((ρ.set j (some (setN p d (.op (.ref a))))).set i (some (.node true .lst zs)))) = some (fl, ρ2)) : foc i j st m ρ = .ok fl ρ2 := by
  have hx : (i ≠ j ∧ i < ρ.length) ∧ ∃ r, ∀ a : Addr, focE i j p a (m ((ρ.set j (some (setN p d (.op (.ref a))))).set i (some (.node true .lst zs)))) = some r := ⟨⟨hij, hi⟩, _, h⟩
  have e : Classical.choose hx.2 = (fl, ρ2) := by
    have q := Classical.choose_spec hx.2 (0 : Nat)
    rw [h] at q
    exact (Option.some.inj q).symm
  unfold foc
  simp only [h1, h2]
  rw [dif_pos hx, e]
abbrev butA (A : Nat → Bool) (i : Nat) : Nat → Bool := fun k => A k && !(k == i)
theorem tS_foc {i j : Nat} {st : List PSt} {m : M Fl} {D : Ends} (hA : A i = true) (h : tS K mg W A (foc i j st m) D σ H) :
    ∃ v, σ[j]? = some (some v) ∧ ∃ w, ReachS K H σ v st w ∧ tS K mg W (butA A i) m D (σ.set i (some w)) H := by
  obtain ⟨Z, ρ, S, w, er, o⟩ := h
  simp only [foc] at o
  split at o
  · rename_i d h0
    split at o
    · rename_i p zs hr
      split at o
      · rename_i hx
        obtain ⟨⟨hij, hil⟩, hx2⟩ := hx
        obtain ⟨v, U1, U2, hv, u1, u2, uj, ru, eu⟩ := er.take (getD_some h0)
        obtain ⟨w0, T, C, rw', mT, mC, dC, rch, cl⟩ := take_at (σ := σ) w.same p ru (res_get hr)
        have rw2 := rw'
        obtain ⟨a, ys, T', rfl, _, _, _, _, _⟩ := rw2
        refine ⟨v, hv, .ref a, rch ρ st (fun q c e => env_int er e) hr, ?_⟩
        have hsp := Classical.choose_spec hx2 a
        generalize hR : Classical.choose hx2 = R at hsp o
        obtain ⟨hj, ej⟩ := List.getElem?_eq_some_iff.mp hv
        have es : σ.set j (some v) = σ := by rw [← ej, List.set_getElem_self]
        have hjl : j < ρ.length := by rw [er.length]; exact hj
        have rj : Rep K Z H (setN p d (.op (.ref a))) v C := cl Z H (.op (.ref a)) Fp0 C (Same.refl Z) (fun _ _ _ x => x) rfl (fun _ x => x) (fun _ x => x.elim) fun _ _ x => x
        have e1 := EnvR.put (S := fun b => C b ∨ U2 b) eu hjl rj (fun _ x => .inl x) (fun _ x => .inr x) fun b x y => uj b (mC b x) y
        rw [es] at e1
        have e2 := e1.drop i
        have e3 := EnvR.put (S := S) e2 (by rw [List.length_set]; exact hil) rw' (fun b x => u1 b (mT b x)) (fun b x => x.elim (fun y => u1 b (mC b y)) (u2 b)) fun b x y => y.elim (fun z => dC b z x) fun z => uj b (mT b x) z
        refine ⟨Z, _, S, w, e3, ?_⟩
        cases em : m ((ρ.set j (some (setN p d (.op (.ref a))))).set i (some (.node true .lst zs))) with
        | stuck => rw [em] at hsp; simp [focE] at hsp
        | exc x ρ1 => rw [em] at hsp; simp [focE] at hsp
        | ok fl ρ1 =>
          rw [em] at hsp
          simp only [focE] at hsp
          split at hsp
          · rename_i zs' d' hi' hj'
            split at hsp
            · rename_i b hg
              split at hsp
              · rename_i hb
                have hb' : a = b := hb.symm
                subst hb'
                cases hsp
                intro σ' v' Z' H' S' Sd kp stp dj er' flr
                refine o σ' v' Z' H' S' Sd ⟨fun k hk => ?_, kp.2.trans (List.length_set ..)⟩ stp dj ?_ flr
                · have hki : k ≠ i := fun e => by rw [e, hA] at hk; cases hk
                  rw [kp.1 k (by simp [hk]), List.getElem?_set_ne (Ne.symm hki)]
                · obtain ⟨vi, S1, S2, hvi, s1, s2, sj, ri, ei⟩ := er'.take (getD_some hi')
                  have hvi2 : σ'[i]? = (σ.set i (some (.ref a)))[i]? := kp.1 i (by simp)
                  have hil2 : i < σ.length := by rw [← er.length]; exact hil
                  rw [hvi, List.getElem?_set_self hil2] at hvi2
                  cases hvi2
                  have hj2 : (ρ1.set i none)[j]? = some (some d') := by rw [List.getElem?_set_ne hij]; exact getD_some hj'
                  obtain ⟨vj, V1, V2, hvj, v1, v2, vjj, rj', ej'⟩ := ei.take hj2
                  have w' : Sam Z' H' := stp.wd.same
                  obtain ⟨w1, T1, C1, rw1, mT1, mC1, dC1, _, cl1⟩ := take_at (σ := σ') w' p rj' hg
                  obtain rfl : w1 = V.ref a := rw1
                  have rn := cl1 Z' H' (.node true .lst zs') S1 (fun b => C1 b ∨ S1 b) (Same.refl Z') (fun _ _ _ x => x) ri (fun _ x => .inl x) (fun _ x => .inr x) fun b x y => sj b y (v1 b (mC1 b x))
                  obtain ⟨hj3, ej3⟩ := List.getElem?_eq_some_iff.mp hvj
                  have es3 : σ'.set j (some vj) = σ' := by rw [← ej3, List.set_getElem_self]
                  have hjl3 : j < (ρ1.set i none).length := (List.getElem?_eq_some_iff.mp hj2).1
                  have q := EnvR.put (S := S') ej' hjl3 rn (fun b x => x.elim (fun y => s2 b (v1 b (mC1 b y))) (s1 b)) (fun b x => s2 b (v2 b x)) fun b x y => x.elim (fun z => vjj b (mC1 b z) y) fun z => sj b z (v2 b y)
                  rw [es3] at q
                  exact q
              · cases hsp
            · cases hsp
          · cases hsp
      · exact o.elim
    · exact o.elim
  · exact o.elim
/-- an expression that is a path within a slot -/
def tPth (K : PySem.W.Frag) (j : Nat) (st : List PSt) : TE := fun σ H Q => ∃ v, σ[j]? = some (some v) ∧ ∃ w, ReachS K H σ v st w ∧ Q w H
theorem P_n {j : Nat} {x : Str} {p : Pos} (hj : X.N[j]? = some x := by rfl) (hv : Vis X.env.scope x := by first | exact Or.inl rfl | exact Or.inr (Or.inl rfl) | exact Or.inr (Or.inr rfl)) (hd : (x == ("__debug__" : Str)) = false := by decide) (hcd : (x == ("__classdict__" : Str)) = false := by decide) :
    PE X (.Name x p) (tPth X.K j []) := PE.of (pe_var hj hv hd hcd) fun σ H Q ⟨v, hv, w, r, q⟩ => by
  cases r
  exact ⟨v, hv, q⟩
theorem P_f {j : Nat} {n f : Str} {C : Addr} {st : List PSt} {e : Expr} {pos : Pos} (hC : reg X.K n = some C) (hc : Cls X.K C) (hn : NoAttr X.K C f) (he : PE X e (tPth X.K j st)) (hb : attributeBase e f X.env (eval e X.env) = eval e X.env := by rfl) : PE X (.Attribute e f pos) (tPth X.K j (st ++ [.f n f])) :=
  PE.of (pe_fld he hb) fun σ H Q ⟨v, hv, w, r, q⟩ => by
    obtain ⟨u, r1, a, C', dx, kvs, u2, rfl, h1, h2, h3, rfl⟩ := reach_snoc r
    rw [hC] at h1
    cases h1
    exact ⟨v, hv, _, r1, a, C, dx, kvs, u2, rfl, h2, hc, hn, h3, q⟩
theorem rIx_of {u w : V} {c : Int} {a : Addr} {ws : List V} {Q : VK} (e : u = .ref a) (sq : SqL K H a ws ∨ SqT K H a ws) (ha : atI ws c = some w) (q : Q w H) : rIx K u (.int c) H Q := by
  rcases sq with sq | sq
  · exact .inl ⟨a, ws, c, w, e, rfl, sq, ha, q⟩
  · exact .inr (.inl ⟨a, ws, c, w, e, rfl, sq, ha, q⟩)
theorem P_c {j : Nat} {c : Int} {st : List PSt} {e i : Expr} {pos : Pos} (he : PE X e (tPth X.K j st)) (hi : PE X i (tC (.int c))) (n1 : PlainIx i := by exact fun _ _ => rfl) : PE X (.Subscript e i pos) (tPth X.K j (st ++ [.c c])) :=
  PE.of (pe_ix ix_seq he hi n1) fun σ H Q ⟨v, hv, w, r, q⟩ => by
    obtain ⟨u, r1, a, ws, u2, e1, h2, h3, rfl⟩ := reach_snoc r
    exact ⟨v, hv, u, r1, rIx_of e1 h2 h3 q⟩
/-- x = path; and what follows -/
theorem B_foc {i j : Nat} {x : Str} {st : List PSt} {e : Expr} {rest : List Stmt} {m : M Fl} {pos pos' : Pos} (he : PE X e (tPth X.K j st)) (h2 : PSs X rest (tS X.K X.mg W (butA A i) m)) (hN : X.N.Nodup) (hA : A i = true := by rfl) (hi : X.N[i]? = some x := by rfl) (hx : Loc X.env.scope x := by first | exact .inl rfl | exact .inr rfl) (hs : swapsWith e (some (.Name x pos')) pos.line X.env = pure false := by rfl)
    (hf : X.fn x = true ∨ X.env.scope.names.lookup x = some .local := by first | exact .inl rfl | exact .inr rfl) : PSs X (.Assign [.Name x pos'] e pos :: rest) (tS X.K X.mg W A (foc i j st m)) :=
  PSs.of (pss_cons (ps_set hN hi hx he hs hf) h2) fun D σ H q => tS_foc hA q
end
end Pm
set_option maxHeartbeats 2000000
namespace Pm
open PySem PySem.Spec PyProof.Rows L2
section
variable {K : PySem.W.Frag} {mg : Str → Option Value} {W : WX} {Z Z' H H' : Hp} {S S' : Fp} {σ : Sl} {X : Cx} {A : Nat → Bool}
/-- the list at the end of a path is written -/
theorem wr_path {T0 : Fp} {ρ : Env} {st : List PSt} {j : Nat} {q : List Nat} {d0 : D} {zs : List D} (w : Sam Z H) (dj : ∀ a, S a → T0 a → False) (er : EnvR K Z H ρ σ S) (h0 : ρ.getD j none = some d0) (hr : resN ρ st d0 = some (q, .node true .lst zs)) :
    ∃ (v : V) (p : Addr) (ys : List V) (T : Fp), σ[j]? = some (some v) ∧ ReachS K H σ v st (.ref p) ∧ H p = some (.lst ys) ∧ ys.length = zs.length ∧ S p ∧ RepL K Z H zs ys T ∧ ¬ T p ∧ (∀ a, T a → S a) ∧
      ∀ (zs' : List D) (ys' : List V) (T' : Fp), RepL K Z (upd H p (.lst ys')) zs' ys' T' → (∀ a, T' a → T a ∨ T0 a) →
        ∃ S', (∀ a, S' a → S a ∨ T0 a) ∧ (∀ a, T a → S' a → T' a) ∧ EnvR K Z (upd H p (.lst ys')) (ρ.set j (some (setN q d0 (.node true .lst zs')))) σ S' := by
  obtain ⟨v, U1, U2, hv, u1, u2, uj, ru, eu⟩ := er.take (getD_some h0)
  obtain ⟨w0, T1, C, rw', mT, mC, dC, rch, cl⟩ := take_at (σ := σ) w q ru (res_get hr)
  obtain ⟨p, ys, T, rfl, c, sp, nT, sub, rl⟩ := rw'
  have hp : H p = some (.lst ys) := c
  refine ⟨v, p, ys, T, hv, rch ρ st (fun q c e => env_int er e) hr, hp, rl.length.symm, u1 p (mT p sp), rl, nT, fun a x => u1 a (mT a (sub a x)), fun zs' ys' T' rl' m' => ?_⟩
  have keep : ∀ {B : Fp}, (∀ a, B a → a = p → False) → ∀ a o, B a → H a = some o → upd H p (.lst ys') a = some o := fun {B} n a o b q => by rw [upd_ne fun z => n a b z]; exact q
  obtain ⟨hj, ej⟩ := List.getElem?_eq_some_iff.mp hv
  have es : σ.set j (some v) = σ := by rw [← ej, List.set_getElem_self]
  have hlen : j < ρ.length := by rw [er.length]; exact hj
  have nT' : ¬ T' p := fun x => (m' p x).elim nT fun y => dj p (u1 p (mT p sp)) y
  have rn := cl Z (upd H p (.lst ys')) (.node true .lst zs') (fun a => T' a ∨ a = p) (fun a => C a ∨ T' a ∨ a = p) (Same.refl Z) (keep (B := C) fun a x e => dC a x (by rw [e]; exact sp)) ⟨p, ys', T', rfl, upd_same, .inr rfl, nT', fun _ x => .inl x, rl'⟩ (fun _ x => .inl x) (fun _ x => .inr x) fun a x y => by
    rcases y with y | y
    · rcases m' a y with z | z
      · exact dC a x (sub a z)
      · exact dj a (u1 a (mC a x)) z
    · exact dC a x (by rw [y]; exact sp)
  have q2 := EnvR.put (S := fun a => (C a ∨ T' a ∨ a = p) ∨ U2 a) (eu.move (Same.refl Z) (keep fun a x e => uj p (mT p sp) (by rw [← e]; exact x)) fun _ x => x) hlen rn (fun _ x => .inl x) (fun _ x => .inr x) fun a x y => by
    rcases x with x | x | x
    · exact uj a (mC a x) y
    · rcases m' a x with z | z
      · exact uj a (mT a (sub a z)) y
      · exact dj a (u2 a y) z
    · exact uj p (mT p sp) (by rw [← x]; exact y)
  rw [es] at q2
  refine ⟨_, fun a x => ?_, fun a t x => ?_, q2⟩
  · rcases x with (x | x | x) | x
    · exact .inl (u1 a (mC a x))
    · exact (m' a x).elim (fun z => .inl (u1 a (mT a (sub a z)))) .inr
    · exact .inl (by rw [x]; exact u1 p (mT p sp))
    · exact .inl (u2 a x)
  · rcases x with (x | x | x) | x
    · exact (dC a x (sub a t)).elim
    · exact x
    · exact (nT (by rw [← x]; exact t)).elim
    · exact (uj a (mT a (sub a t)) x).elim
def popP (j : Nat) (st : List PSt) : M EV := fun ρ => match ρ.getD j none with
  | some d0 => match resN ρ st d0 with
    | some (p, .node true .lst zs) => match zs[zs.length - 1]? with
      | some d => .ok (.val d) (ρ.set j (some (setN p d0 (.node true .lst (zs.eraseIdx (zs.length - 1))))))
      | none => .stuck
    | _ => .stuck
  | none => .stuck
theorem tE_popP {j : Nat} {st : List PSt} {Q : VK} (h : tE K mg W (popP j st) σ H Q) : tBM0 K "list" rPop (tPth K j st) σ H Q := by
  obtain ⟨Z, ρ, S, w, er, o⟩ := h
  simp only [popP] at o
  split at o
  · rename_i d0 h0
    split at o
    · rename_i q zs hr
      split at o
      · rename_i d hd
        obtain ⟨v, p, ys, T, hv, rch, hp, hl, sp, rl, nT, mT, wr⟩ := wr_path (T0 := Fp0) w.same (fun _ _ x => x) er h0 hr
        obtain ⟨y, T1, T2, hy, t1, t2, tj, ry, rest⟩ := rl.erase hd
        have keep : ∀ {B : Fp}, (∀ a, B a → a = p → False) → ∀ a o, B a → H a = some o → upd H p (.lst (ys.eraseIdx (zs.length - 1))) a = some o := fun {B} n a o b q => by rw [upd_ne fun z => n a b z]; exact q
        have n1 : ∀ a, T a → a = p → False := fun a x y => nT (by rw [← y]; exact x)
        obtain ⟨S', m1, m2, er'⟩ := wr (zs.eraseIdx (zs.length - 1)) (ys.eraseIdx (zs.length - 1)) T2 (rest.move (Same.refl Z) (keep fun a x => n1 a (t2 a x)) fun _ x => x) fun a x => .inl (t2 a x)
        have rd : Rep K Z (upd H p (.lst (ys.eraseIdx (zs.length - 1)))) d y T1 := ry.move (Same.refl Z) (keep fun a x => n1 a (t1 a x)) fun _ x => x
        refine ⟨v, hv, .ref p, rch, .inl ⟨rfl, ys, SqL.of hp⟩, p, ys, y, rfl, rfl, hp, by rw [hl]; exact hy, ?_⟩
        rw [drop_erase, hl]
        exact o y Z _ S' T1 ((Step.write w sp).less fun a x => x.elim (fun y => (m1 a y).elim id False.elim) fun y => mT a (t1 a y)) (fun a x y => tj a y (m2 a (t1 a y) x)) er' rd
      · exact o.elim
    · exact o.elim
  · exact o.elim
theorem E_popP {j : Nat} {st : List PSt} {e : Expr} {apos cpos : Pos} (he : PE X e (tPth X.K j st)) (hbase : attributeBase e "pop" X.env (eval e X.env) = eval e X.env := by rfl) (hline : (apos.endLine == cpos.line) = true := by rfl) : PE X (.Call (.Attribute e "pop" apos) [] [] cpos) (tE X.K X.mg W (popP j st)) :=
  PE.of (pe_bm0 PySem.F.plainAttrs_list PySem.F.slot_list_pop PySem.F.type_list_pop mt_pop he hbase hline) fun _ _ _ q => tE_popP q
def appP (j : Nat) (st : List PSt) (fe : M EV) : M EV := fun ρ0 => match ρ0.getD j none with
  | some d0 => match resN ρ0 st d0 with
    | some (q, .node true .lst zs) => bnd fe (fun ev => bnd (use1 ev) fun d => fun ρ => if zs.length < cap ∧ ρ.length = ρ0.length ∧ ρ.getD j none = none then .ok (.val .non) (ρ.set j (some (setN q d0 (.node true .lst (zs ++ [d]))))) else .stuck) (ρ0.set j none)
    | _ => .stuck
  | none => .stuck
theorem tE_appP {j : Nat} {st : List PSt} {fe : M EV} {Q : VK} (h : tE K mg W (appP j st fe) σ H Q) :
    ∃ v, σ[j]? = some (some v) ∧ ∃ p ys, ReachS K H σ v st (.ref p) ∧ H p = some (.lst ys) ∧ tE K mg W fe σ H fun x H2 => rAppend (.ref p) [x] H2 Q := by
  obtain ⟨Z, ρ, S, w, er, o⟩ := h
  simp only [appP] at o
  split at o
  · rename_i d0 h0
    split at o
    · rename_i q zs hr
      obtain ⟨v, U1, U2, hv, u1, u2, uj, ru, eu⟩ := er.take (getD_some h0)
      obtain ⟨w0, T1, C, rw', mT1, mC, dC1, rch, cl0⟩ := take_at (σ := σ) w.same q ru (res_get hr)
      obtain ⟨p, ys, T, rfl, c, sp1, nT, sub, rz⟩ := rw'
      have hp : H p = some (.lst ys) := c
      have sp : U1 p := mT1 p sp1
      have mT : ∀ a, T a → U1 a := fun a x => mT1 a (sub a x)
      have nC : ¬ C p := fun x => dC1 p x sp1
      have dC : ∀ a, C a → T a → False := fun a x y => dC1 a x (sub a y)
      refine ⟨v, hv, p, ys, rch ρ st (fun q c e => env_int er e) hr, hp, Z, ρ.set j none, U2, w.less u2, eu, ?_⟩
      have w0 : Wd Z H (fun a => U2 a ∨ U1 a) := w.less fun a x => x.elim (u2 a) (u1 a)
      have d0' : ∀ a, U2 a → U1 a → False := fun a x y => uj a y x
      have toS : Step Z H S Z H (fun a => U2 a ∨ U1 a) := (Step.refl w).less fun a x => x.elim (u2 a) (u1 a)
      simp only [bnd] at o
      cases e1 : fe (ρ.set j none) with
      | stuck => rw [e1] at o; exact o
      | exc x ρ1 =>
        rw [e1] at o
        exact fun cls dd Z' H' S' st er' xr => o cls dd Z' H' S' ((toS.trans (st.frame w0 d0')).less fun a x => .inl x) er' xr
      | ok ev ρ1 =>
        simp only [e1] at o
        intro x Z1 H1 S1 Sa st1 dj1 er1 r1
        have st1F := st1.frame w0 d0'
        have ap1 := st1.apart (T := U1) (fun a x => w0.live a (.inr x)) d0'
        have hp1 : H1 p = some (.lst ys) := st1.fr p _ (fun x => d0' p x sp) hp nt_lst
        cases e2 : use1 ev ρ1 with
        | stuck => rw [e2] at o; exact o.elim
        | exc x ρ2 => exact absurd e2 use1_noexc
        | ok d ρ2 =>
          simp only [e2] at o
          obtain ⟨Z2, S2, st2, m2, er2, r2⟩ := use1_ok st1F.wd dj1 ap1 er1 r1 e2
          split at o
          · rename_i hc
            obtain ⟨hc1, hc2, hc3⟩ := hc
            have hzl : ys.length = zs.length := rz.length.symm
            refine ⟨p, ys, x, rfl, rfl, hp1, by rw [hzl]; exact Nat.lt_trans hc1 (by rw [sizeLine_eq]; decide), ?_⟩
            have keep : ∀ {B : Fp}, (∀ a, B a → a = p → False) → ∀ a o, B a → H1 a = some o → upd H1 p (.lst (ys ++ [x])) a = some o := fun {B} n a o b q => by rw [upd_ne fun z => n a b z]; exact q
            have apS2 : ∀ a, S2 a → U1 a → False := fun a x y => ap1 a (.inl (m2 a x)) y
            have apSa : ∀ a, Sa a → U1 a → False := fun a x y => ap1 a (.inr x) y
            have wr : Step Z2 H1 (fun a => (S2 a ∨ Sa a) ∨ U1 a) Z2 (upd H1 p (.lst (ys ++ [x]))) (fun a => (S2 a ∨ Sa a) ∨ U1 a) := Step.write st2.wd (.inr sp)
            have zz : Same Z Z2 := st1.zz.trans st2.zz
            have U1keep : ∀ a o, U1 a → H a = some o → H1 a = some o := fun a o x q => st1.fr a o (fun z => d0' a z x) q (by
              obtain ⟨o', e', n⟩ := w.own a (u1 a x)
              rw [q] at e'
              cases e'
              exact n.1)
            have rz' : RepL K Z2 (upd H1 p (.lst (ys ++ [x]))) zs ys T := rz.move zz (fun a o t q => keep (B := T) (fun b x e => nT (by rw [← e]; exact x)) a o t (U1keep a o (mT a t) q)) fun _ x => x
            have rx' : Rep K Z2 (upd H1 p (.lst (ys ++ [x]))) d x Sa := r2.move (Same.refl _) (keep fun a y e => apSa p (by rw [← e]; exact y) sp) fun _ x => x
            have pl : RepL K Z2 (upd H1 p (.lst (ys ++ [x]))) (zs ++ [d]) (ys ++ [x]) (fun a => T a ∨ Sa a) := RepL.append rz' ⟨Sa, Fp0, fun _ x => x, fun _ x => x.elim, fun _ _ x => x, rx', trivial⟩ (fun _ x => .inl x) (fun _ x => .inr x) fun a y z => apSa a z (mT a y)
            have rn := cl0 Z2 (upd H1 p (.lst (ys ++ [x]))) (.node true .lst (zs ++ [d])) (fun a => (T a ∨ Sa a) ∨ a = p) (fun a => U1 a ∨ Sa a) zz (fun a o c q => keep (B := C) (fun b y e => nC (by rw [← e]; exact y)) a o c (U1keep a o (mC a c) q)) ⟨p, ys ++ [x], _, rfl, upd_same, .inr rfl, fun y => y.elim nT fun z => apSa p z sp, fun _ y => .inl y, pl⟩ (fun a y => .inl (mC a y)) (fun a y => by
              rcases y with (y | y) | y
              · exact .inl (mT a y)
              · exact .inr y
              · exact .inl (by rw [y]; exact sp)) fun a y z => by
              rcases z with (z | z) | z
              · exact dC a y z
              · exact apSa a z (mC a y)
              · exact nC (by rw [← z]; exact y)
            obtain ⟨hj, ej⟩ := List.getElem?_eq_some_iff.mp hv
            have es : σ.set j (some v) = σ := by rw [← ej, List.set_getElem_self]
            have hlen : j < ρ2.length := by rw [hc2, er.length]; exact hj
            have er3 : EnvR K Z2 (upd H1 p (.lst (ys ++ [x]))) (ρ2.set j none) σ S2 := by
              rw [getD_none_set hc3 hlen]
              exact er2.move (Same.refl _) (keep fun a y e => apS2 p (by rw [← e]; exact y) sp) fun _ x => x
            have q := EnvR.put (S := fun a => S2 a ∨ (U1 a ∨ Sa a)) er3 hlen rn (fun _ x => .inr x) (fun _ x => .inl x) fun a y z => y.elim (apS2 a z) fun s => dj1 a (m2 a z) s
            rw [es] at q
            refine o .non Z2 _ (fun a => S2 a ∨ (U1 a ∨ Sa a)) Fp0 ((((toS.trans st1F).trans st2).trans wr).less fun a y => ?_) (fun _ _ x => x) q rfl
            rcases y with (y | y | y) | y
            · exact .inl (.inl y)
            · exact .inr y
            · exact .inl (.inr y)
            · exact y.elim
          · exact o.elim
    · exact o.elim
  · exact o.elim
theorem E_appP {j : Nat} {st : List PSt} {o e : Expr} {fe : M EV} {apos cpos : Pos} (ho : PE X o (tPth X.K j st)) (he : PE X e (tE X.K X.mg W fe))
    (hbase : attributeBase o "append" X.env (eval o X.env) = eval o X.env := by rfl)
    (hfew : ((backTo cpos (starEach [e] X.env)).all (fun x => !x.1) && (backToKw cpos (keywordEach [] X.env)).all (fun x => x.1.isSome)
      && decide ([e].length + ([] : List Keyword).length + (if ([] : List Keyword).isEmpty then 0 else 1) < 30)) = true := by rfl)
    (hline : (apos.endLine == cpos.line) = true := by rfl) (hs : starEach [e] X.env = (false, eval e X.env) :: starEach [] X.env := by rfl) (hplain : (backTo cpos (starEach [] X.env)).any (·.1) = false := by rfl) :
    PE X (.Call (.Attribute o "append" apos) [e] [] cpos) (tE X.K X.mg W (appP j st fe)) :=
  PE.of (pe_bm PySem.F.plainAttrs_list PySem.F.slot_list_append PySem.F.type_list_append mt_append ho (pa_cons he pa_nil hs) hbase hfew hline hs hplain) fun σ H Q q => by
    obtain ⟨v, hv, p, ys, rch, hp, q'⟩ := tE_appP q
    exact ⟨v, hv, .ref p, rch, .inl ⟨rfl, ys, SqL.of hp⟩, q'⟩
def gP (j : Nat) (st : List PSt) (k : Nat) (st2 : List PSt) : Tg := fun d ρ => match ρ.getD j none, ρ.getD k none with
  | some d0, some d1 => match resN ρ st d0, resN ρ st2 d1 with
    | some (q, .node true .lst xs), some (_, .int c) => match ixN xs.length c with
      | some i => .ok () (ρ.set j (some (setN q d0 (.node true .lst (xs.set i d)))))
      | none => .stuck
    | _, _ => .stuck
  | _, _ => .stuck
theorem tG_P {j k : Nat} {st st2 : List PSt} {v : V} {Q : Sl → Hp → Prop} (h : tG K A (gP j st k st2) v σ H Q) : gSub (tPth K j st) (tPth K k st2) rSetL v σ H Q := by
  obtain ⟨Z, ρ, S, Sd, d, w, dj, er, r, o⟩ := h
  cases h0 : ρ.getD j none with
  | none => simp only [gP, h0] at o
  | some d0 =>
    cases h1 : ρ.getD k none with
    | none => simp only [gP, h0, h1] at o
    | some d1 =>
      cases hr : resN ρ st d0 with
      | none => simp only [gP, h0, h1, hr] at o
      | some qd =>
        obtain ⟨q, nd⟩ := qd
        cases hr2 : resN ρ st2 d1 with
        | none => simp only [gP, h0, h1, hr, hr2] at o
        | some qd2 =>
          obtain ⟨q2, nd2⟩ := qd2
          simp only [gP, h0, h1, hr, hr2] at o
          split at o
          · rename_i _ ρ' hm
            split at hm
            · rename_i q' xs _ c e1 e2
              cases e1
              cases e2
              split at hm
              · rename_i i hi
                cases hm
                obtain ⟨u, p, ys, T, hv, rch, hp, hl, sp, rl, nT, mT, wr⟩ := wr_path (T0 := Sd) w.same dj er h0 hr
                obtain ⟨u2, V1, V2, hv2, _, _, _, ru2, _⟩ := er.take (getD_some h1)
                obtain ⟨w2, _, _, rw2, _, _, _, rch2, _⟩ := take_at (σ := σ) w.same q2 ru2 (res_get hr2)
                obtain rfl : w2 = .int c := rw2
                refine ⟨u, hv, .ref p, rch, u2, hv2, .int c, rch2 ρ st2 (fun q c e => env_int er e) hr2, p, ys, c, i, rfl, rfl, hp, by rw [hl]; exact hi, ?_⟩
                have il : i < xs.length := (ixN_seq hi).2.1
                obtain ⟨y, T1, T2, hy, t1, t2, tj, ry, put⟩ := rl.take (List.getElem?_eq_getElem il)
                have keep : ∀ {B : Fp}, (∀ a, B a → a = p → False) → ∀ a o, B a → H a = some o → upd H p (.lst (ys.set i v)) a = some o := fun {B} n a o b q => by rw [upd_ne fun z => n a b z]; exact q
                have n1 : ∀ a, T a → a = p → False := fun a x y => nT (by rw [← y]; exact x)
                have nd : ∀ a, Sd a → a = p → False := fun a x y => dj p sp (by rw [← y]; exact x)
                have pl := put Z (upd H p (.lst (ys.set i v))) d v Sd (fun a => T2 a ∨ Sd a) (Same.refl Z) (fun a o x q => keep (B := T2) (fun b z => n1 b (t2 b z)) a o x q) (r.move (Same.refl Z) (keep nd) fun _ x => x) (fun _ x => .inr x) (fun _ x => .inl x) fun a x y => dj a (mT a (t2 a y)) x
                obtain ⟨S', m1, m2, er'⟩ := wr (xs.set i d) (ys.set i v) (fun a => T2 a ∨ Sd a) pl fun a x => x.elim (fun y => .inl (t2 a y)) .inr
                have st2' : Step Z H (fun a => S a ∨ Sd a) Z (upd H p (.lst (ys.set i v))) (fun a => S a ∨ Sd a) := Step.write w (.inl sp)
                exact o σ Z _ S' (Keep.refl σ) (st2'.less m1) er'
              · cases hm
            · cases hm
          · exact o.elim
theorem G_P {j k : Nat} {st st2 : List PSt} {o b : Expr} {pos : Pos} (ho : PE X o (tPth X.K j st)) (hb : PE X b (tPth X.K k st2))
    (ha : ∀ v, assign (.Subscript o b pos) X.env v = (do
      let ov ← holding [v] (eval o X.env)
      let iv ← holding [v, ov] (eval b X.env)
      standAt pos
      holding [v, ov, iv] (setItem ov iv v)
      release [v, ov, iv] []) := by intro _; rfl) : PG X (.Subscript o b pos) (tG X.K A (gP j st k st2)) := PG.of (pg_sub ho hb set_list ha) fun _ _ _ _ q => tG_P q
end
end Pm
set_option maxHeartbeats 2000000
namespace Pm
open PySem PySem.Spec PyProof.Rows L2
def app1P (g : List D → Option D) (j : Nat) (st : List PSt) : M EV := fun ρ => match ρ.getD j none with
  | some d0 => match resN ρ st d0 with
    | some (_, dl) => match g [dl] with
      | some d => .ok (.val d) ρ
      | none => .stuck
    | none => .stuck
  | none => .stuck
def binP (g : List D → Option D) (j : Nat) (st : List PSt) (fe : M EV) : M EV := fun ρ0 => match ρ0.getD j none with
  | some d0 => match resN ρ0 st d0 with
    | some (_, dl) => bnd fe (fun ev => fun ρ => match peek1 ρ ev with
      | some d => if ρ.length = ρ0.length ∧ ρ.getD j none = none then (match g [dl, d] with
        | some r => .ok (.val r) (ρ.set j (some d0))
        | none => .stuck) else .stuck
      | none => .stuck) (ρ0.set j none)
    | none => .stuck
  | none => .stuck
section
variable {W : WX} {Z Z' H H' : Hp} {S S' : Fp} {σ : Sl} {X : Cx} {A : Nat → Bool}
theorem tE_app1P {r : List V → Hp → VK → Prop} {g : List D → Option D} {j : Nat} {st : List PSt} {Q : VK} (hs : Snd X r g) (h : tE X.K X.mg W (app1P g j st) σ H Q) : tPth X.K j st σ H fun v H1 => r [v] H1 Q := by
  obtain ⟨Z, ρ, S, w, er, o⟩ := h
  simp only [app1P] at o
  split at o
  · rename_i d0 h0
    split at o
    · rename_i q dl hr
      split at o
      · rename_i d hg
        obtain ⟨v, U1, U2, hv, u1, u2, uj, ru, eu⟩ := er.take (getD_some h0)
        obtain ⟨w0, T1, C, rw', mT, mC, dC, rch, _⟩ := take_at (σ := σ) w.same q ru (res_get hr)
        refine ⟨v, hv, w0, rch ρ st (fun q c e => env_int er e) hr, ?_⟩
        exact hs Z H S [dl] [w0] d Q w ⟨rw'.move (Same.refl Z) (fun _ _ _ x => x) fun a x => u1 a (mT a x), trivial⟩ hg fun v Z2 H2 Sd st2 sm dj2 rd => o v Z2 H2 S Sd st2 dj2 (er.move st2.zz (fun a ob _ e => sm a ob e) fun _ x => x) rd
      · exact o.elim
    · exact o.elim
  · exact o.elim
theorem tE_binP {r : R2} {g : List D → Option D} {j : Nat} {st : List PSt} {fe : M EV} {Q : VK} (hs : Snd X (fun vs H Q => ∃ x y, vs = [x, y] ∧ r x y H Q) g) (h : tE X.K X.mg W (binP g j st fe) σ H Q) : tPth X.K j st σ H fun v H1 => tE X.K X.mg W fe σ H1 fun y H2 => r v y H2 Q := by
  obtain ⟨Z, ρ, S, w, er, o⟩ := h
  simp only [binP] at o
  split at o
  · rename_i d0 h0
    split at o
    · rename_i q dl hr
      obtain ⟨v, U1, U2, hv, u1, u2, uj, ru, eu⟩ := er.take (getD_some h0)
      obtain ⟨w0, T1, C, rw', mT, mC, dC, rch, _⟩ := take_at (σ := σ) w.same q ru (res_get hr)
      refine ⟨v, hv, w0, rch ρ st (fun q c e => env_int er e) hr, Z, ρ.set j none, U2, w.less u2, eu, ?_⟩
      have wU : Wd Z H (fun a => U2 a ∨ U1 a) := w.less fun a x => x.elim (u2 a) (u1 a)
      have d0' : ∀ a, U2 a → U1 a → False := fun a x y => uj a y x
      have toS : Step Z H S Z H (fun a => U2 a ∨ U1 a) := (Step.refl w).less fun a x => x.elim (u2 a) (u1 a)
      simp only [bnd] at o
      cases e1 : fe (ρ.set j none) with
      | stuck => rw [e1] at o; exact o
      | exc x ρ1 =>
        rw [e1] at o
        exact fun cls dd Z' H' S' st er' xr => o cls dd Z' H' S' ((toS.trans (st.frame wU d0')).less fun a x => .inl x) er' xr
      | ok ev ρ1 =>
        simp only [e1] at o
        intro y Z1 H1 S1 Sa st1 dj1 er1 r1
        have st1F := st1.frame wU d0'
        have ap1 := st1.apart (T := U1) (fun a x => wU.live a (.inr x)) d0'
        cases hp : peek1 ρ1 ev with
        | none => simp only [hp] at o; exact o.elim
        | some d =>
          simp only [hp] at o
          split at o
          · rename_i hc
            obtain ⟨hc2, hc3⟩ := hc
            cases hg : g [dl, d] with
            | none => simp only [hg] at o; exact o.elim
            | some rd0 =>
              simp only [hg] at o
              have U1keep : ∀ a o, U1 a → H a = some o → H1 a = some o := fun a o x q => st1.fr a o (fun z => d0' a z x) q (by
                obtain ⟨o', e', n⟩ := w.own a (u1 a x)
                rw [q] at e'
                cases e'
                exact n.1)
              have ru1 : Rep X.K Z1 H1 d0 v U1 := ru.move st1.zz U1keep fun _ x => x
              have rl1 : Rep X.K Z1 H1 dl w0 U1 := rw'.move st1.zz (fun a o x q => U1keep a o (mT a x) q) mT
              have ry := peek1_rep er1 r1 hp
              have hsn := hs Z1 H1 (fun a => (S1 a ∨ Sa a) ∨ U1 a) [dl, d] [w0, y] rd0 Q st1F.wd ⟨rl1.move (Same.refl _) (fun _ _ _ x => x) fun _ x => .inr x, ry.move (Same.refl _) (fun _ _ _ x => x) fun _ x => .inl x, trivial⟩ hg fun v2 Z2 H2 Sd st2 sm dj2 rd => ?_
              · obtain ⟨x', y', ev', q⟩ := hsn
                cases ev'
                exact q
              · obtain ⟨hj, ej⟩ := List.getElem?_eq_some_iff.mp hv
                have es : σ.set j (some v) = σ := by rw [← ej, List.set_getElem_self]
                have hlen : j < ρ1.length := by rw [hc2, er.length]; exact hj
                have er3 : EnvR X.K Z2 H2 (ρ1.set j none) σ S1 := by
                  rw [getD_none_set hc3 hlen]
                  exact er1.move st2.zz (fun a ob _ e => sm a ob e) fun _ x => x
                have q := EnvR.put (S := fun a => S1 a ∨ U1 a) er3 hlen (ru1.move st2.zz (fun a ob _ e => sm a ob e) fun _ x => x) (fun _ x => .inr x) (fun _ x => .inl x) fun a x z => ap1 a (.inl z) x
                rw [es] at q
                refine o v2 Z2 H2 (fun a => S1 a ∨ U1 a) Sd (((toS.trans st1F).trans st2).less fun a x => ?_) (fun a x z => dj2 a (x.elim (fun y => .inl (.inl y)) .inr) z) q rd
                rcases x with (x | x) | x
                · exact .inl (.inl (.inl x))
                · exact .inl (.inr x)
                · exact .inr x
          · exact o.elim
    · exact o.elim
  · exact o.elim
variable {j : Nat} {st : List PSt} {e b : Expr} {p pos : Pos}
theorem E_bl1P {x : Str} {id : String} {r : List V → Hp → VK → Prop} {g : List D → Option D} (hs : Snd X r g) (hc : CallR X (.builtin id) r) (hm : X.mg x = none) (he : PE X e (tPth X.K j st)) (hv : bootBuiltins x = some (.builtin id) := by first | exact PySem.boot_len | rfl) (hg : Gl X x := by rfl)
    (hn : x ≠ "__name__" := by decide) (hdb : (x == ("__debug__" : Str)) = false := by decide) (hst : starEach [e] X.env = (false, eval e X.env) :: starEach [] X.env := by rfl) (hpl : (backTo pos (starEach [] X.env)).any (·.1) = false := by rfl) :
    PE X (.Call (.Name x p) [e] [] pos) (tE X.K X.mg W (app1P g j st)) := PE.of (pe_callB hc hg hm hv (pa_cons he pa_nil hst) hn hdb hst hpl) fun σ H Q h => tE_app1P hs h
theorem E_ty1P {x : Str} {T : String} {r : List V → Hp → VK → Prop} {g : List D → Option D} (hs : Snd X r g) (hc : CallR X (.type T) r) (hm : X.mg x = none) (he : PE X e (tPth X.K j st)) (hv : bootBuiltins x = some (.type T) := by rfl) (hg : Gl X x := by rfl)
    (hn : x ≠ "__name__" := by decide) (hdb : (x == ("__debug__" : Str)) = false := by decide) (hst : starEach [e] X.env = (false, eval e X.env) :: starEach [] X.env := by rfl) (hpl : (backTo pos (starEach [] X.env)).any (·.1) = false := by rfl) :
    PE X (.Call (.Name x p) [e] [] pos) (tE X.K X.mg W (app1P g j st)) := PE.of (pe_callTy hc hg hm hv (pa_cons he pa_nil hst) hn hdb hst hpl) fun σ H Q h => tE_app1P hs h
theorem E_cmpP {op : CmpOp} {g : List D → Option D} {fb : M EV} (ho : Opd X (compareOp op) g) (he : PE X e (tPth X.K j st)) (hb : PE X b (tE X.K X.mg W fb)) (hm : behindInMarks op b = false := by first | exact nomark _ | rfl) : PE X (.Compare e [op] [b] pos) (tE X.K X.mg W (binP g j st fb)) := by
  obtain ⟨r, h1, h2⟩ := ho
  exact PE.of (pe_cmpR h1 he hb hm) fun σ H Q q => tE_binP h2 q
end
end Pm
namespace Sc
open PySem PySem.Spec PyProof.Rows L2 Pm
open Pg (sg)
noncomputable def b_Growing____init__ : M Fl := (seq (setA 0 "Growing" "signs" (con (.str "")))
    (seq (setA 0 "Growing" "above" (disp true .lst aNil))
    (setA 0 "Growing" "parts" (disp true .lst (aCons (disp true .lst aNil) aNil)))))
noncomputable def x_Growing____init__ : FSem := mkF 1 1 [] b_Growing____init__
noncomputable def b_Growing__put_part : M Fl := (foc 2 0 [.f "Growing" "parts", .c (-1)] (seq (Pm.ite (andT (tst (Pm.bin opNe (loc 2) (disp true .lst aNil))) (tst (Pm.bin opNotN (loc 1) (con .non)))) (asg (idx (aCons (loc 2) (aCons (con (.int 1)) aNil))) (gP 0 [.f "Growing" "above"] 1 [])) sNx)
    (drp (appd 2 (loc 1)))))
noncomputable def x_Growing__put_part : FSem := mkF 2 3 [] b_Growing__put_part
noncomputable def b_Growing__close : M Fl := (seq (asg (popP 0 [.f "Growing" "parts"]) (gN 1))
    (drp (callF x_Growing__put_part (aCons (chk "Growing" "put_part" (loc 0)) (aCons (idx (aCons (loc 1) (aCons (con (.int 1)) aNil))) aNil)))))
noncomputable def x_Growing__close : FSem := mkF 1 2 [] b_Growing__close
noncomputable def b_Growing__put_operator : M Fl := (foc 2 0 [.f "Growing" "parts", .c (-1)] (seq (Pm.ite (tst (Pm.bin opNotN (idx (aCons (loc 2) (aCons (con (.int 0)) aNil))) (con .non))) (asg (app opLen (aCons (fldE "Growing" "signs" (loc 0)) aNil)) (gP 0 [.f "Growing" "above"] 2 [.c 0])) sNx)
    (seq (drp (appd 2 (app opLen (aCons (fldE "Growing" "signs" (loc 0)) aNil))))
    (seq (augA 0 "Growing" "signs" gAdd (loc 1))
    (drp (appP 0 [.f "Growing" "above"] (con .non)))))))
noncomputable def x_Growing__put_operator : FSem := mkF 2 3 [] b_Growing__put_operator
noncomputable def b_Growing__put : M Fl := (Pm.ite (tst (Pm.bin opEq (loc 1) (con (.str "(")))) (drp (appP 0 [.f "Growing" "parts"] (disp true .lst aNil))) (Pm.ite (tst (Pm.bin opEq (loc 1) (con (.str ")")))) (drp (callF x_Growing__close (aCons (chk "Growing" "close" (loc 0)) aNil))) (Pm.ite (tst (Pm.bin opEq (loc 1) (con (.str ".")))) (drp (callF x_Growing__put_part (aCons (chk "Growing" "put_part" (loc 0)) (aCons (con .non) aNil)))) (drp (callF x_Growing__put_operator (aCons (chk "Growing" "put_operator" (loc 0)) (aCons (loc 1) aNil)))))))
noncomputable def x_Growing__put : FSem := mkF 2 2 [] b_Growing__put
noncomputable def b_Growing__is_whole : M Fl := (rtn (andE (Pm.bin opEq (app1P opLen 0 [.f "Growing" "parts"]) (con (.int 1))) (orE (Pm.bin opEq (app1P opLen 0 [.f "Growing" "parts", .c 0]) (con (.int 3))) (binP opEq 0 [.f "Growing" "parts"] (disp true .lst (aCons (disp true .lst (aCons (con .non) aNil)) aNil))))))
noncomputable def x_Growing__is_whole : FSem := mkF 1 1 [] b_Growing__is_whole
noncomputable def b_Growing__expected : M Fl := (seq (asg (app1P opLen 0 [.f "Growing" "parts", .c (-1)]) (gN 1))
    (seq (Pm.ite (tst (Pm.bin opEq (loc 1) (con (.int 1)))) (rtn (con (.str "abcdefghijklmnopqrstuvwxyz"))) sNx)
    (seq (Pm.ite (tst (Pm.bin opLtA (loc 1) (con (.int 3)))) (rtn (con (.str ".("))) sNx)
    (rtn (ifE (tst (Pm.bin opGtA (app1P opLen 0 [.f "Growing" "parts"]) (con (.int 1)))) (con (.str ")")) (con (.str "")))))))
noncomputable def x_Growing__expected : FSem := mkF 1 2 [] b_Growing__expected
/-- the instance: letters, parents, parts as they stand -/
def gX (s : List Nat) (A P : List D) : D := .node true (.ins "Growing" ["signs", "above", "parts"]) [.str (T s), .node true .lst A, .node true .lst P]
abbrev pD (p : List (Option Nat)) : D := .node true .lst (p.map oI)
abbrev pthP : List PSt := [.f "Growing" "parts", .c (-1)]
section
variable {s : List Nat} {A L : List D} {x e : D} {zs : List D} {ρ : Pm.Env}
theorem ix_last {n : Nat} : ixN (n + 1) (-1) = some n := by
  unfold ixN
  rw [if_neg (by omega), if_pos (by omega)]
  congr 1
  omega
theorem pos_parts : posS ρ (.ins "Growing" ["signs", "above", "parts"]) 3 (.f "Growing" "parts") = some 2 := by
  show (if ("Growing" : Str) = "Growing" ∧ 3 = 3 then idxF "parts" ["signs", "above", "parts"] else none) = some 2
  rw [if_pos ⟨rfl, rfl⟩]
  exact (by decide +kernel : idxF "parts" ["signs", "above", "parts"] = some 2)
theorem pos_above : posS ρ (.ins "Growing" ["signs", "above", "parts"]) 3 (.f "Growing" "above") = some 1 := by
  show (if ("Growing" : Str) = "Growing" ∧ 3 = 3 then idxF "above" ["signs", "above", "parts"] else none) = some 1
  rw [if_pos ⟨rfl, rfl⟩]
  exact (by decide +kernel : idxF "above" ["signs", "above", "parts"] = some 1)
theorem res_parts {P : List D} : resN ρ [.f "Growing" "parts"] (gX s A P) = some ([2], .node true .lst P) := by
  unfold gX
  rw [resN, show ([D.str (T s), .node true .lst A, .node true .lst P] : List D).length = 3 from rfl, pos_parts]
  rfl
theorem res_above {P : List D} : resN ρ [.f "Growing" "above"] (gX s A P) = some ([1], .node true .lst A) := by
  unfold gX
  rw [resN, show ([D.str (T s), .node true .lst A, .node true .lst P] : List D).length = 3 from rfl, pos_above]
  rfl
theorem res_last : resN ρ pthP (gX s A (L ++ [x])) = some ([2, L.length], x) := by
  unfold gX pthP
  rw [resN, show ([D.str (T s), .node true .lst A, .node true .lst (L ++ [x])] : List D).length = 3 from rfl, pos_parts]
  show (match (match posS ρ .lst (L ++ [x]).length (.c (-1)) with
    | some i => (match (L ++ [x])[i]? with
      | some d => (match resN ρ [] d with
        | some (p, e) => some (i :: p, e)
        | none => none)
      | none => none)
    | none => none) with
    | some (p, e) => some (2 :: p, e)
    | none => none) = _
  have e1 : posS ρ .lst (L ++ [x]).length (.c (-1)) = some L.length := by
    rw [List.length_append]
    exact ix_last
  have e2 : (L ++ [x])[L.length]? = some x := by simp
  rw [e1]
  simp only [e2]
  rfl
theorem set_last : setN [2, L.length] (gX s A (L ++ [x])) e = gX s A (L ++ [e]) := by
  have e2 : (L ++ [x])[L.length]? = some x := by simp
  have e3 : (L ++ [x]).set L.length e = L ++ [e] := by simp
  unfold gX
  show D.node true _ ([D.str (T s), .node true .lst A, .node true .lst (L ++ [x])].set 2 (match (L ++ [x])[L.length]? with
    | some d => D.node true .lst ((L ++ [x]).set L.length (setN [] d e))
    | none => D.node true .lst (L ++ [x]))) = _
  rw [e2]
  show D.node true _ [D.str (T s), .node true .lst A, .node true .lst ((L ++ [x]).set L.length e)] = _
  rw [e3]
theorem get_last : getN [2, L.length] (gX s A (L ++ [x])) = some x := by
  have e2 : (L ++ [x])[L.length]? = some x := by simp
  unfold gX
  show (match (L ++ [x])[L.length]? with
    | some d => getN [] d
    | none => none) = _
  rw [e2]
  rfl
theorem set_above {P A' : List D} : setN [1] (gX s A P) (.node true .lst A') = gX s A' P := rfl
theorem set_parts {P P' : List D} : setN [2] (gX s A P) (.node true .lst P') = gX s A P' := rfl
end
/-- the parents when the root of a part is known -/
def putA (ab : List (Option Nat)) (cur : List (Option Nat)) (root : Option Nat) : List (Option Nat) := match cur[1]?, root with
  | some k, some r => ab.set r k
  | _, _ => ab
theorem gX_pl (s : List Nat) (A P : List D) : (gX s A P).plain = false := rfl
theorem oI_pl (x : Option Nat) : (oI x).plain = true := by cases x <;> rfl
theorem putpart_ok {s : List Nat} {ab cur : List (Option Nat)} {L : List D} {root : Option Nat} (hc : cur = [] ∨ ∃ o k, cur = [o, some k]) (hr : ∀ r, root = some r → r < ab.length) :
    x_Growing__put_part [gX s (ab.map oI) (L ++ [pD cur]), oI root] = .ret .non [gX s ((putA ab cur root).map oI) (L ++ [pD (cur ++ [root])]), oI root] := by
  have key : ∀ a : Addr, focE 2 0 [2, L.length] a ((seq (Pm.ite (andT (tst (Pm.bin opNe (loc 2) (disp true .lst aNil))) (tst (Pm.bin opNotN (loc 1) (con .non)))) (asg (idx (aCons (loc 2) (aCons (con (.int 1)) aNil))) (gP 0 [.f "Growing" "above"] 1 [])) sNx) (drp (appd 2 (loc 1))))
      [some (gX s (ab.map oI) (L ++ [.op (.ref a)])), some (oI root), some (pD cur)]) = some (.nx, [some (gX s ((putA ab cur root).map oI) (L ++ [pD (cur ++ [root])])), some (oI root), none]) := by
    intro a
    have body : (seq (Pm.ite (andT (tst (Pm.bin opNe (loc 2) (disp true .lst aNil))) (tst (Pm.bin opNotN (loc 1) (con .non)))) (asg (idx (aCons (loc 2) (aCons (con (.int 1)) aNil))) (gP 0 [.f "Growing" "above"] 1 [])) sNx) (drp (appd 2 (loc 1))))
        [some (gX s (ab.map oI) (L ++ [.op (.ref a)])), some (oI root), some (pD cur)] = .ok .nx [some (gX s ((putA ab cur root).map oI) (L ++ [.op (.ref a)])), some (oI root), some (pD (cur ++ [root]))] := by
      rcases hc with rfl | ⟨o, k, rfl⟩
      · cases root <;> rfl
      · cases root with
        | none => cases o <;> rfl
        | some r =>
          have hrr := hr r rfl
          have c1 : (andT (tst (Pm.bin opNe (loc 2) (disp true .lst aNil))) (tst (Pm.bin opNotN (loc 1) (con .non)))) [some (gX s (ab.map oI) (L ++ [.op (.ref a)])), some (oI (some r)), some (pD [o, some k])] = .ok true [some (gX s (ab.map oI) (L ++ [.op (.ref a)])), some (oI (some r)), some (pD [o, some k])] := by
            cases o <;> rfl
          have ap : ∀ x, drp (appd 2 (loc 1)) [x, some (oI (some r)), some (pD [o, some k])] = .ok .nx [x, some (oI (some r)), some (pD ([o, some k] ++ [some r]))] := fun x => by
            cases o <;> rfl
          have ix : ixN (ab.map oI).length ((r : Nat) : Int) = some r := by
            rw [List.length_map]
            unfold ixN
            rw [if_pos (by omega), if_pos (by omega), Int.toNat_natCast]
          have eset : (ab.map oI).set r (.int (k : Int)) = (ab.set r (some k)).map oI := by rw [List.map_set]; rfl
          have st : asg (idx (aCons (loc 2) (aCons (con (.int 1)) aNil))) (gP 0 [.f "Growing" "above"] 1 []) [some (gX s (ab.map oI) (L ++ [.op (.ref a)])), some (oI (some r)), some (pD [o, some k])] = .ok .nx [some (gX s ((ab.set r (some k)).map oI) (L ++ [.op (.ref a)])), some (oI (some r)), some (pD [o, some k])] := by
            have e1 : idx (aCons (loc 2) (aCons (con (.int 1)) aNil)) [some (gX s (ab.map oI) (L ++ [.op (.ref a)])), some (oI (some r)), some (pD [o, some k])] = .ok (.val (.int (k : Int))) [some (gX s (ab.map oI) (L ++ [.op (.ref a)])), some (oI (some r)), some (pD [o, some k])] := by
              cases o <;> rfl
            have g1 : gP 0 [.f "Growing" "above"] 1 [] (.int (k : Int)) [some (gX s (ab.map oI) (L ++ [.op (.ref a)])), some (oI (some r)), some (pD [o, some k])] = .ok () [some (gX s ((ab.set r (some k)).map oI) (L ++ [.op (.ref a)])), some (oI (some r)), some (pD [o, some k])] := by
              unfold gP
              simp only [List.getD_eq_getElem?_getD, List.getElem?_cons_succ, List.getElem?_cons_zero, Option.getD_some, res_above, resN]
              show (match ixN (ab.map oI).length ((r : Nat) : Int) with
                | some i => Res.ok () _
                | none => Res.stuck) = _
              rw [ix]
              simp only [eset, set_above]
              rfl
            unfold asg
            simp only [bnd, e1, use1, Pm.ret, g1]
          unfold seq Pm.ite
          simp only [bnd, c1, if_true, st, ap]
          rfl
    rw [body]
    unfold focE
    simp only [List.getD_eq_getElem?_getD, List.getElem?_cons_succ, List.getElem?_cons_zero, Option.getD_some, get_last, if_true]
    show some (Fl.nx, [some (setN [2, L.length] (gX s ((putA ab cur root).map oI) (L ++ [.op (.ref a)])) (pD (cur ++ [root]))), some (oI root), none]) = _
    rw [set_last]
  have fo : b_Growing__put_part [some (gX s (ab.map oI) (L ++ [pD cur])), some (oI root), none] = .ok .nx [some (gX s ((putA ab cur root).map oI) (L ++ [pD (cur ++ [root])])), some (oI root), none] := by
    unfold b_Growing__put_part
    refine foc_ok (d := gX s (ab.map oI) (L ++ [pD cur])) (p := [2, L.length]) (zs := cur.map oI) rfl res_last (by decide) (by show 2 < 3; decide) fun a => ?_
    rw [set_last]
    exact key a
  have hw : Wf x_Growing__put_part [gX s (ab.map oI) (L ++ [pD cur]), oI root] fun d as => d = .non ∧ as = [gX s ((putA ab cur root).map oI) (L ++ [pD (cur ++ [root])]), oI root] := by
    unfold x_Growing__put_part
    refine wf_mkF (Wp.of fo ?_)
    exact ⟨_, by simp [argsBack, reFrz, gX_pl, oI_pl], rfl, rfl⟩
  obtain ⟨d, as, e, rfl, rfl⟩ := hw
  exact e
/-- an operator is put behind the first operand -/
def opA (ab : List (Option Nat)) (n : Nat) (o : Option Nat) : List (Option Nat) := match o with
  | some r => ab.set r (some n)
  | none => ab
abbrev opB : M Fl := (seq (Pm.ite (tst (Pm.bin opNotN (idx (aCons (loc 2) (aCons (con (.int 0)) aNil))) (con .non))) (asg (app opLen (aCons (fldE "Growing" "signs" (loc 0)) aNil)) (gP 0 [.f "Growing" "above"] 2 [.c 0])) sNx)
    (seq (drp (appd 2 (app opLen (aCons (fldE "Growing" "signs" (loc 0)) aNil))))
    (seq (augA 0 "Growing" "signs" gAdd (loc 1))
    (drp (appP 0 [.f "Growing" "above"] (con .non))))))
theorem fld_signs {s : List Nat} {A P : List D} {ρ : Pm.Env} (h : ρ.getD 0 none = some (gX s A P)) : fldE "Growing" "signs" (loc 0) ρ = .ok (.val (.str (T s))) ρ := by
  unfold fldE
  simp only [bnd, loc, h, peek1]
  rfl
theorem len_signs {s : List Nat} {A P : List D} {ρ : Pm.Env} (hs : s.length ≤ 1000000) (h : ρ.getD 0 none = some (gX s A P)) : app opLen (aCons (fldE "Growing" "signs" (loc 0)) aNil) ρ = .ok (.val (.int (s.length : Int))) ρ := by
  have e := fld_signs h
  have l : opLen [.str (T s)] = some (.int (s.length : Int)) := len_T (by show _ ≤ 1000000; omega)
  unfold app
  simp only [bnd, aCons, aNil, Pm.ret, e, peeks, peek1, l]
theorem putop_ok {s : List Nat} {c : Nat} {ab : List (Option Nat)} {L : List D} {o : Option Nat} (hs : s.length ≤ 100000) (hl : ab.length ≤ 100000) (ho : ∀ r, o = some r → r < ab.length) :
    x_Growing__put_operator [gX s (ab.map oI) (L ++ [pD [o]]), .str (T [c])] = .ret .non [gX (s ++ [c]) ((opA ab s.length o ++ [none]).map oI) (L ++ [pD [o, some s.length]]), .str (T [c])] := by
  have key : ∀ a : Addr, opB [some (gX s (ab.map oI) (L ++ [.op (.ref a)])), some (.str (T [c])), some (pD [o])] = .ok .nx [some (gX (s ++ [c]) ((opA ab s.length o ++ [none]).map oI) (L ++ [.op (.ref a)])), some (.str (T [c])), some (pD [o, some s.length])] := by
    intro a
    have st : (Pm.ite (tst (Pm.bin opNotN (idx (aCons (loc 2) (aCons (con (.int 0)) aNil))) (con .non))) (asg (app opLen (aCons (fldE "Growing" "signs" (loc 0)) aNil)) (gP 0 [.f "Growing" "above"] 2 [.c 0])) sNx) [some (gX s (ab.map oI) (L ++ [.op (.ref a)])), some (.str (T [c])), some (pD [o])]
        = .ok .nx [some (gX s ((opA ab s.length o).map oI) (L ++ [.op (.ref a)])), some (.str (T [c])), some (pD [o])] := by
      cases o with
      | none => rfl
      | some r =>
        have hrr := ho r rfl
        have ix : ixN (ab.map oI).length ((r : Nat) : Int) = some r := by
          rw [List.length_map]
          unfold ixN
          rw [if_pos (by omega), if_pos (by omega), Int.toNat_natCast]
        have eset : (ab.map oI).set r (.int (s.length : Int)) = (ab.set r (some s.length)).map oI := by rw [List.map_set]; rfl
        have ls := len_signs (s := s) (A := ab.map oI) (P := L ++ [.op (.ref a)]) (ρ := [some (gX s (ab.map oI) (L ++ [.op (.ref a)])), some (.str (T [c])), some (pD [some r])]) (by omega) rfl
        have c1 : tst (Pm.bin opNotN (idx (aCons (loc 2) (aCons (con (.int 0)) aNil))) (con .non)) [some (gX s (ab.map oI) (L ++ [.op (.ref a)])), some (.str (T [c])), some (pD [some r])] = .ok true [some (gX s (ab.map oI) (L ++ [.op (.ref a)])), some (.str (T [c])), some (pD [some r])] := rfl
        have g1 : gP 0 [.f "Growing" "above"] 2 [.c 0] (.int (s.length : Int)) [some (gX s (ab.map oI) (L ++ [.op (.ref a)])), some (.str (T [c])), some (pD [some r])] = .ok () [some (gX s ((ab.set r (some s.length)).map oI) (L ++ [.op (.ref a)])), some (.str (T [c])), some (pD [some r])] := by
          have r2 : resN [some (gX s (ab.map oI) (L ++ [.op (.ref a)])), some (.str (T [c])), some (pD [some r])] [.c 0] (pD [some r]) = some ([0], .int (r : Int)) := rfl
          unfold gP
          simp only [List.getD_eq_getElem?_getD, List.getElem?_cons_succ, List.getElem?_cons_zero, Option.getD_some, res_above, r2]
          show (match ixN (ab.map oI).length ((r : Nat) : Int) with
            | some i => Res.ok () _
            | none => Res.stuck) = _
          rw [ix]
          simp only [eset, set_above]
          rfl
        unfold Pm.ite asg
        simp only [bnd, c1, if_true, ls, use1, Pm.ret, g1]
        rfl
    have l2 : ∀ A', drp (appd 2 (app opLen (aCons (fldE "Growing" "signs" (loc 0)) aNil))) [some (gX s A' (L ++ [.op (.ref a)])), some (.str (T [c])), some (pD [o])] = .ok .nx [some (gX s A' (L ++ [.op (.ref a)])), some (.str (T [c])), some (pD [o, some s.length])] := fun A' => by
      have ls := len_signs (s := s) (A := A') (P := L ++ [.op (.ref a)]) (ρ := [some (gX s A' (L ++ [.op (.ref a)])), some (.str (T [c])), none]) (by omega) rfl
      have ls2 := len_signs (s := s) (A := A') (P := L ++ [.op (.ref a)]) (ρ := [some (gX s A' (L ++ [.op (.ref a)])), some (.str (T [c])), some (pD [o])]) (by omega) rfl
      generalize app opLen (aCons (fldE "Growing" "signs" (loc 0)) aNil) = FL at *
      generalize gX s A' (L ++ [.op (.ref a)]) = G at *
      cases o <;> simp [drp, appd, bnd, ls, ls2, use1, Pm.ret, cap, oI]
    have l3 : ∀ A' x, augA 0 "Growing" "signs" gAdd (loc 1) [some (gX s A' (L ++ [.op (.ref a)])), some (.str (T [c])), x] = .ok .nx [some (gX (s ++ [c]) A' (L ++ [.op (.ref a)])), some (.str (T [c])), x] := fun A' x => by
      have f2 := fld_signs (s := s) (A := A') (P := L ++ [.op (.ref a)]) (ρ := [some (gX s A' (L ++ [.op (.ref a)])), some (.str (T [c])), x]) rfl
      have ga : gAdd [.str (T s), .str (T [c])] = some (.str (T (s ++ [c]))) := by
        rw [← T_app]
        show (if (T s).length + (T [c]).length ≤ cap then _ else _) = _
        rw [if_pos (by show s.length + 1 ≤ 1000000; omega)]
      have hb : Pm.bin gAdd (fldE "Growing" "signs" (loc 0)) (loc 1) [some (gX s A' (L ++ [.op (.ref a)])), some (.str (T [c])), x] = .ok (.val (.str (T (s ++ [c])))) [some (gX s A' (L ++ [.op (.ref a)])), some (.str (T [c])), x] := by
        generalize gX s A' (L ++ [.op (.ref a)]) = SD at *
        generalize fldE "Growing" "signs" (loc 0) = F2 at *
        generalize T (s ++ [c]) = K1 at *
        generalize gAdd = GA at *
        simp [mkF, reFrz, seq, Pm.ite, rtn, mov, asg, drp, sNx, bnd, Pm.bin, Pm.un, app, aCons, aNil, idx, loc, con, Pm.ret, peek1, peeks, itemOf, on2I, iAdd, iSub, iGt, iGe, iLt, iLe, iDiv, iMod, use1, useL, gI, gN, tst, andT, orT, notT, andE, orE, notE, ifE, ixN, D.frz, D.plain, plainL, argsBack, opLen, opAbs, opInt1, opNeg, disp, cap, callF, takes, puts, selA, sel, aApp, par, gT, gsC, gs0, appF, opDivmod, frzL, plainL, f2, ga]
      unfold augA setA
      simp only [bnd, hb, use1, Pm.ret]
      have e0 : ([some (gX s A' (L ++ [.op (.ref a)])), some (.str (T [c])), x] : Pm.Env).getD 0 none = some (.node true (.ins "Growing" ["signs", "above", "parts"]) [.str (T s), .node true .lst A', .node true .lst (L ++ [.op (.ref a)])]) := rfl
      simp only [e0]
      rw [if_pos ⟨trivial, by decide, rfl⟩]
      have e1 : putN ("signs" : Str) (["signs", "above", "parts"] : List Str) = (["signs", "above", "parts"] : List Str) := by decide +kernel
      have e2 : putX ("signs" : Str) (D.str (T (s ++ [c]))) (["signs", "above", "parts"] : List Str) [D.str (T s), .node true .lst A', .node true .lst (L ++ [.op (.ref a)])] = [D.str (T (s ++ [c])), .node true .lst A', .node true .lst (L ++ [.op (.ref a)])] := by simp [putX]
      rw [e1, e2]
      rfl
    have l4 : ∀ (A' : List D) x, A'.length ≤ 100000 → drp (appP 0 [.f "Growing" "above"] (con .non)) [some (gX (s ++ [c]) A' (L ++ [.op (.ref a)])), some (.str (T [c])), x] = .ok .nx [some (gX (s ++ [c]) (A' ++ [.non]) (L ++ [.op (.ref a)])), some (.str (T [c])), x] := fun A' x hA => by
      unfold drp appP
      simp only [bnd, List.getD_eq_getElem?_getD, List.getElem?_cons_zero, Option.getD_some, res_above, con, Pm.ret, use1]
      have hcap : A'.length < cap := by show _ < 1000000; omega
      simp [hcap, set_above]
    unfold opB
    simp only [seq, bnd, st, l2, l3]
    rw [l4 _ _ (by rw [List.length_map]; cases o <;> simp [opA] <;> omega)]
    simp [oI]
  have fo : b_Growing__put_operator [some (gX s (ab.map oI) (L ++ [pD [o]])), some (.str (T [c])), none] = .ok .nx [some (gX (s ++ [c]) ((opA ab s.length o ++ [none]).map oI) (L ++ [pD [o, some s.length]])), some (.str (T [c])), none] := by
    unfold b_Growing__put_operator
    refine foc_ok (d := gX s (ab.map oI) (L ++ [pD [o]])) (p := [2, L.length]) (zs := [o].map oI) rfl res_last (by decide) (by show 2 < 3; decide) fun a => ?_
    rw [set_last]
    have k := key a
    unfold opB at k
    rw [show (([some (gX s (ab.map oI) (L ++ [pD [o]])), some (.str (T [c])), none] : Pm.Env).set 0 (some (gX s (ab.map oI) (L ++ [.op (.ref a)])))).set 2 (some (D.node true .lst ([o].map oI))) = [some (gX s (ab.map oI) (L ++ [.op (.ref a)])), some (.str (T [c])), some (pD [o])] from rfl, k]
    unfold focE
    simp only [List.getD_eq_getElem?_getD, List.getElem?_cons_succ, List.getElem?_cons_zero, Option.getD_some, get_last, if_true]
    show some (Fl.nx, [some (setN [2, L.length] (gX (s ++ [c]) ((opA ab s.length o ++ [none]).map oI) (L ++ [.op (.ref a)])) (pD [o, some s.length])), some (.str (T [c])), none]) = _
    rw [set_last]
  have hw : Wf x_Growing__put_operator [gX s (ab.map oI) (L ++ [pD [o]]), .str (T [c])] fun d as => d = .non ∧ as = [gX (s ++ [c]) ((opA ab s.length o ++ [none]).map oI) (L ++ [pD [o, some s.length]]), .str (T [c])] := by
    unfold x_Growing__put_operator
    refine wf_mkF (Wp.of fo ?_)
    exact ⟨_, by simp [argsBack, reFrz, gX_pl, D.plain], rfl, rfl⟩
  obtain ⟨d, as, e, rfl, rfl⟩ := hw
  exact e
theorem init_ok' : x_Growing____init__ [.node true (.ins "Growing" []) []] = .ret .non [gX [] [] [pD []]] := by kernel_rfl
theorem chk_g {m : Str} {i : Nat} {s : List Nat} {A P : List D} {ρ : Pm.Env} (hm : m ∉ (["signs", "above", "parts"] : List Str)) (h : ρ.getD i none = some (gX s A P)) : chk "Growing" m (loc i) ρ = .ok (.ref i) ρ := by
  unfold chk
  simp only [bnd, loc, h, peek1]
  show (if ("Growing" : Str) = "Growing" ∧ m ∉ (["signs", "above", "parts"] : List Str) then _ else _) = _
  rw [if_pos ⟨rfl, hm⟩]
theorem n1 : ("put_part" : Str) ∉ (["signs", "above", "parts"] : List Str) := by decide +kernel
theorem n2 : ("put_operator" : Str) ∉ (["signs", "above", "parts"] : List Str) := by decide +kernel
theorem n3 : ("close" : Str) ∉ (["signs", "above", "parts"] : List Str) := by decide +kernel
theorem n4 : ("put" : Str) ∉ (["signs", "above", "parts"] : List Str) := by decide +kernel
theorem n5 : ("expected" : Str) ∉ (["signs", "above", "parts"] : List Str) := by decide +kernel
theorem n6 : ("is_whole" : Str) ∉ (["signs", "above", "parts"] : List Str) := by decide +kernel
theorem close_ok {s : List Nat} {ab outer : List (Option Nat)} {L : List D} {x0 x2 : Option Nat} {r : Nat} (hc : outer = [] ∨ ∃ o k, outer = [o, some k]) (hr : r < ab.length) :
    x_Growing__close [gX s (ab.map oI) (L ++ [pD outer] ++ [pD [x0, some r, x2]])] = .ret .non [gX s ((putA ab outer (some r)).map oI) (L ++ [pD (outer ++ [some r])])] := by
  have pp := putpart_ok (s := s) (ab := ab) (cur := outer) (L := L) (root := some r) hc (fun r' e => by cases e; exact hr)
  have po : asg (popP 0 [.f "Growing" "parts"]) (gN 1) [some (gX s (ab.map oI) (L ++ [pD outer] ++ [pD [x0, some r, x2]])), none] = .ok .nx [some (gX s (ab.map oI) (L ++ [pD outer])), some (pD [x0, some r, x2])] := by
    have el : (L ++ [pD outer] ++ [pD [x0, some r, x2]])[(L ++ [pD outer] ++ [pD [x0, some r, x2]]).length - 1]? = some (pD [x0, some r, x2]) := by simp
    have er : (L ++ [pD outer] ++ [pD [x0, some r, x2]]).eraseIdx ((L ++ [pD outer] ++ [pD [x0, some r, x2]]).length - 1) = L ++ [pD outer] := by
      rw [← drop_erase, List.dropLast_concat]
    generalize L ++ [pD outer] ++ [pD [x0, some r, x2]] = P at *
    generalize L ++ [pD outer] = P' at *
    unfold asg popP
    simp only [bnd, List.getD_eq_getElem?_getD, List.getElem?_cons_zero, Option.getD_some, res_parts, el, er, set_parts, use1, Pm.ret]
    rfl
  have ca : drp (callF x_Growing__put_part (aCons (chk "Growing" "put_part" (loc 0)) (aCons (idx (aCons (loc 1) (aCons (con (.int 1)) aNil))) aNil))) [some (gX s (ab.map oI) (L ++ [pD outer])), some (pD [x0, some r, x2])]
      = .ok .nx [some (gX s ((putA ab outer (some r)).map oI) (L ++ [pD (outer ++ [some r])])), some (pD [x0, some r, x2])] := by
    have c1 := chk_g (m := "put_part") (i := 0) (s := s) (A := ab.map oI) (P := L ++ [pD outer]) (ρ := [some (gX s (ab.map oI) (L ++ [pD outer])), some (pD [x0, some r, x2])]) n1 rfl
    have i1 : idx (aCons (loc 1) (aCons (con (.int 1)) aNil)) [some (gX s (ab.map oI) (L ++ [pD outer])), some (pD [x0, some r, x2])] = .ok (.val (.int (r : Int))) [some (gX s (ab.map oI) (L ++ [pD outer])), some (pD [x0, some r, x2])] := by
      cases x0 <;> cases x2 <;> rfl
    have gp := gX_pl s (ab.map oI) (L ++ [pD outer])
    have gp2 := gX_pl s ((putA ab outer (some r)).map oI) (L ++ [pD (outer ++ [some r])])
    have pp' : x_Growing__put_part [gX s (ab.map oI) (L ++ [pD outer]), .int (r : Int)] = .ret .non [gX s ((putA ab outer (some r)).map oI) (L ++ [pD (outer ++ [some r])]), .int (r : Int)] := pp
    generalize x_Growing__put_part = XP at *
    generalize chk "Growing" "put_part" (loc 0) = CH at *
    generalize idx (aCons (loc 1) (aCons (con (.int 1)) aNil)) = IX at *
    generalize gX s (ab.map oI) (L ++ [pD outer]) = G at *
    generalize gX s ((putA ab outer (some r)).map oI) (L ++ [pD (outer ++ [some r])]) = G' at *
    generalize (r : Int) = RI at *
    simp [drp, callF, bnd, aCons, aNil, Pm.ret, c1, i1, takes, gp, pp', puts]
  have hw : Wf x_Growing__close [gX s (ab.map oI) (L ++ [pD outer] ++ [pD [x0, some r, x2]])] fun d as => d = .non ∧ as = [gX s ((putA ab outer (some r)).map oI) (L ++ [pD (outer ++ [some r])])] := by
    unfold x_Growing__close
    refine wf_mkF ?_
    show Wp b_Growing__close [some (gX s (ab.map oI) (L ++ [pD outer] ++ [pD [x0, some r, x2]])), none] _
    refine Wp.of (a := .nx) (ρ' := [some (gX s ((putA ab outer (some r)).map oI) (L ++ [pD (outer ++ [some r])])), some (pD [x0, some r, x2])]) ?_ ?_
    · unfold b_Growing__close
      simp only [seq, bnd, po]
      exact ca
    · exact ⟨_, by simp [argsBack, reFrz, gX_pl, D.plain], rfl, rfl⟩
  obtain ⟨d, as, e, rfl, rfl⟩ := hw
  exact e
theorem lito : (("(" : String) : Str) = T [40] := lit rfl
theorem litc : ((")" : String) : Str) = T [41] := lit rfl
theorem litdt : (("." : String) : Str) = T [46] := lit rfl
theorem put_res {s : List Nat} {A P : List D} {c : Nat} {g' : D} (h : b_Growing__put [some (gX s A P), some (.str (T [c]))] = .ok .nx [some g', some (.str (T [c]))]) (hp : g'.plain = false) :
    x_Growing__put [gX s A P, .str (T [c])] = .ret .non [g', .str (T [c])] := by
  have hw : Wf x_Growing__put [gX s A P, .str (T [c])] fun d as => d = .non ∧ as = [g', .str (T [c])] := by
    unfold x_Growing__put
    refine wf_mkF (Wp.of h ?_)
    exact ⟨_, by simp [argsBack, reFrz, gX_pl, D.plain], rfl, rfl⟩
  obtain ⟨d, as, e, rfl, rfl⟩ := hw
  exact e
theorem eq_c {c k : Nat} {x0 : Option D} {x : Str} (hx : x = T [k]) : tst (Pm.bin opEq (loc 1) (con (.str x))) [x0, some (.str (T [c]))] = .ok (decide (c = k)) [x0, some (.str (T [c]))] := by
  have e : opEq [.str (T [c]), .str (T [k])] = some (.bl (decide (c = k))) := by
    rw [eq_T]
    simp
  subst hx
  generalize opEq = OE at *
  simp [mkF, reFrz, seq, Pm.ite, rtn, mov, asg, drp, sNx, bnd, Pm.bin, Pm.un, app, aCons, aNil, idx, loc, con, Pm.ret, peek1, peeks, itemOf, on2I, iAdd, iSub, iGt, iGe, iLt, iLe, iDiv, iMod, use1, useL, gI, gN, tst, andT, orT, notT, andE, orE, notE, ifE, ixN, D.frz, D.plain, plainL, argsBack, opLen, opAbs, opInt1, opNeg, disp, cap, callF, takes, puts, selA, sel, aApp, par, gT, gsC, gs0, appF, opDivmod, frzL, plainL, e]
theorem put_open {s : List Nat} {A P : List D} (hP : P.length ≤ 100000) : x_Growing__put [gX s A P, .str (T [40])] = .ret .non [gX s A (P ++ [pD []]), .str (T [40])] := by
  refine put_res ?_ rfl
  have e1 := eq_c (c := 40) (k := 40) (x0 := some (gX s A P)) lito
  have ap : drp (appP 0 [.f "Growing" "parts"] (disp true .lst aNil)) [some (gX s A P), some (.str (T [40]))] = .ok .nx [some (gX s A (P ++ [pD []])), some (.str (T [40]))] := by
    have hcap : P.length < cap := by show _ < 1000000; omega
    have dd : ∀ ρ, disp true .lst aNil ρ = .ok (.val (.node true .lst [])) ρ := fun _ => rfl
    unfold drp appP
    simp only [bnd, List.getD_eq_getElem?_getD, List.getElem?_cons_zero, Option.getD_some, res_parts, dd, Pm.ret, use1]
    simp [hcap, set_parts]
    rfl
  rw [decide_eq_true rfl] at e1
  unfold b_Growing__put Pm.ite
  simp only [bnd, e1, if_true, ap]
theorem put_dot {s : List Nat} {ab cur : List (Option Nat)} {L : List D} (hc : cur = [] ∨ ∃ o k, cur = [o, some k]) : x_Growing__put [gX s (ab.map oI) (L ++ [pD cur]), .str (T [46])] = .ret .non [gX s (ab.map oI) (L ++ [pD (cur ++ [none])]), .str (T [46])] := by
  refine put_res ?_ rfl
  have e1 := eq_c (c := 46) (k := 40) (x0 := some (gX s (ab.map oI) (L ++ [pD cur]))) lito
  have e2 := eq_c (c := 46) (k := 41) (x0 := some (gX s (ab.map oI) (L ++ [pD cur]))) litc
  have e3 := eq_c (c := 46) (k := 46) (x0 := some (gX s (ab.map oI) (L ++ [pD cur]))) litdt
  have pp := putpart_ok (s := s) (ab := ab) (cur := cur) (L := L) (root := none) hc (fun r' e => by cases e)
  have pa : putA ab cur none = ab := by unfold putA; cases cur[1]? <;> rfl
  rw [pa] at pp
  have ca : drp (callF x_Growing__put_part (aCons (chk "Growing" "put_part" (loc 0)) (aCons (con .non) aNil))) [some (gX s (ab.map oI) (L ++ [pD cur])), some (.str (T [46]))] = .ok .nx [some (gX s (ab.map oI) (L ++ [pD (cur ++ [none])])), some (.str (T [46]))] := by
    have c1 := chk_g (m := "put_part") (i := 0) (s := s) (A := ab.map oI) (P := L ++ [pD cur]) (ρ := [some (gX s (ab.map oI) (L ++ [pD cur])), some (.str (T [46]))]) n1 rfl
    have gp := gX_pl s (ab.map oI) (L ++ [pD cur])
    have gp2 := gX_pl s (ab.map oI) (L ++ [pD (cur ++ [none])])
    have pp' : x_Growing__put_part [gX s (ab.map oI) (L ++ [pD cur]), .non] = .ret .non [gX s (ab.map oI) (L ++ [pD (cur ++ [none])]), .non] := pp
    generalize x_Growing__put_part = XP at *
    generalize chk "Growing" "put_part" (loc 0) = CH at *
    generalize gX s (ab.map oI) (L ++ [pD cur]) = G at *
    generalize gX s (ab.map oI) (L ++ [pD (cur ++ [none])]) = G' at *
    simp [drp, callF, bnd, aCons, aNil, Pm.ret, con, c1, takes, gp, pp', puts]
  rw [decide_eq_false (by decide)] at e1 e2
  rw [decide_eq_true rfl] at e3
  unfold b_Growing__put Pm.ite
  simp only [bnd, e1, e2, e3, Bool.false_eq_true, if_true, if_false, ca]
theorem put_close {s : List Nat} {ab outer : List (Option Nat)} {L : List D} {x0 x2 : Option Nat} {r : Nat} (hc : outer = [] ∨ ∃ o k, outer = [o, some k]) (hr : r < ab.length) :
    x_Growing__put [gX s (ab.map oI) (L ++ [pD outer] ++ [pD [x0, some r, x2]]), .str (T [41])] = .ret .non [gX s ((putA ab outer (some r)).map oI) (L ++ [pD (outer ++ [some r])]), .str (T [41])] := by
  refine put_res ?_ rfl
  have cl := close_ok (s := s) (ab := ab) (outer := outer) (L := L) (x0 := x0) (x2 := x2) (r := r) hc hr
  have gp := gX_pl s (ab.map oI) (L ++ [pD outer] ++ [pD [x0, some r, x2]])
  have c0 : ∀ ρ : Pm.Env, ρ.getD 0 none = some (gX s (ab.map oI) (L ++ [pD outer] ++ [pD [x0, some r, x2]])) → chk "Growing" "close" (loc 0) ρ = .ok (.ref 0) ρ := fun ρ h => chk_g n3 h
  generalize gX s (ab.map oI) (L ++ [pD outer] ++ [pD [x0, some r, x2]]) = G at *
  have e1 := eq_c (c := 41) (k := 40) (x0 := some G) lito
  have e2 := eq_c (c := 41) (k := 41) (x0 := some G) litc
  have ca : drp (callF x_Growing__close (aCons (chk "Growing" "close" (loc 0)) aNil)) [some G, some (.str (T [41]))] = .ok .nx [some (gX s ((putA ab outer (some r)).map oI) (L ++ [pD (outer ++ [some r])])), some (.str (T [41]))] := by
    have c1 := c0 [some G, some (.str (T [41]))] rfl
    have gp2 := gX_pl s ((putA ab outer (some r)).map oI) (L ++ [pD (outer ++ [some r])])
    generalize x_Growing__close = XP at *
    generalize chk "Growing" "close" (loc 0) = CH at *
    generalize gX s ((putA ab outer (some r)).map oI) (L ++ [pD (outer ++ [some r])]) = G' at *
    simp [drp, callF, bnd, aCons, aNil, Pm.ret, c1, takes, gp, cl, puts]
  rw [decide_eq_false (by decide)] at e1
  rw [decide_eq_true rfl] at e2
  unfold b_Growing__put Pm.ite
  simp only [bnd, e1, e2, Bool.false_eq_true, if_true, if_false, ca]
theorem put_letter {s : List Nat} {c : Nat} {ab : List (Option Nat)} {L : List D} {o : Option Nat} (h1 : c ≠ 40) (h2 : c ≠ 41) (h3 : c ≠ 46) (hs : s.length ≤ 100000) (hl : ab.length ≤ 100000) (ho : ∀ r, o = some r → r < ab.length) :
    x_Growing__put [gX s (ab.map oI) (L ++ [pD [o]]), .str (T [c])] = .ret .non [gX (s ++ [c]) ((opA ab s.length o ++ [none]).map oI) (L ++ [pD [o, some s.length]]), .str (T [c])] := by
  refine put_res ?_ rfl
  have cl := putop_ok (s := s) (c := c) (ab := ab) (L := L) (o := o) hs hl ho
  have gp := gX_pl s (ab.map oI) (L ++ [pD [o]])
  have c0 : ∀ ρ : Pm.Env, ρ.getD 0 none = some (gX s (ab.map oI) (L ++ [pD [o]])) → chk "Growing" "put_operator" (loc 0) ρ = .ok (.ref 0) ρ := fun ρ h => chk_g n2 h
  generalize gX s (ab.map oI) (L ++ [pD [o]]) = G at *
  have e1 := eq_c (c := c) (k := 40) (x0 := some G) lito
  have e2 := eq_c (c := c) (k := 41) (x0 := some G) litc
  have e3 := eq_c (c := c) (k := 46) (x0 := some G) litdt
  rw [decide_eq_false h1] at e1
  rw [decide_eq_false h2] at e2
  rw [decide_eq_false h3] at e3
  have ca : drp (callF x_Growing__put_operator (aCons (chk "Growing" "put_operator" (loc 0)) (aCons (loc 1) aNil))) [some G, some (.str (T [c]))] = .ok .nx [some (gX (s ++ [c]) ((opA ab s.length o ++ [none]).map oI) (L ++ [pD [o, some s.length]])), some (.str (T [c]))] := by
    have c1 := c0 [some G, some (.str (T [c]))] rfl
    have gp2 := gX_pl (s ++ [c]) ((opA ab s.length o ++ [none]).map oI) (L ++ [pD [o, some s.length]])
    generalize x_Growing__put_operator = XP at *
    generalize chk "Growing" "put_operator" (loc 0) = CH at *
    generalize gX (s ++ [c]) ((opA ab s.length o ++ [none]).map oI) (L ++ [pD [o, some s.length]]) = G' at *
    simp [drp, callF, bnd, aCons, aNil, Pm.ret, loc, c1, takes, gp, D.plain, cl, puts]
  unfold b_Growing__put Pm.ite
  simp only [bnd, e1, e2, e3, Bool.false_eq_true, if_false, ca]
end Sc
namespace Sc
open PySem PySem.Spec PyProof.Rows L2 Pm
open Pg (sg ABC abc_T)
abbrev Part := List (Option Nat)
/-- letters, parents, the parts around (the innermost first), the part at hand -/
structure GS where
  s : List Nat
  ab : List (Option Nat)
  stk : List Part
  cur : Part
def gsD (g : GS) : D := gX g.s (g.ab.map oI) (g.stk.reverse.map pD ++ [pD g.cur])
def okP (n : Nat) (p : Part) : Prop := p = [] ∨ ∃ o k, p = [o, some k] ∧ k < n ∧ ∀ r, o = some r → r < n
def okC (n : Nat) (p : Part) : Prop := okP n p ∨ (∃ o, p = [o] ∧ ∀ r, o = some r → r < n) ∨ ∃ x k y, p = [x, some k, y] ∧ k < n
structure GI (g : GS) : Prop where
  len : g.ab.length = g.s.length
  out : ∀ p ∈ g.stk, okP g.ab.length p
  cur : okC g.ab.length g.cur
def stepG (g : GS) (c : Nat) : Option GS := match g.cur with
  | [] => if c = 46 then some { g with cur := [none] } else if c = 40 then some { g with stk := [] :: g.stk, cur := [] } else none
  | [o] => if 97 ≤ c ∧ c ≤ 122 then some { s := g.s ++ [c], ab := opA g.ab g.s.length o ++ [none], stk := g.stk, cur := [o, some g.s.length] } else none
  | [o, some k] => if c = 46 then some { g with cur := [o, some k, none] } else if c = 40 then some { g with stk := [o, some k] :: g.stk, cur := [] } else none
  | [_, some r, _] => match g.stk with
    | outer :: rest => if c = 41 then some { s := g.s, ab := putA g.ab outer (some r), stk := rest, cur := outer ++ [some r] } else none
    | [] => none
  | _ => none
theorem okP_le {n m : Nat} {p : Part} (h : okP n p) (hm : n ≤ m) : okP m p := by
  rcases h with h | ⟨o, k, h, h1, h2⟩
  · exact .inl h
  · exact .inr ⟨o, k, h, by omega, fun r e => by have := h2 r e; omega⟩
theorem putA_len {ab : List (Option Nat)} {p : Part} {r : Option Nat} : (putA ab p r).length = ab.length := by
  unfold putA
  split
  · exact List.length_set
  · rfl
theorem opA_len {ab : List (Option Nat)} {n : Nat} {o : Option Nat} : (opA ab n o).length = ab.length := by
  unfold opA
  split
  · exact List.length_set
  · rfl
theorem step_inv {g g' : GS} {c : Nat} (I : GI g) (h : stepG g c = some g') : GI g' := by
  obtain ⟨hl, ho, hc⟩ := I
  unfold stepG at h
  split at h
  · split at h
    · cases h
      exact ⟨hl, ho, .inr (.inl ⟨none, rfl, fun r e => nomatch e⟩)⟩
    · split at h
      · cases h
        exact ⟨hl, fun p hp => by
          rcases List.mem_cons.mp hp with rfl | hp
          · exact .inl rfl
          · exact ho p hp, .inl (.inl rfl)⟩
      · cases h
  · rename_i o e
    have hr : ∀ r, o = some r → r < g.ab.length := by
      rw [e] at hc
      rcases hc with (h | ⟨o, k, h, _⟩) | ⟨o', h, h1⟩ | ⟨x, k, y, h, _⟩
      · cases h
      · cases h
      · cases h; exact h1
      · cases h
    split at h
    · cases h
      have ll : (opA g.ab g.s.length o ++ [none]).length = g.ab.length + 1 := by rw [List.length_append, opA_len]; rfl
      refine ⟨by rw [ll, hl, List.length_append]; rfl, fun p hp => okP_le (ho p hp) (by rw [ll]; omega), .inl (.inr ⟨o, _, rfl, by rw [ll, hl]; omega, fun r q => by rw [ll]; have := hr r q; omega⟩)⟩
    · cases h
  · rename_i o k e
    have hk : okP g.ab.length [o, some k] := by
      rw [e] at hc
      rcases hc with h | ⟨o', h, _⟩ | ⟨x, k, y, h, _⟩
      · exact h
      · cases h
      · cases h
    have hk2 : k < g.ab.length := by
      rcases hk with h | ⟨o, k, h, h1, _⟩
      · cases h
      · cases h; exact h1
    split at h
    · cases h
      exact ⟨hl, ho, .inr (.inr ⟨o, k, none, rfl, hk2⟩)⟩
    · split at h
      · cases h
        exact ⟨hl, fun p hp => by
          rcases List.mem_cons.mp hp with rfl | hp
          · exact hk
          · exact ho p hp, .inl (.inl rfl)⟩
      · cases h
  · rename_i x r y e
    have hr : r < g.ab.length := by
      rw [e] at hc
      rcases hc with (h | ⟨o, k, h, _⟩) | ⟨o', h, _⟩ | ⟨x, k, y, h, h1⟩
      · cases h
      · cases h
      · cases h
      · cases h; exact h1
    split at h
    · rename_i outer rest e2
      split at h
      · cases h
        have hol := ho outer (by rw [e2]; exact List.mem_cons_self)
        refine ⟨by rw [putA_len]; exact hl, fun p hp => by rw [putA_len]; exact ho p (by rw [e2]; exact List.mem_cons_of_mem _ hp), ?_⟩
        rw [putA_len]
        rcases hol with rfl | ⟨o, k, rfl, h1, h2⟩
        · exact .inr (.inl ⟨some r, rfl, fun r' q => by cases q; exact hr⟩)
        · exact .inr (.inr ⟨o, k, some r, rfl, h1⟩)
      · cases h
    · cases h
  · cases h
theorem okP_form {n : Nat} {p : Part} (h : okP n p) : p = [] ∨ ∃ o k, p = [o, some k] := by
  rcases h with h | ⟨o, k, h, _⟩
  · exact .inl h
  · exact .inr ⟨o, k, h⟩
theorem rev_cons (p : Part) (l : List Part) : (p :: l).reverse.map pD ++ [pD []] = (l.reverse.map pD ++ [pD p]) ++ [pD []] := by
  rw [List.reverse_cons, List.map_append]
  rfl
theorem put_sim {g g' : GS} {c : Nat} (I : GI g) (h : stepG g c = some g') (hs : g.s.length ≤ 100000) (hp : g.stk.length ≤ 10000) : x_Growing__put [gsD g, .str (T [c])] = .ret .non [gsD g', .str (T [c])] := by
  obtain ⟨hl, ho, hc⟩ := I
  have hP : (g.stk.reverse.map pD ++ [pD g.cur]).length ≤ 100000 := by simp; omega
  unfold stepG at h
  unfold gsD
  split at h
  · rename_i e
    split at h
    · rename_i hcc
      cases h
      subst hcc
      rw [e]
      exact put_dot (.inl rfl)
    · split at h
      · rename_i hcc
        cases h
        subst hcc
        rw [e] at hP ⊢
        rw [rev_cons]
        exact put_open hP
      · cases h
  · rename_i o e
    split at h
    · cases h
      rw [e]
      refine put_letter (by omega) (by omega) (by omega) hs (by omega) fun r q => ?_
      rw [e] at hc
      rcases hc with (h | ⟨o, k, h, _⟩) | ⟨o', h, h1⟩ | ⟨x, k, y, h, _⟩
      · cases h
      · cases h
      · cases h; exact h1 r q
      · cases h
    · cases h
  · rename_i o k e
    split at h
    · rename_i hcc
      cases h
      subst hcc
      rw [e]
      exact put_dot (.inr ⟨o, k, rfl⟩)
    · split at h
      · rename_i hcc
        cases h
        subst hcc
        rw [e] at hP ⊢
        rw [rev_cons]
        exact put_open hP
      · cases h
  · rename_i x r y e
    have hr : r < g.ab.length := by
      rw [e] at hc
      rcases hc with (h | ⟨o, k, h, _⟩) | ⟨o', h, _⟩ | ⟨x, k, y, h, h1⟩
      · cases h
      · cases h
      · cases h
      · cases h; exact h1
    split at h
    · rename_i outer rest e2
      split at h
      · rename_i hcc
        cases h
        subst hcc
        rw [e, e2, List.reverse_cons, List.map_append]
        exact put_close (okP_form (ho outer (by rw [e2]; exact List.mem_cons_self))) hr
      · cases h
    · cases h
  · cases h
def expL (g : GS) : List Nat := if g.cur.length = 1 then ABC else if g.cur.length < 3 then [46, 40] else if 0 < g.stk.length then [41] else []
theorem exp_iff {g : GS} {c : Nat} (I : GI g) : c ∈ expL g ↔ (stepG g c).isSome = true := by
  obtain ⟨hl, ho, hc⟩ := I
  rcases hc with (h | ⟨o, k, h, _⟩) | ⟨o, h, _⟩ | ⟨x, k, y, h, _⟩
  · simp only [expL, stepG, h]
    by_cases h1 : c = 46
    · simp [h1]
    · by_cases h2 : c = 40 <;> simp [h1, h2]
  · simp only [expL, stepG, h]
    by_cases h1 : c = 46
    · simp [h1]
    · by_cases h2 : c = 40 <;> simp [h1, h2]
  · simp only [expL, stepG, h]
    have : c ∈ ABC ↔ 97 ≤ c ∧ c ≤ 122 := by simp [ABC]; omega
    by_cases h1 : 97 ≤ c ∧ c ≤ 122 <;> simp [this, h1]
  · simp only [expL, stepG, h]
    cases e : g.stk with
    | nil => simp
    | cons p r => by_cases h1 : c = 41 <;> simp [h1]
theorem litod : ((".(" : String) : Str) = T [46, 40] := lit rfl
theorem lite : (("" : String) : Str) = T [] := lit rfl
theorem len_last {s : List Nat} {A L : List D} {zs : List D} {x1 : Option D} : app1P opLen 0 pthP [some (gX s A (L ++ [.node true .lst zs])), x1] = .ok (.val (.int (zs.length : Int))) [some (gX s A (L ++ [.node true .lst zs])), x1] := by
  have e : opLen [.node true .lst zs] = some (.int (zs.length : Int)) := rfl
  unfold app1P
  simp only [List.getD_eq_getElem?_getD, List.getElem?_cons_zero, Option.getD_some, res_last, e]
theorem len_parts {s : List Nat} {A P : List D} {ρ : Pm.Env} (h : ρ.getD 0 none = some (gX s A P)) : app1P opLen 0 [.f "Growing" "parts"] ρ = .ok (.val (.int (P.length : Int))) ρ := by
  have e : opLen [.node true .lst P] = some (.int (P.length : Int)) := rfl
  unfold app1P
  simp only [h, res_parts, e]
theorem expected_ok (g : GS) : x_Growing__expected [gsD g] = .ret (.str (T (expL g))) [gsD g] := by
  have l1 := len_last (s := g.s) (A := g.ab.map oI) (L := g.stk.reverse.map pD) (zs := g.cur.map oI) (x1 := none)
  have l2 := len_parts (s := g.s) (A := g.ab.map oI) (P := g.stk.reverse.map pD ++ [pD g.cur]) (ρ := [some (gX g.s (g.ab.map oI) (g.stk.reverse.map pD ++ [pD g.cur])), some (.int (g.cur.length : Int))]) rfl
  rw [List.length_map] at l1
  rw [show (g.stk.reverse.map pD ++ [pD g.cur]).length = g.stk.length + 1 by simp] at l2
  have hw : Wf x_Growing__expected [gsD g] fun d as => d = .str (T (expL g)) ∧ as = [gsD g] := by
    unfold gsD x_Growing__expected
    refine wf_mkF ?_
    have gp := gX_pl g.s (g.ab.map oI) (g.stk.reverse.map pD ++ [pD g.cur])
    generalize gX g.s (g.ab.map oI) (g.stk.reverse.map pD ++ [pD g.cur]) = G at *
    show Wp b_Growing__expected [some G, none] _
    have fin : ∀ d, d = .str (T (expL g)) → Pm.Fin [] [G] (fun d as => d = .str (T (expL g)) ∧ as = [G]) (.rt d) [some G, some (.int (g.cur.length : Int))] := fun d hd => ⟨[G], by simp [argsBack, reFrz, gp], hd, rfl⟩
    have q1 : opEq [.int (g.cur.length : Int), .int 1] = some (.bl (decide (g.cur.length = 1))) := by
      rw [eq_int']
      congr 2
      rw [Bool.eq_iff_iff]
      simp
      omega
    have q2 : opLtA [.int (g.cur.length : Int), .int 3] = some (.bl (decide (g.cur.length < 3))) := by
      rw [opLtA_ii]
      congr 2
      rw [decide_eq_decide]
      omega
    have q3 : opGtA [.int ((g.stk.length + 1 : Nat) : Int), .int 1] = some (.bl (decide (0 < g.stk.length))) := by
      rw [opGtA_ii]
      congr 2
      rw [decide_eq_decide]
      omega
    have cl : (D.int (g.cur.length : Int)).plain = true := rfl
    have l1' : app1P opLen 0 [.f "Growing" "parts", .c (-1)] [some G, none] = .ok (.val (.int (g.cur.length : Int))) [some G, none] := l1
    unfold b_Growing__expected
    generalize app1P opLen 0 [.f "Growing" "parts", .c (-1)] = P1 at *
    generalize app1P opLen 0 [.f "Growing" "parts"] = P2 at *
    generalize hCL : (g.cur.length : Int) = CL at *
    generalize hSL : ((g.stk.length + 1 : Nat) : Int) = SL at *
    refine wp_seq fun K k1 k2 k3 k4 => ?_
    simp [Wp, mkF, reFrz, seq, Pm.ite, rtn, mov, asg, drp, sNx, bnd, Pm.bin, Pm.un, app, aCons, aNil, idx, loc, con, Pm.ret, peek1, peeks, itemOf, on2I, iAdd, iSub, iGt, iGe, iLt, iLe, iDiv, iMod, use1, useL, gI, gN, tst, andT, orT, notT, andE, orE, notE, ifE, ixN, D.frz, D.plain, plainL, argsBack, opLen, opAbs, opInt1, opNeg, disp, cap, callF, takes, puts, selA, sel, aApp, par, gT, gsC, gs0, appF, opDivmod, frzL, plainL, l1']
    refine k1 _ ?_
    clear k1 k2 k3 k4 K
    by_cases h1 : g.cur.length = 1
    · rw [decide_eq_true h1] at q1
      have ex : expL g = ABC := by unfold expL; rw [if_pos h1]
      refine wp_seq fun K k1 k2 k3 k4 => ?_
      simp [Wp, mkF, reFrz, seq, Pm.ite, rtn, mov, asg, drp, sNx, bnd, Pm.bin, Pm.un, app, aCons, aNil, idx, loc, con, Pm.ret, peek1, peeks, itemOf, on2I, iAdd, iSub, iGt, iGe, iLt, iLe, iDiv, iMod, use1, useL, gI, gN, tst, andT, orT, notT, andE, orE, notE, ifE, ixN, D.frz, D.plain, plainL, argsBack, opLen, opAbs, opInt1, opNeg, disp, cap, callF, takes, puts, selA, sel, aApp, par, gT, gsC, gs0, appF, opDivmod, frzL, plainL, q1]
      exact k2 _ _ (fin _ (by rw [ex, ← abc_T]))
    · rw [decide_eq_false h1] at q1
      refine wp_seq fun K k1 k2 k3 k4 => ?_
      simp [Wp, mkF, reFrz, seq, Pm.ite, rtn, mov, asg, drp, sNx, bnd, Pm.bin, Pm.un, app, aCons, aNil, idx, loc, con, Pm.ret, peek1, peeks, itemOf, on2I, iAdd, iSub, iGt, iGe, iLt, iLe, iDiv, iMod, use1, useL, gI, gN, tst, andT, orT, notT, andE, orE, notE, ifE, ixN, D.frz, D.plain, plainL, argsBack, opLen, opAbs, opInt1, opNeg, disp, cap, callF, takes, puts, selA, sel, aApp, par, gT, gsC, gs0, appF, opDivmod, frzL, plainL, q1]
      refine k1 _ ?_
      clear k1 k2 k3 k4 K
      by_cases h2 : g.cur.length < 3
      · rw [decide_eq_true h2] at q2
        have ex : expL g = [46, 40] := by unfold expL; rw [if_neg h1, if_pos h2]
        refine wp_seq fun K k1 k2 k3 k4 => ?_
        simp [Wp, mkF, reFrz, seq, Pm.ite, rtn, mov, asg, drp, sNx, bnd, Pm.bin, Pm.un, app, aCons, aNil, idx, loc, con, Pm.ret, peek1, peeks, itemOf, on2I, iAdd, iSub, iGt, iGe, iLt, iLe, iDiv, iMod, use1, useL, gI, gN, tst, andT, orT, notT, andE, orE, notE, ifE, ixN, D.frz, D.plain, plainL, argsBack, opLen, opAbs, opInt1, opNeg, disp, cap, callF, takes, puts, selA, sel, aApp, par, gT, gsC, gs0, appF, opDivmod, frzL, plainL, q2]
        exact k2 _ _ (fin _ (by rw [ex, ← litod]))
      · rw [decide_eq_false h2] at q2
        refine wp_seq fun K k1 k2 k3 k4 => ?_
        simp [Wp, mkF, reFrz, seq, Pm.ite, rtn, mov, asg, drp, sNx, bnd, Pm.bin, Pm.un, app, aCons, aNil, idx, loc, con, Pm.ret, peek1, peeks, itemOf, on2I, iAdd, iSub, iGt, iGe, iLt, iLe, iDiv, iMod, use1, useL, gI, gN, tst, andT, orT, notT, andE, orE, notE, ifE, ixN, D.frz, D.plain, plainL, argsBack, opLen, opAbs, opInt1, opNeg, disp, cap, callF, takes, puts, selA, sel, aApp, par, gT, gsC, gs0, appF, opDivmod, frzL, plainL, q2]
        refine k1 _ ?_
        clear k1 k2 k3 k4 K
        refine wp_end fun K k1 k2 k3 k4 => ?_
        by_cases h3 : 0 < g.stk.length
        · rw [decide_eq_true h3] at q3
          have ex : expL g = [41] := by unfold expL; rw [if_neg h1, if_neg h2, if_pos h3]
          simp [Wp, mkF, reFrz, seq, Pm.ite, rtn, mov, asg, drp, sNx, bnd, Pm.bin, Pm.un, app, aCons, aNil, idx, loc, con, Pm.ret, peek1, peeks, itemOf, on2I, iAdd, iSub, iGt, iGe, iLt, iLe, iDiv, iMod, use1, useL, gI, gN, tst, andT, orT, notT, andE, orE, notE, ifE, ixN, D.frz, D.plain, plainL, argsBack, opLen, opAbs, opInt1, opNeg, disp, cap, callF, takes, puts, selA, sel, aApp, par, gT, gsC, gs0, appF, opDivmod, frzL, plainL, l2, q3]
          exact k2 _ _ (fin _ (by rw [ex, ← litc]))
        · rw [decide_eq_false h3] at q3
          have ex : expL g = [] := by unfold expL; rw [if_neg h1, if_neg h2, if_neg h3]
          simp [Wp, mkF, reFrz, seq, Pm.ite, rtn, mov, asg, drp, sNx, bnd, Pm.bin, Pm.un, app, aCons, aNil, idx, loc, con, Pm.ret, peek1, peeks, itemOf, on2I, iAdd, iSub, iGt, iGe, iLt, iLe, iDiv, iMod, use1, useL, gI, gN, tst, andT, orT, notT, andE, orE, notE, ifE, ixN, D.frz, D.plain, plainL, argsBack, opLen, opAbs, opInt1, opNeg, disp, cap, callF, takes, puts, selA, sel, aApp, par, gT, gsC, gs0, appF, opDivmod, frzL, plainL, l2, q3]
          exact k2 _ _ (fin _ (by rw [ex, ← lite]))
  obtain ⟨d, as, e, rfl, rfl⟩ := hw
  exact e
def wholeG (g : GS) : Bool := decide (g.stk = []) && (decide (g.cur.length = 3) || decide (g.cur = [none]))
theorem whole_ok {g : GS} (I : GI g) : x_Growing__is_whole [gsD g] = .ret (.bl (wholeG g)) [gsD g] := by
  obtain ⟨s, ab, stk, cur⟩ := g
  have hc : okC ab.length cur := I.cur
  cases stk with
  | nil =>
    unfold gsD
    show x_Growing__is_whole [gX s (ab.map oI) [pD cur]] = .ret (.bl (wholeG ⟨s, ab, [], cur⟩)) [gX s (ab.map oI) [pD cur]]
    generalize ab.map oI = A
    rcases hc with (h | ⟨o, k, h, _⟩) | ⟨o, h, _⟩ | ⟨x, k, y, h, _⟩
    · subst h; rfl
    · subst h; cases o <;> rfl
    · subst h; cases o <;> rfl
    · subst h; cases x <;> cases y <;> rfl
  | cons p r =>
    have l2 := len_parts (s := s) (A := ab.map oI) (P := (p :: r).reverse.map pD ++ [pD cur]) (ρ := [some (gX s (ab.map oI) ((p :: r).reverse.map pD ++ [pD cur]))]) rfl
    rw [show ((p :: r).reverse.map pD ++ [pD cur]).length = r.length + 2 by simp] at l2
    have q1 : opEq [.int ((r.length + 2 : Nat) : Int), .int 1] = some (.bl false) := by
      have h : (((r.length + 2 : Nat) : Int) == 1) = false := by
        apply beq_eq_false_iff_ne.mpr
        omega
      rw [eq_int', h]
    have hw : Wf x_Growing__is_whole [gsD ⟨s, ab, p :: r, cur⟩] fun d as => d = .bl (wholeG ⟨s, ab, p :: r, cur⟩) ∧ as = [gsD ⟨s, ab, p :: r, cur⟩] := by
      unfold gsD x_Growing__is_whole
      refine wf_mkF ?_
      have gp := gX_pl s (ab.map oI) ((p :: r).reverse.map pD ++ [pD cur])
      generalize gX s (ab.map oI) ((p :: r).reverse.map pD ++ [pD cur]) = G at *
      show Wp b_Growing__is_whole [some G] _
      have fin : Pm.Fin [] [G] (fun d as => d = .bl (wholeG ⟨s, ab, p :: r, cur⟩) ∧ as = [G]) (.rt (.bl false)) [some G] := ⟨[G], by simp [argsBack, reFrz, gp], by simp [wholeG], rfl⟩
      unfold b_Growing__is_whole
      generalize app1P opLen 0 [.f "Growing" "parts"] = P2 at *
      generalize ((r.length + 2 : Nat) : Int) = SL at *
      refine wp_end fun K k1 k2 k3 k4 => ?_
      simp [Wp, mkF, reFrz, seq, Pm.ite, rtn, mov, asg, drp, sNx, bnd, Pm.bin, Pm.un, app, aCons, aNil, idx, loc, con, Pm.ret, peek1, peeks, itemOf, on2I, iAdd, iSub, iGt, iGe, iLt, iLe, iDiv, iMod, use1, useL, gI, gN, tst, andT, orT, notT, andE, orE, notE, ifE, ixN, D.frz, D.plain, plainL, argsBack, opLen, opAbs, opInt1, opNeg, disp, cap, callF, takes, puts, selA, sel, aApp, par, gT, gsC, gs0, appF, opDivmod, frzL, plainL, l2, q1]
      exact k2 _ _ fin
    obtain ⟨d, as, e, rfl, rfl⟩ := hw
    exact e
/-- where a text goes wrong, or what has grown -/
def walkG : GS → List Nat → Nat → Option GS × Nat
  | g, [], k => (some g, k)
  | g, c :: l, k => match stepG g c with
    | some g' => walkG g' l (k + 1)
    | none => (none, k)
def g0 : GS := ⟨[], [], [], []⟩
theorem g0_inv : GI g0 := ⟨rfl, fun p hp => by simp [g0] at hp, .inl (.inl rfl)⟩
end Sc
namespace Sc
open PySem PySem.Spec PyProof.Rows L2 Pm
open Tr (LT Run PL txt prt wF lab_split)
def endC : LT → Part
  | .leaf => [none]
  | .node l k r => [l.root, some k, r.root]
theorem walk_cons (g g' : GS) (c : Nat) (l : List Nat) (k : Nat) (h : stepG g c = some g') : walkG g (c :: l) k = walkG g' l (k + 1) := by
  simp only [walkG, h]
/-- an operand read where nothing or an operand and an operator stand -/
theorem walk_tree (w : List Nat) : ∀ (T : LT) (a m : Nat) (s : List Nat) (ab : List (Option Nat)) (st : List Part), Run T a m → s.length = a → ab.length = a → (∀ x ∈ T.lab, 97 ≤ wF w x ∧ wF w x ≤ 122) →
    (∀ rest k, walkG ⟨s, ab, st, []⟩ (txt w T ++ rest) k = walkG ⟨s ++ T.lab.map (wF w), ab ++ PL T none, st, endC T⟩ rest (k + (txt w T).length)) ∧
    (∀ rest k, walkG ⟨s, ab, st, []⟩ (prt w T ++ rest) k = walkG ⟨s ++ T.lab.map (wF w), ab ++ PL T none, st, [T.root]⟩ rest (k + (prt w T).length)) ∧
    (∀ o q rest k, walkG ⟨s, ab, st, [o, some q]⟩ (prt w T ++ rest) k = walkG ⟨s ++ T.lab.map (wF w), ab ++ PL T (some q), st, [o, some q, T.root]⟩ rest (k + (prt w T).length))
  | .leaf, a, m, s, ab, st, hR, hs, ha, hw => by
    refine ⟨fun rest k => ?_, fun rest k => ?_, fun o q rest k => ?_⟩
    · have e : stepG ⟨s, ab, st, []⟩ 46 = some ⟨s, ab, st, [none]⟩ := rfl
      rw [Tr.txt_leaf, List.singleton_append, walk_cons _ _ _ _ _ e]
      simp [LT.lab, PL, endC]
    · have e : stepG ⟨s, ab, st, []⟩ 46 = some ⟨s, ab, st, [none]⟩ := rfl
      rw [Tr.prt_leaf, List.singleton_append, walk_cons _ _ _ _ _ e]
      simp [LT.lab, PL, LT.root]
    · have e : stepG ⟨s, ab, st, [o, some q]⟩ 46 = some ⟨s, ab, st, [o, some q, none]⟩ := rfl
      rw [Tr.prt_leaf, List.singleton_append, walk_cons _ _ _ _ _ e]
      simp [LT.lab, PL, LT.root]
  | .node l y r, a, m, s, ab, st, hR, hs, ha, hw => by
    obtain ⟨m1, m2, e1, e0, e2, e3⟩ := lab_split hR
    have hy := hw y (by simp [LT.lab])
    have T1 : ∀ (st : List Part) rest k, walkG ⟨s, ab, st, []⟩ (txt w (.node l y r) ++ rest) k = walkG ⟨s ++ (LT.node l y r).lab.map (wF w), ab ++ PL (.node l y r) none, st, endC (.node l y r)⟩ rest (k + (txt w (.node l y r)).length) := fun st rest k => by
      obtain ⟨_, i2, _⟩ := walk_tree w l a m1 s ab st e1 hs ha fun x hx => hw x (by simp [LT.lab, hx])
      have hls : (s ++ l.lab.map (wF w)).length = y := by rw [List.length_append, List.length_map, e1, List.length_range', hs, e0]
      have hlab : (ab ++ PL l none).length = y := by rw [List.length_append, Tr.PL_len, e1, List.length_range', ha, e0]
      have e : stepG ⟨s ++ l.lab.map (wF w), ab ++ PL l none, st, [l.root]⟩ (wF w y) = some ⟨s ++ l.lab.map (wF w) ++ [wF w y], ab ++ PL l (some y) ++ [none], st, [l.root, some y]⟩ := by
        simp only [stepG]
        rw [if_pos hy, hls]
        congr 3
        cases l with
        | leaf => rfl
        | node l1 z l2 =>
          show (ab ++ PL (.node l1 z l2) none).set z (some y) = _
          exact Tr.PL_set e1 ha
      obtain ⟨_, _, i3⟩ := walk_tree w r (a + m1 + 1) m2 (s ++ l.lab.map (wF w) ++ [wF w y]) (ab ++ PL l (some y) ++ [none]) st e2 (by rw [List.length_append, hls, e0]; rfl)
        (by rw [List.length_append, List.length_append, Tr.PL_len, e1, List.length_range', ha]; rfl) fun x hx => hw x (by simp [LT.lab, hx])
      rw [Tr.txt_node, List.append_assoc, i2, List.cons_append, walk_cons _ _ _ _ _ e, i3]
      congr 1
      · simp [LT.lab, PL, endC]
      · simp only [List.length_append, List.length_cons]
        omega
    refine ⟨T1 st, fun rest k => ?_, fun o q rest k => ?_⟩
    · have e : stepG ⟨s, ab, st, []⟩ 40 = some ⟨s, ab, [] :: st, []⟩ := rfl
      have e' : stepG ⟨s ++ (LT.node l y r).lab.map (wF w), ab ++ PL (.node l y r) none, [] :: st, endC (.node l y r)⟩ 41 = some ⟨s ++ (LT.node l y r).lab.map (wF w), ab ++ PL (.node l y r) none, st, [some y]⟩ := rfl
      rw [Tr.prt_node, List.cons_append, walk_cons _ _ _ _ _ e, List.append_assoc, T1, List.singleton_append, walk_cons _ _ _ _ _ e']
      congr 1
      simp only [List.length_append, List.length_cons, List.length_nil]
      omega
    · have e : stepG ⟨s, ab, st, [o, some q]⟩ 40 = some ⟨s, ab, [o, some q] :: st, []⟩ := rfl
      have e' : stepG ⟨s ++ (LT.node l y r).lab.map (wF w), ab ++ PL (.node l y r) none, [o, some q] :: st, endC (.node l y r)⟩ 41 = some ⟨s ++ (LT.node l y r).lab.map (wF w), ab ++ PL (.node l y r) (some q), st, [o, some q, some y]⟩ := by
        rw [← Tr.PL_set (p := none) (q := some q) hR ha]
        rfl
      rw [Tr.prt_node, List.cons_append, walk_cons _ _ _ _ _ e, List.append_assoc, T1, List.singleton_append, walk_cons _ _ _ _ _ e']
      congr 1
      simp only [List.length_append, List.length_cons, List.length_nil]
      omega
/-- the written form of a tree is read as this tree -/
theorem walk_txt {w : List Nat} {P : Tr.Ps} {T : LT} (hR : Run T 0 w.length) (hz : Tr.Rz P T none) (hl : P.length = w.length) (hw : ∀ c ∈ w, 97 ≤ c ∧ c ≤ 122) (rest : List Nat) :
    walkG g0 (txt w T ++ rest) 0 = walkG ⟨w, P, [], endC T⟩ rest (txt w T).length := by
  have h := (walk_tree w T 0 w.length [] [] [] hR rfl rfl fun x hx => by
    rw [show T.lab = _ from hR, List.mem_range'_1] at hx
    have hx' : x < w.length := by omega
    unfold Tr.wF
    rw [List.getD_eq_getElem?_getD, List.getElem?_eq_getElem hx']
    exact hw _ (List.getElem_mem hx')).1 rest 0
  have e : T.lab.map (wF w) = w := by
    rw [show T.lab = _ from hR]
    apply List.ext_getElem
    · rw [List.length_map, List.length_range']
    · intro i h1 h2
      rw [List.getElem_map, List.getElem_range']
      unfold Tr.wF
      rw [show 0 + 1 * i = i by omega, List.getD_eq_getElem?_getD, List.getElem?_eq_getElem h2]
      rfl
  rw [Tr.PL_eq hR hz hl, e, List.nil_append, List.nil_append, Nat.zero_add] at h
  exact h
theorem whole_txt (w : List Nat) (P : Tr.Ps) (T : LT) : wholeG ⟨w, P, [], endC T⟩ = true := by
  cases T <;> simp [wholeG, endC]
end Sc
namespace Pm
open PySem PySem.Spec PyProof.Rows L2
def We {α : Type} (m : M α) (ρ : Env) (Q : α → Env → Prop) (R : XD → Env → Prop) : Prop := (∃ a ρ', m ρ = .ok a ρ' ∧ Q a ρ') ∨ ∃ x ρ', m ρ = .exc x ρ' ∧ R x ρ'
theorem We.w {α : Type} {m : M α} {ρ : Env} {Q : α → Env → Prop} {R : XD → Env → Prop} (h : Wp m ρ Q) : We m ρ Q R := by
  obtain ⟨a, ρ', e, q⟩ := h.ok
  exact .inl ⟨a, ρ', e, q⟩
theorem We.of {α : Type} {m : M α} {ρ ρ' : Env} {a : α} {Q : α → Env → Prop} {R : XD → Env → Prop} (e : m ρ = .ok a ρ') (q : Q a ρ') : We m ρ Q R := .inl ⟨a, ρ', e, q⟩
theorem We.x {α : Type} {m : M α} {ρ ρ' : Env} {x : XD} {Q : α → Env → Prop} {R : XD → Env → Prop} (e : m ρ = .exc x ρ') (q : R x ρ') : We m ρ Q R := .inr ⟨x, ρ', e, q⟩
theorem we_ok {a b : M Fl} {ρ ρ1 : Env} {Q : Fl → Env → Prop} {R : XD → Env → Prop} (e : a ρ = .ok .nx ρ1) (h : We b ρ1 Q R) : We (seq a b) ρ Q R := by
  have es : seq a b ρ = b ρ1 := by simp [seq, bnd, e]
  rcases h with ⟨f, ρ2, e2, q⟩ | ⟨x, ρ2, e2, q⟩
  · exact .inl ⟨f, ρ2, by rw [es, e2], q⟩
  · exact .inr ⟨x, ρ2, by rw [es, e2], q⟩
theorem we_exc {a b : M Fl} {ρ ρ1 : Env} {x : XD} {Q : Fl → Env → Prop} {R : XD → Env → Prop} (e : a ρ = .exc x ρ1) (h : R x ρ1) : We (seq a b) ρ Q R := .inr ⟨x, ρ1, by simp [seq, bnd, e], h⟩
theorem we_seq {a b : M Fl} {ρ : Env} {Q : Fl → Env → Prop} {R : XD → Env → Prop} (h : We a ρ (fun f ρ1 => f = .nx ∧ We b ρ1 Q R) R) : We (seq a b) ρ Q R := by
  rcases h with ⟨f, ρ1, e, rfl, q⟩ | ⟨x, ρ1, e, q⟩
  · exact we_ok e q
  · exact we_exc e q
theorem we_whl {c : M Bool} {b : M Fl} {Q : Fl → Env → Prop} {R : XD → Env → Prop} (I : Nat → Env → Prop)
    (ht : ∀ (n : Nat) (ρ : Env), I n ρ → Wp c ρ fun t ρ1 => (t = true → We b ρ1 (Tn (fun ρ2 => ∃ m, m < n ∧ I m ρ2) Q) R) ∧ (t = false → Q .nx ρ1)) : ∀ (n : Nat) (ρ : Env), I n ρ → We (whl c b) ρ Q R := by
  intro n
  induction n using Nat.strongRecOn with
  | ind n ih =>
    intro ρ hi
    obtain ⟨t, ρ1, e1, q1, q2⟩ := (ht n ρ hi).ok
    cases t with
    | false => exact .of (a := .nx) (ρ' := ρ1) (whl_F e1) (q2 rfl)
    | true =>
      rcases q1 rfl with ⟨f, ρ2, e2, q⟩ | ⟨x, ρ2, e2, q⟩
      · cases f with
        | nx =>
          obtain ⟨m, hm, im⟩ := q
          rcases ih m hm ρ2 im with ⟨f3, ρ3, e3, q3⟩ | ⟨x3, ρ3, e3, q3⟩
          · exact .inl ⟨f3, ρ3, by rw [whl_T e1 e2, e3], q3⟩
          · exact .inr ⟨x3, ρ3, by rw [whl_T e1 e2, e3], q3⟩
        | ct =>
          obtain ⟨m, hm, im⟩ := q
          rcases ih m hm ρ2 im with ⟨f3, ρ3, e3, q3⟩ | ⟨x3, ρ3, e3, q3⟩
          · exact .inl ⟨f3, ρ3, by rw [whl_C e1 e2, e3], q3⟩
          · exact .inr ⟨x3, ρ3, by rw [whl_C e1 e2, e3], q3⟩
        | bk => exact .inl ⟨.nx, ρ2, by rw [whl_eq, e1]; simp only [e2], q⟩
        | rt d => exact .inl ⟨.rt d, ρ2, by rw [whl_eq, e1]; simp only [e2], q⟩
      · exact .inr ⟨x, ρ2, by rw [whl_eq, e1]; simp only [e2], q⟩
/-- what a def comes to: it returns, or raises -/
def Wz (S : FSem) (as : List D) (Q : D → List D → Prop) (R : XD → List D → Prop) : Prop := (∃ d bs, S as = .ret d bs ∧ Q d bs) ∨ ∃ x bs, S as = .exc x bs ∧ R x bs
theorem wz_mkF {n m : Nat} {reb : List Nat} {b : M Fl} {ds : List D} {Q : D → List D → Prop} {R : XD → List D → Prop} (h : We b ((reFrz reb 0 ds).map some ++ List.replicate (m - n) none) (Fin reb ds Q) fun x ρ => ∃ as, argsBack reb ρ 0 (reFrz reb 0 ds) = some as ∧ R x as) (hl : ds.length = n ∧ n ≤ m := by exact ⟨rfl, by decide⟩) : Wz (mkF n m reb b) ds Q R := by
  rcases h with ⟨f, ρ, e, q⟩ | ⟨x, ρ, e, as, ha, q⟩
  · cases f with
    | nx =>
      obtain ⟨as, ha, qa⟩ := q
      exact .inl ⟨.non, as, by unfold mkF; rw [if_pos hl, e]; simp only [ha], qa⟩
    | rt d =>
      obtain ⟨as, ha, qa⟩ := q
      exact .inl ⟨d, as, by unfold mkF; rw [if_pos hl, e]; simp only [ha], qa⟩
    | bk => exact q.elim
    | ct => exact q.elim
  · exact .inr ⟨x, as, by unfold mkF; rw [if_pos hl, e]; simp only [ha], q⟩
end Pm
namespace Sc
open PySem PySem.Spec PyProof.Rows L2 Pm
open Pg (sg x_is_between abc_T)
open TL (numL numL_digits numL_val numL_ne numL_lt numL_step joinL)
end Sc
namespace Sc
open PySem PySem.Spec PyProof.Rows L2 Pm
open Pg (sg abc_T)
open TL (numL numL_digits numL_val numL_ne numL_lt numL_step numL_inj joinL)
inductive SR
  | le | na | st | on | nu
  deriving DecidableEq
/-- digits without a zero ahead are a number's text -/
theorem canon : ∀ (r : List Nat) (c : Nat), 49 ≤ c → c ≤ 57 → (∀ d ∈ r, 48 ≤ d ∧ d ≤ 57) → numL (NumText.digitsVal (c :: r)) = c :: r := by
  intro r
  induction h : r.length using Nat.strongRecOn generalizing r with
  | ind n ih =>
    intro c h1 h2 hd
    rcases List.eq_nil_or_concat r with rfl | ⟨r', d, rfl⟩
    · have e : NumText.digitsVal [c] = c - 48 := by unfold NumText.digitsVal; simp
      rw [e, numL_lt (by omega)]
      congr 1
      omega
    · have hd' : 48 ≤ d ∧ d ≤ 57 := hd d (by simp)
      have hq := ih r'.length (by rw [← h]; simp) r' rfl c h1 h2 fun x hx => hd x (by simp [hx])
      have hp := NumText.digitsVal_pos (cs := r') h1
      have e : NumText.digitsVal (c :: (r' ++ [d])) = NumText.digitsVal (c :: r') * 10 + (d - 48) := by
        rw [← List.cons_append]
        exact NumText.digitsVal_snoc _ _
      rw [List.concat_eq_append, e, numL_step (by omega)]
      have e1 : (NumText.digitsVal (c :: r') * 10 + (d - 48)) / 10 = NumText.digitsVal (c :: r') := by omega
      have e2 : (NumText.digitsVal (c :: r') * 10 + (d - 48)) % 10 = d - 48 := by omega
      rw [e1, e2, hq, List.cons_append]
      congr 2
      have : 48 + (d - 48) = d := by omega
      rw [this]
section
variable {src : List Nat} {k : Nat}
theorem m7 : ("take_times" : Str) ∉ (["source", "spot"] : List Str) := by decide +kernel
theorem seen_eq {cs : List Nat} : seen src k cs = match (src.drop k).head? with | some c => decide (c ∈ cs) | none => false := by
  unfold seen
  rw [List.head?_drop] <;> rfl
end
end Sc
namespace Sc
open PySem PySem.Spec PyProof.Rows L2 Pm
open Pg (sg abc_T Fi x_is_between)
open TL (joinL)
end Sc
namespace Sc
open PySem PySem.Spec PyProof.Rows L2 Pm
open Pg (sg abc_T)
open TL (joinL)
end Sc
namespace Sc
open PySem PySem.Spec PyProof.Rows L2 Pm
open Pg (sg ABC abc_T)
noncomputable def t_read_tree_1 : M Bool := (notT (tst (callF x_Scanner__is_at_end (aCons (chk "Scanner" "is_at_end" (loc 1)) aNil))))
noncomputable def b_read_tree_1 : M Fl := (drp (callF x_Growing__put (aCons (chk "Growing" "put" (loc 2)) (aCons (callF x_Scanner__take (aCons (chk "Scanner" "take" (loc 1)) (aCons (callF x_Growing__expected (aCons (chk "Growing" "expected" (loc 2)) aNil)) aNil))) aNil))))
noncomputable def b_read_tree : M Fl := (seq (asg (makeC "Scanner" x_Scanner____init__ (aCons (loc 0) aNil)) (gN 1))
    (seq (asg (makeC "Growing" x_Growing____init__ aNil) (gN 2))
    (seq (whl t_read_tree_1 b_read_tree_1)
    (seq (Pm.ite (notT (tst (callF x_Growing__is_whole (aCons (chk "Growing" "is_whole" (loc 2)) aNil)))) (raise1 "InvalidText" "position" (app opLen (aCons (loc 0) aNil))) sNx)
    (seq (Pm.ite (tst (Pm.bin opGtA (app opLen (aCons (fldE "Growing" "signs" (loc 2)) aNil)) (con (.int 200)))) (raise1 "InvalidText" "position" (con .non)) sNx)
    (rtn (disp false .tup (aCons (fldE "Growing" "signs" (loc 2)) (aCons (app1P opTuple 2 [.f "Growing" "above"]) aNil)))))))))
noncomputable def x_read_tree : FSem := mkF 1 3 [] b_read_tree
/-- what the text gives: what has grown, or where it stops fitting (none: too many operators) -/
def treeT (g : GS) : D := .node false .tup [.str (T g.s), .node false .tup (g.ab.map oI)]
inductive TrR (src : List Nat) : Option GS → Option (Option Nat) → Prop
  | ret {g k} : walkG g0 src 0 = (some g, k) → wholeG g = true → g.s.length ≤ 200 → TrR src (some g) none
  | big {g k} : walkG g0 src 0 = (some g, k) → wholeG g = true → 200 < g.s.length → TrR src none (some none)
  | short {g k} : walkG g0 src 0 = (some g, k) → wholeG g = false → TrR src none (some (some src.length))
  | bad {k} : walkG g0 src 0 = (none, k) → TrR src none (some (some k))
def posX (p : Option Nat) : XD := ⟨"InvalidText", [("position", oI p)]⟩
theorem step_size {g g' : GS} {c : Nat} (h : stepG g c = some g') : g'.s.length ≤ g.s.length + 1 ∧ g'.stk.length ≤ g.stk.length + 1 := by
  unfold stepG at h
  split at h
  · split at h
    · cases h; exact ⟨by simp, by simp⟩
    · split at h
      · cases h; exact ⟨by simp, by simp⟩
      · cases h
  · split at h
    · cases h; exact ⟨by simp, by simp⟩
    · cases h
  · split at h
    · cases h; exact ⟨by simp, by simp⟩
    · split at h
      · cases h; exact ⟨by simp, by simp⟩
      · cases h
  · split at h
    · rename_i e
      split at h
      · cases h; exact ⟨by simp, by simp [e]; omega⟩
      · cases h
    · cases h
  · cases h
theorem fld_s2 {s : List Nat} {A P : List D} {ρ : Pm.Env} (h : ρ.getD 2 none = some (gX s A P)) : fldE "Growing" "signs" (loc 2) ρ = .ok (.val (.str (T s))) ρ := by
  unfold fldE
  simp only [bnd, loc, h, peek1]
  rfl
theorem readT_any {src : List Nat} (hl : src.length ≤ 10000) :
    (∃ g, TrR src (some g) none ∧ x_read_tree [.str (T src)] = .ret (treeT g) [.str (T src)]) ∨ ∃ p, TrR src none (some p) ∧ x_read_tree [.str (T src)] = .exc (posX p) [.str (T src)] := by
  have hl' : src.length ≤ 1000000 := by omega
  have pl := fun k => scD_pl src k
  have hz : Wz x_read_tree [.str (T src)] (fun d as => as = [.str (T src)] ∧ ∃ g, TrR src (some g) none ∧ d = treeT g) (fun x as => as = [.str (T src)] ∧ ∃ p, TrR src none (some p) ∧ x = posX p) := by
    have ini := init_ok src
    have f4 := fun (k : Nat) (x y : Option D) => chk_ok (src := src) (k := k) (i := 1) (ρ := [x, some (scD src k), y]) m3 rfl
    have f1 := fun (k : Nat) (x y : Option D) => chk_ok (src := src) (k := k) (i := 1) (ρ := [x, some (scD src k), y]) m1 rfl
    have gp : ∀ g : GS, (gsD g).plain = false := fun g => gX_pl g.s (g.ab.map oI) (g.stk.reverse.map pD ++ [pD g.cur])
    have cg : ∀ (m : Str) (hm : m ∉ (["signs", "above", "parts"] : List Str)) (g : GS) (x y : Option D), chk "Growing" m (loc 2) [x, y, some (gsD g)] = .ok (.ref 2) [x, y, some (gsD g)] := fun m hm g x y => chk_g hm rfl
    have back : ∀ x y, argsBack [] [some (.str (T src)), x, y] 0 (reFrz [] 0 [.str (T src)]) = some [.str (T src)] := fun x y => by simp [argsBack, reFrz, D.plain]
    unfold x_read_tree
    refine wz_mkF ?_
    unfold b_read_tree t_read_tree_1 b_read_tree_1
    show We _ [some (.str (T src)), none, none] _ _
    generalize hQ : (fun (d : D) (as : List D) => as = [.str (T src)] ∧ ∃ g, TrR src (some g) none ∧ d = treeT g) = QQ
    have hQd : ∀ d, (∃ g, TrR src (some g) none ∧ d = treeT g) → QQ d [.str (T src)] := fun d h => by rw [← hQ]; exact ⟨rfl, h⟩
    have s1 : asg (makeC "Scanner" x_Scanner____init__ (aCons (loc 0) aNil)) (gN 1) [some (.str (T src)), none, none] = .ok .nx [some (.str (T src)), some (scD src 0), none] := by
      generalize T src = TS at *
      generalize scD src 0 = SD at *
      generalize x_Scanner____init__ = XI at *
      simp [makeC, mkF, reFrz, seq, Pm.ite, rtn, mov, asg, drp, sNx, bnd, Pm.bin, Pm.un, app, aCons, aNil, idx, loc, con, Pm.ret, peek1, peeks, itemOf, on2I, iAdd, iSub, iGt, iGe, iLt, iLe, iDiv, iMod, use1, useL, gI, gN, tst, andT, orT, notT, andE, orE, notE, ifE, ixN, D.frz, D.plain, plainL, argsBack, opLen, opAbs, opInt1, opNeg, disp, cap, callF, takes, puts, selA, sel, aApp, par, gT, gsC, gs0, appF, opDivmod, frzL, plainL, ini]
    refine we_ok s1 ?_
    have s2 : asg (makeC "Growing" x_Growing____init__ aNil) (gN 2) [some (.str (T src)), some (scD src 0), none] = .ok .nx [some (.str (T src)), some (scD src 0), some (gsD g0)] := by
      have i2 : x_Growing____init__ [.node true (.ins "Growing" []) []] = .ret .non [gsD g0] := init_ok'
      generalize gsD g0 = SG at *
      generalize T src = TS at *
      generalize scD src 0 = SD at *
      generalize x_Growing____init__ = XI at *
      simp [makeC, mkF, reFrz, seq, Pm.ite, rtn, mov, asg, drp, sNx, bnd, Pm.bin, Pm.un, app, aCons, aNil, idx, loc, con, Pm.ret, peek1, peeks, itemOf, on2I, iAdd, iSub, iGt, iGe, iLt, iLe, iDiv, iMod, use1, useL, gI, gN, tst, andT, orT, notT, andE, orE, notE, ifE, ixN, D.frz, D.plain, plainL, argsBack, opLen, opAbs, opInt1, opNeg, disp, cap, callF, takes, puts, selA, sel, aApp, par, gT, gsC, gs0, appF, opDivmod, frzL, plainL, i2]
    refine we_ok s2 ?_
    clear s1 s2
    refine we_seq ?_
    refine we_whl (fun n ρ => ∃ (g : GS) (k : Nat), GI g ∧ walkG g0 src 0 = walkG g (src.drop k) k ∧ k ≤ src.length ∧ g.s.length ≤ k ∧ g.stk.length ≤ k ∧ n = src.length - k ∧ ρ = [some (.str (T src)), some (scD src k), some (gsD g)]) ?_ src.length _
      ⟨g0, 0, g0_inv, rfl, Nat.zero_le _, Nat.zero_le _, Nat.zero_le _, rfl, rfl⟩
    rintro n ρ ⟨g, k, I, hw, hk, hs1, hs2, rfl, rfl⟩
    have ae := atend_ok (src := src) (k := k) hl'
    have hcond : ∀ b, decide (k = src.length) = b → notT (tst (callF x_Scanner__is_at_end (aCons (chk "Scanner" "is_at_end" (loc 1)) aNil))) [some (.str (T src)), some (scD src k), some (gsD g)] = .ok (!b) [some (.str (T src)), some (scD src k), some (gsD g)] := fun b hb => by
      rw [hb] at ae
      have f1 := f1 k
      have pa := pl k
      generalize scD src k = SD at *
      generalize T src = TS at *
      generalize gsD g = GD at *
      generalize chk "Scanner" "is_at_end" (loc 1) = F1 at *
      generalize x_Scanner__is_at_end = XA at *
      simp [mkF, reFrz, seq, Pm.ite, rtn, mov, asg, drp, sNx, bnd, Pm.bin, Pm.un, app, aCons, aNil, idx, loc, con, Pm.ret, peek1, peeks, itemOf, on2I, iAdd, iSub, iGt, iGe, iLt, iLe, iDiv, iMod, use1, useL, gI, gN, tst, andT, orT, notT, andE, orE, notE, ifE, ixN, D.frz, D.plain, plainL, argsBack, opLen, opAbs, opInt1, opNeg, disp, cap, callF, takes, puts, selA, sel, aApp, par, gT, gsC, gs0, appF, opDivmod, frzL, plainL, f1, ae, pa]
    by_cases hke : k = src.length
    · refine Wp.of (hcond _ (decide_eq_true hke)) ⟨fun q => (nomatch q), fun _ => ⟨rfl, ?_⟩⟩
      clear hcond ae
      have hdn : src.drop k = [] := List.drop_eq_nil_of_le (by omega)
      rw [hdn] at hw
      have hw' : walkG g0 src 0 = (some g, k) := hw
      have wo := whole_ok I
      have c5 := cg "is_whole" n6 g (some (.str (T src))) (some (scD src k))
      have hol : opLen [.str (T src)] = some (.int (src.length : Int)) := len_T (by show _ ≤ 1000000; omega)
      cases hwh : wholeG g with
      | false =>
        rw [hwh] at wo
        refine we_exc (x := posX (some src.length)) (ρ1 := [some (.str (T src)), some (scD src k), some (gsD g)]) ?_ ⟨_, back _ _, rfl, _, .short hw' hwh, rfl⟩
        show _ = Res.exc ⟨"InvalidText", [("position", .int (src.length : Int))]⟩ _
        have gpp := gp g
        generalize scD src k = SD at *
        generalize T src = TS at *
        generalize gsD g = GD at *
        generalize (src.length : Int) = LN at *
        generalize chk "Growing" "is_whole" (loc 2) = F1 at *
        generalize x_Growing__is_whole = XA at *
        generalize opLen = OL at *
        simp [mkF, reFrz, seq, Pm.ite, rtn, mov, asg, drp, sNx, bnd, Pm.bin, Pm.un, app, aCons, aNil, idx, loc, con, Pm.ret, peek1, peeks, itemOf, on2I, iAdd, iSub, iGt, iGe, iLt, iLe, iDiv, iMod, use1, useL, gI, gN, tst, andT, orT, notT, andE, orE, notE, ifE, ixN, D.frz, D.plain, plainL, argsBack, opLen, opAbs, opInt1, opNeg, disp, cap, callF, takes, puts, selA, sel, aApp, par, gT, gsC, gs0, appF, opDivmod, frzL, plainL, raise1, c5, wo, gpp, hol]
      | true =>
        rw [hwh] at wo
        refine we_ok (ρ1 := [some (.str (T src)), some (scD src k), some (gsD g)]) ?_ ?_
        · have gpp := gp g
          generalize scD src k = SD at *
          generalize T src = TS at *
          generalize gsD g = GD at *
          generalize chk "Growing" "is_whole" (loc 2) = F1 at *
          generalize x_Growing__is_whole = XA at *
          simp [mkF, reFrz, seq, Pm.ite, rtn, mov, asg, drp, sNx, bnd, Pm.bin, Pm.un, app, aCons, aNil, idx, loc, con, Pm.ret, peek1, peeks, itemOf, on2I, iAdd, iSub, iGt, iGe, iLt, iLe, iDiv, iMod, use1, useL, gI, gN, tst, andT, orT, notT, andE, orE, notE, ifE, ixN, D.frz, D.plain, plainL, argsBack, opLen, opAbs, opInt1, opNeg, disp, cap, callF, takes, puts, selA, sel, aApp, par, gT, gsC, gs0, appF, opDivmod, frzL, plainL, c5, wo, gpp]
        · have fs : fldE "Growing" "signs" (loc 2) [some (.str (T src)), some (scD src k), some (gsD g)] = .ok (.val (.str (T g.s))) [some (.str (T src)), some (scD src k), some (gsD g)] := fld_s2 rfl
          have ol : opLen [.str (T g.s)] = some (.int (g.s.length : Int)) := len_T (by show _ ≤ 1000000; omega)
          have og : opGtA [.int (g.s.length : Int), .int 200] = some (.bl (decide (200 < g.s.length))) := by
            rw [opGtA_ii]
            congr 2
            rw [decide_eq_decide]
            omega
          have tu : app1P opTuple 2 [.f "Growing" "above"] [some (.str (T src)), some (scD src k), some (gsD g)] = .ok (.val (.node false .tup (g.ab.map oI))) [some (.str (T src)), some (scD src k), some (gsD g)] := by
            have e : opTuple [.node true .lst (g.ab.map oI)] = some (.node false .tup (g.ab.map oI)) := by
              have hpl : plainL (g.ab.map oI) = true := by
                rw [plainL_all]
                simp [oI_pl]
              generalize g.ab.map oI = L at *
              simp [opTuple, hpl]
            unfold app1P gsD
            simp only [List.getD_eq_getElem?_getD, List.getElem?_cons_succ, List.getElem?_cons_zero, Option.getD_some, res_above, e]
          by_cases hb : 200 < g.s.length
          · rw [decide_eq_true hb] at og
            refine we_exc (x := posX none) (ρ1 := [some (.str (T src)), some (scD src k), some (gsD g)]) ?_ ⟨_, back _ _, rfl, _, .big hw' hwh hb, rfl⟩
            show _ = Res.exc ⟨"InvalidText", [("position", .non)]⟩ _
            generalize scD src k = SD at *
            generalize T src = TS at *
            generalize gsD g = GD at *
            generalize T g.s = TG at *
            generalize (g.s.length : Int) = LN at *
            generalize fldE "Growing" "signs" (loc 2) = F1 at *
            generalize opLen = OL at *
            simp [mkF, reFrz, seq, Pm.ite, rtn, mov, asg, drp, sNx, bnd, Pm.bin, Pm.un, app, aCons, aNil, idx, loc, con, Pm.ret, peek1, peeks, itemOf, on2I, iAdd, iSub, iGt, iGe, iLt, iLe, iDiv, iMod, use1, useL, gI, gN, tst, andT, orT, notT, andE, orE, notE, ifE, ixN, D.frz, D.plain, plainL, argsBack, opLen, opAbs, opInt1, opNeg, disp, cap, callF, takes, puts, selA, sel, aApp, par, gT, gsC, gs0, appF, opDivmod, frzL, plainL, raise1, fs, ol, og]
          · rw [decide_eq_false hb] at og
            have fin : Pm.Fin [] [.str (T src)] QQ (.rt (treeT g)) [some (.str (T src)), some (scD src k), some (gsD g)] := ⟨[.str (T src)], back _ _, hQd _ ⟨g, .ret hw' hwh (by omega), rfl⟩⟩
            refine we_ok (ρ1 := [some (.str (T src)), some (scD src k), some (gsD g)]) ?_ (We.of (a := .rt (treeT g)) (ρ' := [some (.str (T src)), some (scD src k), some (gsD g)]) ?_ fin)
            · generalize scD src k = SD at *
              generalize T src = TS at *
              generalize gsD g = GD at *
              generalize T g.s = TG at *
              generalize (g.s.length : Int) = LN at *
              generalize fldE "Growing" "signs" (loc 2) = F1 at *
              generalize opLen = OL at *
              simp [mkF, reFrz, seq, Pm.ite, rtn, mov, asg, drp, sNx, bnd, Pm.bin, Pm.un, app, aCons, aNil, idx, loc, con, Pm.ret, peek1, peeks, itemOf, on2I, iAdd, iSub, iGt, iGe, iLt, iLe, iDiv, iMod, use1, useL, gI, gN, tst, andT, orT, notT, andE, orE, notE, ifE, ixN, D.frz, D.plain, plainL, argsBack, opLen, opAbs, opInt1, opNeg, disp, cap, callF, takes, puts, selA, sel, aApp, par, gT, gsC, gs0, appF, opDivmod, frzL, plainL, fs, ol, og]
            · unfold treeT
              generalize scD src k = SD at *
              generalize T src = TS at *
              generalize gsD g = GD at *
              generalize T g.s = TG at *
              generalize g.ab.map oI = AB at *
              generalize fldE "Growing" "signs" (loc 2) = F1 at *
              generalize app1P opTuple 2 [.f "Growing" "above"] = F2 at *
              simp [mkF, reFrz, seq, Pm.ite, rtn, mov, asg, drp, sNx, bnd, Pm.bin, Pm.un, app, aCons, aNil, idx, loc, con, Pm.ret, peek1, peeks, itemOf, on2I, iAdd, iSub, iGt, iGe, iLt, iLe, iDiv, iMod, use1, useL, gI, gN, tst, andT, orT, notT, andE, orE, notE, ifE, ixN, D.frz, D.plain, plainL, argsBack, opLen, opAbs, opInt1, opNeg, disp, cap, callF, takes, puts, selA, sel, aApp, par, gT, gsC, gs0, appF, opDivmod, frzL, plainL, fs, tu]
    · refine Wp.of (hcond _ (decide_eq_false hke)) ⟨fun _ => ?_, fun q => (nomatch q)⟩
      clear hcond ae
      have ex := expected_ok g
      have c5 := cg "expected" n5 g (some (.str (T src))) (some (scD src k))
      have c4 := cg "put" n4 g (some (.str (T src)))
      have f4a := f4 k
      have pa := pl k
      have gpp := gp g
      cases hdk : src.drop k with
      | nil =>
        have := congrArg List.length hdk
        rw [List.length_drop] at this
        exact absurd this (by simp; omega)
      | cons c w =>
        obtain ⟨hc, hr⟩ := drop_head hdk
        rw [hdk] at hw
        cases hst : stepG g c with
        | none =>
          have hne : c ∉ expL g := fun q => by rw [exp_iff I, hst] at q; cases q
          have tx := take_exc (cs := expL g) hl' hk (by
            rw [seen_eq, hdk]
            exact decide_eq_false hne)
          refine We.x (x := posX (some k)) (ρ' := [some (.str (T src)), some (scD src k), some (gsD g)]) ?_ ⟨_, back _ _, rfl, _, .bad (k := k) (by rw [hw]; simp only [walkG, hst]), rfl⟩
          show _ = Res.exc (ivX k) _
          generalize ivX k = IV at *
          generalize scD src k = SD at *
          generalize T src = TS at *
          generalize T (expL g) = TE at *
          generalize gsD g = GD at *
          generalize chk "Scanner" "take" (loc 1) = F4 at *
          generalize chk "Growing" "put" (loc 2) = F5 at *
          generalize chk "Growing" "expected" (loc 2) = F6 at *
          generalize x_Scanner__take = XT at *
          generalize x_Growing__expected = XE at *
          generalize x_Growing__put = XP at *
          simp [mkF, reFrz, seq, Pm.ite, rtn, mov, asg, drp, sNx, bnd, Pm.bin, Pm.un, app, aCons, aNil, idx, loc, con, Pm.ret, peek1, peeks, itemOf, on2I, iAdd, iSub, iGt, iGe, iLt, iLe, iDiv, iMod, use1, useL, gI, gN, tst, andT, orT, notT, andE, orE, notE, ifE, ixN, D.frz, D.plain, plainL, argsBack, opLen, opAbs, opInt1, opNeg, disp, cap, callF, takes, puts, selA, sel, aApp, par, gT, gsC, gs0, appF, opDivmod, frzL, plainL, f4a, c4, c5, ex, tx, pa, gpp]
        | some g' =>
          have hin : c ∈ expL g := by rw [exp_iff I, hst]; rfl
          have tk := take_ok (cs := expL g) hl' hc hin
          have ps := put_sim I hst (by omega) (by omega)
          have sz := step_size hst
          have c4' := c4 (some (scD src k))
          have pb := pl (k + 1)
          have gpp' := gp g'
          refine We.of (a := .nx) (ρ' := [some (.str (T src)), some (scD src (k + 1)), some (gsD g')]) ?_ ?_
          · generalize scD src (k + 1) = SD1 at *
            generalize scD src k = SD at *
            generalize T src = TS at *
            generalize T (expL g) = TE at *
            generalize T [c] = TC at *
            generalize gsD g = GD at *
            generalize gsD g' = GD' at *
            generalize chk "Scanner" "take" (loc 1) = F4 at *
            generalize chk "Growing" "put" (loc 2) = F5 at *
            generalize chk "Growing" "expected" (loc 2) = F6 at *
            generalize x_Scanner__take = XT at *
            generalize x_Growing__expected = XE at *
            generalize x_Growing__put = XP at *
            simp [mkF, reFrz, seq, Pm.ite, rtn, mov, asg, drp, sNx, bnd, Pm.bin, Pm.un, app, aCons, aNil, idx, loc, con, Pm.ret, peek1, peeks, itemOf, on2I, iAdd, iSub, iGt, iGe, iLt, iLe, iDiv, iMod, use1, useL, gI, gN, tst, andT, orT, notT, andE, orE, notE, ifE, ixN, D.frz, D.plain, plainL, argsBack, opLen, opAbs, opInt1, opNeg, disp, cap, callF, takes, puts, selA, sel, aApp, par, gT, gsC, gs0, appF, opDivmod, frzL, plainL, f4a, c4, c4', c5, ex, tk, ps, pa, gpp, gpp', pb]
          · refine ⟨src.length - (k + 1), by omega, g', k + 1, step_inv I hst, ?_, by omega, by omega, by omega, rfl, rfl⟩
            rw [hw]
            simp only [walkG, hst]
            rw [← hr]
  rcases hz with ⟨d, bs, e, rfl, g, hg, rfl⟩ | ⟨x, bs, e, rfl, p, hp, rfl⟩
  · exact .inl ⟨g, hg, e⟩
  · exact .inr ⟨p, hp, e⟩
end Sc
namespace Pm
open PySem PySem.Spec PyProof.Rows L2
/-- a def that is told, whose table is its own and not told -/
def okTab (K : PySem.W.Frag) (recs : List Str) (t : Str × Addr × Addr) : Bool :=
  recs.any (fun n => n == t.1) && (K.lookup t.2.2).isNone && PySem.W.codeHdIn K t.2.1 t.2.2 && (tabsK K).all fun u => !decide (u.2.2 = t.2.2) || decide (u.1 = t.1)
def okTabs (K : PySem.W.Frag) (recs : List Str) : Bool := (tabsK K).all (okTab K recs)
def tabAt (K : PySem.W.Frag) (b : Addr) : Option (Str × Addr × Addr) := (tabsK K).find? fun t => decide (t.2.2 = b)
/-- the script alone is tracked, at a, locked; and the tables -/
noncomputable def scrH (K : PySem.W.Frag) (a : Addr) (ob : Obj) (ns : List Int) : Hp := fun b => open Classical in if b = a ∧ K.lookup a = none then some (.frz ob (.lst (ns.map V.int))) else if (tabAt K b).isSome then some (.tbl #[]) else none
/-- the same, the tables marked -/
noncomputable def scrZ (K : PySem.W.Frag) (a : Addr) (ob : Obj) (ns : List Int) : Hp := fun b => open Classical in if b = a ∧ K.lookup a = none then some (.frz ob (.lst (ns.map V.int))) else (tabAt K b).map fun t => mark (lamName t.1)
theorem reps_ints {K : PySem.W.Frag} {Z H : Hp} {S : Fp} : ∀ ns : List Int, RepL K Z H (ns.map D.int) (ns.map V.int) S
  | [] => trivial
  | n :: ns => ⟨Fp0, S, fun _ x => x.elim, fun _ x => x, fun _ x _ => x, rfl, reps_ints ns⟩
theorem tabAt_mem {K : PySem.W.Frag} {b : Addr} {t : Str × Addr × Addr} (h : tabAt K b = some t) : t ∈ tabsK K ∧ t.2.2 = b :=
  ⟨List.mem_of_find?_eq_some h, of_decide_eq_true (List.find?_some (p := fun t : Str × Addr × Addr => decide (t.2.2 = b)) h)⟩
theorem tabAt_of {K : PySem.W.Frag} {recs : List Str} (ok : okTabs K recs = true) {t : Str × Addr × Addr} (h : t ∈ tabsK K) : ∃ u, tabAt K t.2.2 = some u ∧ u.1 = t.1 := by
  cases e : tabAt K t.2.2 with
  | none =>
    have := List.find?_eq_none.mp e t h
    simp at this
  | some u =>
    obtain ⟨h1, h2⟩ := tabAt_mem e
    have q := List.all_eq_true.mp ok t h
    unfold okTab at q
    rw [Bool.and_eq_true] at q
    have q2 := List.all_eq_true.mp q.2 u h1
    simp only [h2, decide_true, Bool.not_true, Bool.false_or, decide_eq_true_eq] at q2
    exact ⟨u, rfl, q2⟩
theorem okTab_of {K : PySem.W.Frag} {recs : List Str} (ok : okTabs K recs = true) {t : Str × Addr × Addr} (h : t ∈ tabsK K) : recs.any (fun n => n == t.1) = true ∧ K.lookup t.2.2 = none ∧ PySem.W.codeHdIn K t.2.1 t.2.2 = true := by
  have q := List.all_eq_true.mp ok t h
  unfold okTab at q
  rw [Bool.and_eq_true, Bool.and_eq_true, Bool.and_eq_true] at q
  exact ⟨q.1.1.1, Option.isNone_iff_eq_none.mp q.1.1.2, q.1.2⟩
/-- what a lambda's maker is told: its code object and its table -/
def TBs (K : PySem.W.Frag) (mg : Str → Option Value) (base : Heap) : Prop := ∀ t ∈ tabsK K, LamX.TabB base mg t.2.1 t.2.2
/-- the law's call at the head's end -/
theorem end_call {P : Program} {w : World} {K : PySem.W.Frag} {mg mb : Str → Option Value} {k : Nat} {fa a : Addr} {fd : FuncData} {x : Str} {g : FSem} {s1 : Shared} {vs : List Value} {ns : List Int} {recs : List Str}
    (hK : K.In s1.heap) (hm : s1.heap.Ns mainGlobals mg) (hb : s1.heap.Ns builtinsNs mb) (hbb : ∀ x : Str, x ≠ "__name__" → mb x = bootBuiltins x) (hl : s1.heap.NoLimit) (hg : s1.gens = #[])
    (okt : okTabs K recs = true) (htb : ∀ t ∈ tabsK K, s1.heap.get? t.2.2 = some { cls := .none, data := .fields #[] })
    (hbm : ∃ (bm : Addr) (ob : Obj), mg "__builtins__" = some (.ref bm) ∧ bm ≠ builtinsNs ∧ s1.heap.get? bm = some ob ∧ ob.cls = .type "module" ∧ ob.dict = some builtinsNs ∧ ob.data = .plain)
    (ha : s1.heap.get? a = some { cls := .type "list", data := .seq vs.toArray }) (hi : IntsAre vs ns) (hz : ns.length ≤ sizeLine) (hr : Room k callerA)
    (F : ∀ base : Heap, K.In base → base.Ns mainGlobals mg → TBs K mg base → FnG P w K mg base k fa fd [x] g) (bd : ∀ (s : Shared) (u : Value), BindsTo s fd ⟨[u], []⟩ [(x, u)])
    (ok : ∃ as, g [.scr (ns.map D.int)] = .ret (.bl true) as) :
    codeAny (model P w) callerA (.call (.ref fa) ⟨[.ref a], []⟩) (fun r s' => r = .ok (.ret (.bool true)) ∧ OldK s1.heap s'.heap ∧ s'.os = s1.os ∧ AllBare s'.gens) s1 := by
  have rv := vals_ints hi
  have nl := hi.length
  obtain ⟨H, hH⟩ : ∃ H : Hp, H = scrH K a { cls := .type "list", data := .seq vs.toArray } ns := ⟨_, rfl⟩
  obtain ⟨Z, hZ⟩ : ∃ Z : Hp, Z = scrZ K a { cls := .type "list", data := .seq vs.toArray } ns := ⟨_, rfl⟩
  have tget : ∀ b t, tabAt K b = some t → s1.heap.get? b = some { cls := .none, data := .fields #[] } := fun b t e => by
    obtain ⟨h1, h2⟩ := tabAt_mem e
    rw [← h2]
    exact htb t h1
  have aT : tabAt K a = none := by
    cases e : tabAt K a with
    | none => rfl
    | some t =>
      have q := tget a t e
      rw [ha] at q
      have q2 : Data.seq vs.toArray _ = Data.fields #[] := congrArg Obj.data (Option.some.inj q)
      cases q2
  have at1 : ∀ b o, H b = some o → (b = a ∧ K.lookup a = none ∧ o = .frz { cls := .type "list", data := .seq vs.toArray } (.lst (ns.map V.int))) ∨ (∃ t, tabAt K b = some t ∧ o = .tbl #[]) := fun b o e => by
    rw [hH] at e
    unfold scrH at e
    split at e
    · rename_i c
      exact .inl ⟨c.1, c.2, (Option.some.inj e).symm⟩
    · split at e
      · rename_i c
        obtain ⟨t, ht⟩ := Option.isSome_iff_exists.mp c
        exact .inr ⟨t, ht, (Option.some.inj e).symm⟩
      · cases e
  have Ht : ∀ b t, tabAt K b = some t → H b = some (.tbl #[]) ∧ Z b = some (mark (lamName t.1)) := fun b t e => by
    have nb : ¬ (b = a ∧ K.lookup a = none) := fun c => by
      rw [c.1, aT] at e
      cases e
    rw [hH, hZ]
    unfold scrH scrZ
    rw [if_neg nb, if_neg nb, e]
    exact ⟨rfl, rfl⟩
  have atZ : ∀ b o, Z b = some o → (b = a ∧ H b = some o ∧ NT o) ∨ (∃ t, tabAt K b = some t ∧ o = mark (lamName t.1)) := fun b o e => by
    have e0 := e
    rw [hZ] at e
    unfold scrZ at e
    split at e
    · rename_i c
      cases e
      refine .inl ⟨c.1, ?_, nt_frz⟩
      rw [hH]
      unfold scrH
      rw [if_pos c]
    · obtain ⟨t, ht, rfl⟩ := Option.map_eq_some_iff.mp e
      exact .inr ⟨t, ht, rfl⟩
  have hok : HOk P w H s1.heap := fun b o e => by
    rcases at1 b o e with ⟨rfl, _, rfl⟩ | ⟨t, ht, rfl⟩
    · exact ⟨ha, by rw [List.length_map]; exact hz, vs, _, rv, ha⟩
    · exact tget b t ht
  have sqz : SqL K Z a (ns.map V.int) := by
    cases e : K.lookup a with
    | none => exact .inl (.inr ⟨{ cls := .type "list", data := .seq vs.toArray }, by rw [hZ]; exact if_pos ⟨rfl, e⟩⟩)
    | some o =>
      have q := hK a o e
      rw [ha] at q
      cases q
      exact .inr ⟨_, vs.toArray, 0, e, rfl, rfl, rfl, by rw [List.size_toArray, nl]; exact hz, by simpa using rv⟩
  have low : ∀ {b : Addr} {o : Obj}, s1.heap.get? b = some o → (∀ ys n, o.data ≠ .seq ys n) → o.data ≠ .fields #[] → (hidT s1.heap H).get? b = some o := fun {b o} e n1 n2 => hidT_get e (by
    cases q : H b with
    | none => rfl
    | some u =>
      rcases at1 b u q with ⟨rfl, _, _⟩ | ⟨t, ht, _⟩
      · rw [ha] at e
        cases e
        exact (n1 _ _ rfl).elim
      · rw [tget b t ht] at e
        cases e
        exact (n2 rfl).elim)
  have lowN : ∀ {b : Addr} {m : Str → Option Value}, s1.heap.Ns b m → (hidT s1.heap H).Ns b m := fun {b m} h => by
    obtain ⟨o, es, ep, e, d, r⟩ := h
    refine ⟨o, es, ep, low e (fun ys n q => ?_) fun q => ?_, d, r⟩
    · rw [d] at q
      cases q
    · rw [d] at q
      cases q
  have lowK : K.In (hidT s1.heap H) := fun b o e => hidT_get (hK b o e) (by
    cases q : H b with
    | none => rfl
    | some u =>
      rcases at1 b u q with ⟨rfl, n, _⟩ | ⟨t, ht, _⟩
      · rw [n] at e
        cases e
      · obtain ⟨h1, h2⟩ := tabAt_mem ht
        have := (okTab_of okt h1).2.1
        rw [h2, e] at this
        cases this)
  have md : Mod K mg (hidT s1.heap H) := ⟨lowK, lowN hm, ⟨mb, lowN hb, hbb⟩, by
    obtain ⟨mc, p, q⟩ := hl
    exact ⟨mc, lowN p, q⟩⟩
  have tbs : TBs K mg (hidT s1.heap H) := fun t ht => by
    have hP := htb t ht
    obtain ⟨_, _, hc⟩ := okTab_of okt ht
    refine ⟨PySem.W.codeHd_of_K lowK hc, ?_, fun z => ?_⟩
    · obtain ⟨bm, ob, b1, b2, b3, b4, b5, b6⟩ := hbm
      refine ⟨bm, ob, b1, b2, fun q => ?_, fun q => ?_, low b3 (fun ys n q => ?_) fun q => ?_, b4, b5, b6⟩
      · obtain ⟨o, es, ep, e, hd, _⟩ := hm
        rw [q, e] at b3
        cases b3
        rw [hd] at b6
        cases b6
      · rw [q, hP] at b3
        cases b3
        cases b6
      · rw [b6] at q
        cases q
      · rw [b6] at q
        cases q
    · obtain ⟨o, es, ep, e, hd, _⟩ := hm
      rw [z, hP] at e
      cases e
      cases hd
  have e0 : Env0 P w K mg (hidT s1.heap H) callerA [] s1 H := ⟨rfl, md, fun _ _ e => of_hidT e, Nat.le_of_eq (hidT_size _ _), trivial, fun _ z => (nomatch z), hok, .of_eq hg⟩
  have mks : Marks K Z := fun t ht => by
    obtain ⟨u, h1, h2⟩ := tabAt_of okt ht
    rw [(Ht _ u h1).2, h2]
  have wd : Wd Z H Fp0 := ⟨⟨fun b o e n => by
    rcases atZ b o e with ⟨_, h, _⟩ | ⟨t, ht, rfl⟩
    · exact h
    · exact absurd rfl (n _)⟩, fun _ x => x.elim, fun _ x => x.elim, (tabsK K).map fun t => (t.2.2, lamName t.1), fun b ps e => by
    rcases atZ b _ e with ⟨_, _, h⟩ | ⟨t, ht, q⟩
    · exact absurd rfl (h _)
    · obtain ⟨h1, h2⟩ := tabAt_mem ht
      exact ⟨_, q, List.mem_map.mpr ⟨t, h1, by rw [h2]⟩⟩, fun p hp => by
    obtain ⟨t, ht, rfl⟩ := List.mem_map.mp hp
    obtain ⟨u, h1, h2⟩ := tabAt_of okt ht
    obtain ⟨h3, h4⟩ := Ht _ u h1
    rw [h2] at h4
    exact ⟨h4, #[], h3, True.intro, fun pos cv z => by simp [codeAmong] at z⟩⟩
  obtain ⟨as, eg⟩ := ok
  have sp : spG K mg g [.ref a] H (fun v _ => v = .bl true) (fun _ _ _ => False) := by
    refine ⟨Z, Fp0, [.scr (ns.map D.int)], mks, wd, ⟨Fp0, Fp0, fun _ x => x, fun _ x => x, fun _ x _ => x, ⟨a, ns.map V.int, rfl, sqz, reps_ints ns⟩, trivial⟩, ?_⟩
    rw [eg]
    exact fun v Z' H' S' Sd _ _ _ r => r
  refine codeAny_mono ((F _ lowK (lowN hm) tbs).run callerA [] s1 H ⟨[.ref a], []⟩ [.ref a] [.ref a] _ _ rfl hr e0 (bd s1 (.ref a)) (.cons rfl .nil) sp) fun r s' h => ?_
  cases r with
  | error e =>
    obtain ⟨_, _, _, _, _, _, _, _, _, _, _, _, z⟩ := h
    exact z.elim
  | ok fl =>
    cases fl with
    | next => exact h.elim
    | brk => exact h.elim
    | cont => exact h.elim
    | ret u =>
      obtain ⟨v, H', os, bare, un, hok', r', q⟩ := h
      have q' : v = .bl true := q
      subst q'
      obtain rfl : u = Value.bool true := r'
      have keep : ∀ b o, tabAt K b = none → s1.heap.get? b = some o → s'.heap.get? b = some o := fun b o nt e => by
        cases t : H b with
        | none => exact un.keep b o e t (fun z => (nomatch z)) (fun z => (nomatch z))
        | some u =>
          rcases at1 b u t with ⟨rfl, n, rfl⟩ | ⟨t2, ht, _⟩
          · obtain ⟨e2, _⟩ := hok' b _ (un.frzs b _ _ t)
            rw [ha] at e
            rw [← e]
            exact e2
          · rw [nt] at ht
            cases ht
      have grow : ∀ b t, tabAt K b = some t → ∃ more : Array Value, s'.heap.get? b = some { cls := .none, data := .fields more } := fun b t e => by
        obtain ⟨more, z⟩ := un.tbls b #[] (Ht b t e).1
        exact ⟨_, hok' b _ z⟩
      refine ⟨rfl, ⟨fun b o e => ?_, fun b o e => ?_⟩, os, bare⟩
      · cases ht : tabAt K b with
        | none => exact .inl (keep b o ht e)
        | some t =>
          obtain ⟨more, hm2⟩ := grow b t ht
          have e1 := tget b t ht
          rw [e1] at e
          cases e
          obtain ⟨h1, h2⟩ := tabAt_mem ht
          have cd := PySem.W.codeHd_of_K hK (okTab_of okt h1).2.2
          rw [h2] at cd
          exact .inr (.inl ⟨(cd.tab e1).isCodeTable, rfl, #[], more, rfl, by rw [Array.empty_append]; exact hm2⟩)
      · cases ht : tabAt K b with
        | none => exact ⟨o, keep b o ht e⟩
        | some t =>
          obtain ⟨more, hm2⟩ := grow b t ht
          exact ⟨_, hm2⟩
theorem walkT {l : PySem.W.OpenLaw} {n k : Nat} {q : Program} {loose : List Str} {XP : (Str → Option Value) → Heap → Prop} {YP : World → Heap → Prop} {d : DefRec} {K : Params → PySem.W.Frag} {g : FSem} {x : Str}
    (hn : l.most = some n) (hn2 : n ≤ sizeLine) (hdf : d.params.defaults = []) (hr : Room k callerA) (hY : ∀ (w : World) (h : Heap), YP w h → (K w.params).In h)
    (okt : ∀ w : World, okTabs (K w.params) ((recsOf q).map (·.name)) = true)
    (F : ∀ (w : World) (mg : Str → Option Value) (fa : Addr) (h : Heap), (K w.params).In h → h.Ns mainGlobals mg → mg d.name = some (.ref fa) →
      ∃ fd : FuncData, (∀ (s : Shared) (u : Value), BindsTo s fd ⟨[u], []⟩ [(x, u)]) ∧ ∀ base : Heap, (K w.params).In base → base.Ns mainGlobals mg → TBs (K w.params) mg base → FnG l.prog w (K w.params) mg base k fa fd [x] g)
    (ok : ∀ ns : List Int, ns.length ≤ n → ∃ as, g [.scr (ns.map D.int)] = .ret (.bl true) as) : PySem.W.WalkO q loose XP YP l.row.toRowW d [] (fun f vs => PySem.call f vs) := by
  refine Att.attach_call hn hdf fun w s0 s1 mg mb fa o pm cd doc a vs ns G Y ho hd hcd hmg hobj hints hlen hg => ?_
  have KX := hY w _ Y
  obtain ⟨fd, hb, hF⟩ := F w mg fa _ KX G.T.g hmg
  refine end_call KX G.T.g G.T.b G.T.builtins G.T.nolimit hg (okt w) (fun t ht => ?_) G.T.bmain hobj hints (Nat.le_trans hlen hn2) hr hF hb (ok ns hlen)
  obtain ⟨h1, _, _⟩ := okTab_of (okt w) ht
  unfold tabsK at ht
  obtain ⟨x, hx, ex⟩ := List.mem_filterMap.mp ht
  obtain ⟨cp, hcp, rfl⟩ := Option.map_eq_some_iff.mp ex
  obtain ⟨nm, hn1, hn2⟩ := List.any_eq_true.mp h1
  obtain ⟨dr, hdr, rfl⟩ := List.mem_map.mp hn1
  obtain ⟨d2, hd2⟩ : ∃ d2, (recsOf q).find? (fun e => e.name == x) = some d2 := by
    cases e : (recsOf q).find? (fun e => e.name == x) with
    | some d2 => exact ⟨d2, rfl⟩
    | none =>
      have := List.find?_eq_none.mp e dr hdr
      exact absurd hn2 this
  exact (PySem.W.tab_of (c := cp.1) (P := cp.2) G.T KX hd2 (tabN_in hcp)).2
end Pm
set_option maxHeartbeats 2000000
namespace Pm
open PySem PySem.Spec PyProof.Rows L2
section
variable {X : Cx} {Ng : List Str} {x a en q : Str} {sg : Scope} {g : Addr} {cdg : Value} {bg rst hs : List Stmt} {h0 bst : Stmt} {ht : Expr} {q1 q2 p5 p6 : Pos} {m i : Nat} {A : Nat → Bool} {tst : Value → Option Bool} {p : Str → Option Bool} {pre sM rest : M Fl} {up : D → Env → Env} {uq : V → Sl → Sl}
abbrev hC (X : Cx) (Ng : List Str) (x : Str) (sg : Scope) (g : Addr) (cdg : Value) (s : Shared) (H : Hp) : Cx := cxOf C8.CX0 X.prog X.w X.K X.mg X.base Ng x sg g cdg X.A X.stack s H C8.E0
end
end Pm
set_option maxHeartbeats 2000000
namespace Pm
open PySem PySem.Spec PyProof.Rows L2
section
variable {X : Cx} {pins : List (Addr × Obj)} {σ : L2.St} {H0 HY : Hp} {t0 : Shared}
abbrev hE (qg : Str) (sg : Scope) (t0 : Shared) (g : Addr) (cdg : Value) : PySem.Env := envOfC qg sg t0.heap.objs.size g cdg
end
end Pm
set_option maxHeartbeats 2000000
namespace Pm
open PySem PySem.Spec PyProof.Rows L2 PySem.Calls
section
variable {X : Cx} {W : WX}
/-- names of classes, one by one -/
inductive ClsL (X : Cx) : List Expr → List (V × Value) → Prop where
  | nil : ClsL X [] []
  | cons {x : Str} {p : Pos} {cv : V} {cu : Value} {es : List Expr} {cs : List (V × Value)} : Names X x cu → ClsV cv cu → PE X (.Name x p) (tC cv) → (starEach (.Name x p :: es) X.env = (false, eval (.Name x p) X.env) :: starEach es X.env) → ClsL X es cs → ClsL X (.Name x p :: es) ((cv, cu) :: cs)
theorem ClsL.b {T : String} {p : Pos} {es : List Expr} {cs : List (V × Value)} (hm : X.mg T = none) (h : ClsL X es cs) (hv : bootBuiltins (T : Str) = some (.type T) := by rfl) (hg : Gl X (T : Str) := by rfl) (hn : (T : Str) ≠ "__name__" := by decide) (hd : ((T : Str) == ("__debug__" : Str)) = false := by decide)
    (hs : starEach (.Name (T : Str) p :: es) X.env = (false, eval (.Name (T : Str) p) X.env) :: starEach es X.env := by rfl) : ClsL X (.Name (T : Str) p :: es) ((V.ty T, .type T) :: cs) :=
  .cons ⟨hg, hd, .inr ⟨hm, hv, hn⟩⟩ (.ty T) (pe_bltn (v := V.ty T) hg hm hv rfl hn hd) hs h
/-- the names are evaluated in an exception's suite -/
theorem ClsL.run {a : Addr} {pn : List (Addr × Obj)} {σ : L2.St} {H : Hp} {s : Shared} {E' : Value → Shared → Prop} {pos : Pos} (S : Inv (X.suite a pn) [] σ H s) : ∀ {es : List Expr} {cs : List (V × Value)}, ClsL X es cs → ∀ Q : List Value → Shared → Prop, Q (cs.map (·.2)) s →
    wpAny (model X.prog X.w) (X.A.mark (some (.ref a))) (spliced (backTo pos (starEach es X.env))) Q E' s
  | _, _, .nil, Q, q => wpAny_items_nil q
  | _, _, .cons (cu := cu) hc _ _ hs h, Q, q => by
    refine wpAny_items_cons ?_ hs
    have go := ClsL.run (E' := E') (pos := pos) S h (fun vs s2 => Q (cu :: vs) s2) q
    obtain ⟨hg, hdbg, hm | ⟨hm, hv, hnn⟩⟩ := hc
    · exact ld_glob (X := X.suite a pn) S hg hm go hdbg
    · exact ld_blt (X := X.suite a pn) S hg hm hv go hnn hdbg
end
end Pm
namespace Sc
open PySem PySem.Spec PyProof.Rows L2 Pm
open Pg (sg dr divS)
end Sc
namespace Sc
open PySem PySem.Spec PyProof.Rows L2 Pm
open Pg (sg dr divS)
end Sc
set_option maxHeartbeats 0
namespace Pk79
open PySem PySem.Spec PyProof.Rows L2 Pm
def topS (i : Nat) : Stmt := PySem.Challenge.pw_wearbinds_k79_trees_as_texts.main.body.getD i (.Pass ⟨0, 0, 0, 0⟩)
abbrev i_InvalidText : Stmt := (clsB (topS 6)).getD 0 (.Pass ⟨0, 0, 0, 0⟩)
theorem isc_InvalidText : FnScope ["self", "position"] ["self", "position"] (defScope i_InvalidText) := ⟨rfl, rfl, rfl, by decide +kernel, rfl, by decide +kernel, by decide +kernel⟩
abbrev s__law_pen : Stmt := topS 14
theorem sc__law_pen : FnScope ["_law_script"] ["_law_script"] (defScope s__law_pen) := ⟨rfl, rfl, rfl, by decide +kernel, rfl, by decide +kernel, by decide +kernel⟩
noncomputable def b__law_pen : M Fl := (rtn (disp true .lst (aCons (app opList (aCons (cut (loc 0) none (some (con (.int 63)))) aNil)) (aCons (con (.int 0)) (aCons (con (.int 0)) aNil)))))
noncomputable def S__law_pen : FSem := mkF 1 1 [] b__law_pen
abbrev s__law_written : Stmt := topS 18
theorem sc__law_written : FnScope ["_law_row", "_law_parents", "_law_pieces", "_law_left", "_law_part", "_law_first", "_law_last", "_law_is_whole", "_law_root", "_law_ends", "_law_k"] ["_law_row", "_law_parents"] (defScope s__law_written) := ⟨rfl, rfl, rfl, by decide +kernel, rfl, by decide +kernel, by decide +kernel⟩
noncomputable def b__law_written : M Fl := (seq (asg (disp true .lst aNil) (gN 2))
    (seq (asg (disp true .lst (aCons (disp false .tup (aCons (con (.int 0)) (aCons (bin (on2I iSub) (app opLen (aCons (loc 0) aNil)) (con (.int 1))) (aCons (con (.bl true)) aNil)))) aNil)) (gN 3))
    (seq (whl (tst (bin opNe (loc 3) (disp true .lst aNil))) (seq (asg (popd 3) (gN 4))
    (ite (tst (app opIsi (aCons (loc 4) (aCons (con (.op (.ty "str"))) aNil)))) (drp (appd 2 (loc 4))) (ite (tst (bin opGtA (idx (aCons (loc 4) (aCons (con (.int 0)) aNil))) (idx (aCons (loc 4) (aCons (con (.int 1)) aNil))))) (drp (appd 2 (con (.str ".")))) (seq (asg (loc 4) (gT (gsC (gN 5) (gsC (gN 6) (gsC (gN 7) gs0))) 3))
    (seq (asg (idx (aCons (comp [10] (srcR2 (aCons (loc 5) (aCons (bin hAdd (loc 6) (con (.int 1))) aNil))) (gN 10) (orT (tst (bin opIsN (idx (aCons (loc 1) (aCons (loc 10) aNil))) (con .non))) (notT (tst (chI cLe cLe (loc 5) (idx (aCons (loc 1) (aCons (loc 10) aNil))) (loc 6))))) (loc 10)) (aCons (con (.int 0)) aNil))) (gN 8))
    (seq (asg (idx (aCons (disp true .lst (aCons (disp true .lst (aCons (con (.str "(")) (aCons (con (.str ")")) aNil))) (aCons (disp true .lst (aCons (con (.str "")) (aCons (con (.str "")) aNil))) aNil))) (aCons (app opInt (aCons (loc 7) aNil)) aNil))) (gN 9))
    (drp (extd 3 (disp true .lst (aCons (idx (aCons (loc 9) (aCons (con (.int 1)) aNil))) (aCons (disp false .tup (aCons (bin hAdd (loc 8) (con (.int 1))) (aCons (loc 6) (aCons (con (.bl false)) aNil)))) (aCons (idx (aCons (loc 0) (aCons (loc 8) aNil))) (aCons (disp false .tup (aCons (loc 5) (aCons (bin (on2I iSub) (loc 8) (con (.int 1))) (aCons (con (.bl false)) aNil)))) (aCons (idx (aCons (loc 9) (aCons (con (.int 0)) aNil))) aNil)))))))))))))))
    (rtn (smet1 opJoin (con (.str "")) (loc 2))))))
noncomputable def S__law_written : FSem := mkF 2 11 [] b__law_written
abbrev s__law_draw : Stmt := topS 15
theorem sc__law_draw : FnScope ["_law_pen_here", "_law_count", "_law_digit", "_law_at", "_law_cell", "_law_large", "_law_mixed"] ["_law_pen_here", "_law_count"] (defScope s__law_draw) := ⟨rfl, rfl, rfl, by decide +kernel, rfl, by decide +kernel, by decide +kernel⟩
noncomputable def b__law_draw : M Fl := (seq (ite (tst (bin (on2I iGt) (idx (aCons (loc 0) (aCons (con (.int 2)) aNil))) (con (.int 0)))) (seq (asg (bin (on2I iMod) (idx (aCons (loc 0) (aCons (con (.int 2)) aNil))) (loc 1)) (gN 2))
    (seq (asg (bin (on2I iDiv) (idx (aCons (loc 0) (aCons (con (.int 2)) aNil))) (loc 1)) (gI 0 (con (.int 2))))
    (rtn (mov 2)))) sNx)
    (seq (asg (idx (aCons (loc 0) (aCons (con (.int 1)) aNil))) (gN 3))
    (seq (asg (bin (on2I iAdd) (loc 3) (con (.int 1))) (gI 0 (con (.int 1))))
    (seq (asg (bin (on2I iAdd) (bin (on2I iMul) (con (.int 8699)) (loc 3)) (con (.int 577))) (gN 4))
    (seq (ite (tst (bin opNe (idx (aCons (loc 0) (aCons (con (.int 0)) aNil))) (disp true .lst aNil))) (asg (idx (aCons (idx (aCons (loc 0) (aCons (con (.int 0)) aNil))) (aCons (bin (on2I iMod) (loc 3) (app opLen (aCons (idx (aCons (loc 0) (aCons (con (.int 0)) aNil))) aNil))) aNil))) (gN 4)) sNx)
    (seq (ite (andT (tst (bin (on2I iLt) (loc 3) (app opLen (aCons (idx (aCons (loc 0) (aCons (con (.int 0)) aNil))) aNil)))) (tst (bin (on2I iGe) (app opAbs (aCons (loc 4) aNil)) (bin (on2I iPow) (con (.int 10)) (con (.int 18)))))) (seq (asg (bin (on2I iAdd) (bin (on2I iMul) (con (.int 2)) (bin (on2I iSub) (app opAbs (aCons (loc 4) aNil)) (bin (on2I iPow) (con (.int 10)) (con (.int 18))))) (app opInt1 (aCons (bin (on2I iLt) (loc 4) (con (.int 0))) aNil))) (gN 5))
    (seq (asg (bin (on2I iDiv) (loc 5) (loc 1)) (gI 0 (con (.int 2))))
    (rtn (bin (on2I iMod) (loc 5) (loc 1))))) sNx)
    (seq (asg (bin (on2I iMod) (bin (on2I iPow) (bin (on2I iAdd) (bin (on2I iAdd) (bin (on2I iMod) (loc 4) (con (.int 2147483587))) (bin (on2I iMul) (con (.int 47711)) (loc 3))) (con (.int 41))) (con (.int 5))) (con (.int 2147483647))) (gN 6))
    (seq (asg (bin (on2I iMod) (bin (on2I iPow) (bin (on2I iAdd) (bin (on2I iAdd) (bin (on2I iMul) (loc 6) (bin (on2I iAdd) (bin (on2I iMul) (con (.int 2)) (loc 3)) (con (.int 23)))) (bin (on2I iMul) (bin (on2I iMul) (con (.int 70001)) (loc 3)) (loc 3))) (con (.int 7))) (con (.int 3))) (con (.int 2147483563))) (gN 6))
    (rtn (bin (on2I iMod) (bin (on2I iDiv) (loc 6) (con (.int 32))) (loc 1)))))))))))
noncomputable def S__law_draw : FSem := mkF 2 7 [] b__law_draw
abbrev s__law_tree_of : Stmt := topS 16
theorem sc__law_tree_of : FnScope ["_law_pen_here", "_law_size", "_law_found", "_law_parts", "_law_way", "_law_first", "_law_last", "_law_above", "_law_span_here", "_law_root", "_law_k"] ["_law_pen_here", "_law_size"] (defScope s__law_tree_of) := ⟨rfl, rfl, rfl, by decide +kernel, rfl, by decide +kernel, by decide +kernel⟩
noncomputable def b__law_tree_of : M Fl := (seq (asg (comp [10] (srcR1 (aCons (loc 1) aNil)) (gN 10) yesT (con .non)) (gN 2))
    (seq (asg (disp true .lst (aCons (disp false .tup (aCons (con (.int 0)) (aCons (bin (on2I iSub) (loc 1) (con (.int 1))) (aCons (con .non) aNil)))) aNil)) (gN 3))
    (seq (asg (callF S__law_draw (aCons (loc 0) (aCons (con (.int 3)) aNil))) (gN 4))
    (seq (whl (tst (bin opNe (loc 3) (disp true .lst aNil))) (seq (asg (popd 3) (gT (gsC (gN 5) (gsC (gN 6) (gsC (gN 7) gs0))) 3))
    (ite (tst (bin opLeA (loc 5) (loc 6))) (seq (asg (bin hAdd (bin (on2I iSub) (loc 6) (loc 5)) (con (.int 1))) (gN 8))
    (seq (asg (bin hAdd (loc 5) (idx (aCons (disp true .lst (aCons (callF S__law_draw (aCons (loc 0) (aCons (loc 8) aNil))) (aCons (con (.int 0)) (aCons (bin hMulT (callF S__law_draw (aCons (loc 0) (aCons (con (.int 2)) aNil))) (bin (on2I iSub) (loc 8) (con (.int 1)))) aNil)))) (aCons (loc 4) aNil)))) (gN 9))
    (seq (asg (loc 7) (gI 2 (loc 9)))
    (drp (extd 3 (disp true .lst (aCons (disp false .tup (aCons (loc 5) (aCons (bin (on2I iSub) (loc 9) (con (.int 1))) (aCons (loc 9) aNil)))) (aCons (disp false .tup (aCons (bin hAdd (loc 9) (con (.int 1))) (aCons (loc 6) (aCons (loc 9) aNil)))) aNil)))))))) sNx)))
    (rtn (app opTuple (aCons (loc 2) aNil)))))))
noncomputable def S__law_tree_of : FSem := mkF 2 11 [] b__law_tree_of
abbrev s__law_word : Stmt := topS 17
theorem sc__law_word : FnScope ["_law_pen_here", "_law_size", "_law_few", "_law_k"] ["_law_pen_here", "_law_size"] (defScope s__law_word) := ⟨rfl, rfl, rfl, by decide +kernel, rfl, by decide +kernel, by decide +kernel⟩
noncomputable def b__law_word : M Fl := (seq (asg (idx (aCons (disp true .lst (aCons (con (.str "ab")) (aCons (con (.str "abcxyz")) (aCons (con (.str "abcdefghijklmnopqrstuvwxyz")) aNil)))) (aCons (callF S__law_draw (aCons (loc 0) (aCons (con (.int 3)) aNil))) aNil))) (gN 2))
    (rtn (smet1 opJoin (con (.str "")) (comp [3] (srcR1 (aCons (loc 1) aNil)) (gN 3) yesT (idx (aCons (loc 2) (aCons (callF S__law_draw (aCons (loc 0) (aCons (app opLen (aCons (loc 2) aNil)) aNil))) aNil)))))))
noncomputable def S__law_word : FSem := mkF 2 4 [] b__law_word
abbrev s_dot_spans : Stmt := topS 2
theorem sc_dot_spans : FnScope ["tree", "spans", "k", "above"] ["tree"] (defScope s_dot_spans) := ⟨rfl, rfl, rfl, by decide +kernel, rfl, by decide +kernel, by decide +kernel⟩
noncomputable def b_dot_spans : M Fl := (seq (asg (comp [2] (srcR1 (aCons (app opLen (aCons (loc 0) aNil)) aNil)) (gN 2) yesT (disp false .tup (aCons (loc 2) (aCons (bin hAdd (loc 2) (con (.int 1))) aNil)))) (gN 1))
    (seq (forS (srcR1 (aCons (app opLen (aCons (loc 0) aNil)) aNil)) (gN 2) (seq (asg (idx (aCons (loc 0) (aCons (loc 2) aNil))) (gN 3))
    (whl (tst (bin opNotN (loc 3) (con .non))) (seq (asg (disp false .tup (aCons (app opMin2 (aCons (idx (aCons (idx (aCons (loc 1) (aCons (loc 3) aNil))) (aCons (con (.int 0)) aNil))) (aCons (loc 2) aNil))) (aCons (app opMax2 (aCons (idx (aCons (idx (aCons (loc 1) (aCons (loc 3) aNil))) (aCons (con (.int 1)) aNil))) (aCons (bin hAdd (loc 2) (con (.int 1))) aNil))) aNil))) (gI 1 (loc 3)))
    (asg (idx (aCons (loc 0) (aCons (loc 3) aNil))) (gN 3))))))
    (rtn (mov 1))))
noncomputable def S_dot_spans : FSem := mkF 1 4 [] b_dot_spans
abbrev s_show_tree : Stmt := topS 3
theorem sc_show_tree : FnScope ["letters", "tree", "inner", "pieces", "dot", "opened", "closed", "span", "above", "first", "last"] ["letters", "tree"] (defScope s_show_tree) := ⟨rfl, rfl, rfl, by decide +kernel, rfl, by decide +kernel, by decide +kernel⟩
noncomputable def b_show_tree : M Fl := (seq (asg (comp [7, 8] (srcZipN (callF S_dot_spans (aCons (loc 1) aNil)) (loc 1)) (gT (gsC (gN 7) (gsC (gN 8) gs0)) 2) (tst (bin opNotN (loc 8) (con .non))) (loc 7)) (gN 2))
    (seq (asg (disp true .lst aNil) (gN 3))
    (seq (forS (srcR1 (aCons (bin hAdd (app opLen (aCons (loc 0) aNil)) (con (.int 1))) aNil)) (gN 4) (seq (asg (app opLen (aCons (comp [9, 10] (srcA (loc 2)) (gT (gsC (gN 9) (gsC (gN 10) gs0)) 2) (tst (bin opEq (loc 9) (loc 4))) (loc 9)) aNil)) (gN 5))
    (seq (asg (app opLen (aCons (comp [9, 10] (srcA (loc 2)) (gT (gsC (gN 9) (gsC (gN 10) gs0)) 2) (tst (bin opEq (loc 10) (loc 4))) (loc 10)) aNil)) (gN 6))
    (drp (appd 3 (bin hAdd (bin hAdd (bin hAdd (bin hMulT (con (.str "(")) (loc 5)) (con (.str "."))) (bin hMulT (con (.str ")")) (loc 6))) (cut (loc 0) (some (loc 4)) (some (bin hAdd (loc 4) (con (.int 1)))))))))))
    (rtn (smet1 opJoin (con (.str "")) (loc 3))))))
noncomputable def S_show_tree : FSem := mkF 2 11 [] b_show_tree
abbrev s_Scanner____init__ : Stmt := (clsB (topS 10)).getD 0 (.Pass ⟨0, 0, 0, 0⟩)
theorem sc_Scanner____init__ : FnScope ["self", "source"] ["self", "source"] (defScope s_Scanner____init__) := ⟨rfl, rfl, rfl, by decide +kernel, rfl, by decide +kernel, by decide +kernel⟩
noncomputable def b_Scanner____init__ : M Fl := (seq (ite (notT (tst (app opIsi (aCons (loc 1) (aCons (con (.op (.ty "str"))) aNil))))) (raise1 "InvalidText" "position" (con .non)) sNx)
    (seq (setA 0 "Scanner" "source" (loc 1))
    (setA 0 "Scanner" "spot" (con (.int 0)))))
noncomputable def S_Scanner____init__ : FSem := mkF 2 2 [] b_Scanner____init__
abbrev s_Growing____init__ : Stmt := (clsB (topS 11)).getD 0 (.Pass ⟨0, 0, 0, 0⟩)
theorem sc_Growing____init__ : FnScope ["self"] ["self"] (defScope s_Growing____init__) := ⟨rfl, rfl, rfl, by decide +kernel, rfl, by decide +kernel, by decide +kernel⟩
noncomputable def b_Growing____init__ : M Fl := (seq (setA 0 "Growing" "signs" (con (.str "")))
    (seq (setA 0 "Growing" "above" (disp true .lst aNil))
    (setA 0 "Growing" "parts" (disp true .lst (aCons (disp true .lst aNil) aNil)))))
noncomputable def S_Growing____init__ : FSem := mkF 1 1 [] b_Growing____init__
abbrev s_Scanner__is_at_end : Stmt := (clsB (topS 10)).getD 1 (.Pass ⟨0, 0, 0, 0⟩)
theorem sc_Scanner__is_at_end : FnScope ["self"] ["self"] (defScope s_Scanner__is_at_end) := ⟨rfl, rfl, rfl, by decide +kernel, rfl, by decide +kernel, by decide +kernel⟩
noncomputable def b_Scanner__is_at_end : M Fl := (rtn (bin opEq (fldE "Scanner" "spot" (loc 0)) (app opLen (aCons (fldE "Scanner" "source" (loc 0)) aNil))))
noncomputable def S_Scanner__is_at_end : FSem := mkF 1 1 [] b_Scanner__is_at_end
abbrev s_Growing__put_part : Stmt := (clsB (topS 11)).getD 1 (.Pass ⟨0, 0, 0, 0⟩)
theorem sc_Growing__put_part : FnScope ["self", "root", "part"] ["self", "root"] (defScope s_Growing__put_part) := ⟨rfl, rfl, rfl, by decide +kernel, rfl, by decide +kernel, by decide +kernel⟩
noncomputable def b_Growing__put_part : M Fl := (foc 2 0 [.f "Growing" "parts", .c (-1)] (seq (ite (andT (tst (bin opNe (loc 2) (disp true .lst aNil))) (tst (bin opNotN (loc 1) (con .non)))) (asg (idx (aCons (loc 2) (aCons (con (.int 1)) aNil))) (gP 0 [.f "Growing" "above"] 1 [])) sNx)
    (drp (appd 2 (loc 1)))))
noncomputable def S_Growing__put_part : FSem := mkF 2 3 [] b_Growing__put_part
abbrev s_Growing__close : Stmt := (clsB (topS 11)).getD 3 (.Pass ⟨0, 0, 0, 0⟩)
theorem sc_Growing__close : FnScope ["self", "part"] ["self"] (defScope s_Growing__close) := ⟨rfl, rfl, rfl, by decide +kernel, rfl, by decide +kernel, by decide +kernel⟩
noncomputable def b_Growing__close : M Fl := (seq (asg (popP 0 [.f "Growing" "parts"]) (gN 1))
    (drp (callF S_Growing__put_part (aCons (chk "Growing" "put_part" (loc 0)) (aCons (idx (aCons (loc 1) (aCons (con (.int 1)) aNil))) aNil)))))
noncomputable def S_Growing__close : FSem := mkF 1 2 [] b_Growing__close
abbrev s_Growing__put_operator : Stmt := (clsB (topS 11)).getD 2 (.Pass ⟨0, 0, 0, 0⟩)
theorem sc_Growing__put_operator : FnScope ["self", "sign", "part"] ["self", "sign"] (defScope s_Growing__put_operator) := ⟨rfl, rfl, rfl, by decide +kernel, rfl, by decide +kernel, by decide +kernel⟩
noncomputable def b_Growing__put_operator : M Fl := (foc 2 0 [.f "Growing" "parts", .c (-1)] (seq (ite (tst (bin opNotN (idx (aCons (loc 2) (aCons (con (.int 0)) aNil))) (con .non))) (asg (app opLen (aCons (fldE "Growing" "signs" (loc 0)) aNil)) (gP 0 [.f "Growing" "above"] 2 [.c 0])) sNx)
    (seq (drp (appd 2 (app opLen (aCons (fldE "Growing" "signs" (loc 0)) aNil))))
    (seq (augA 0 "Growing" "signs" gAdd (loc 1))
    (drp (appP 0 [.f "Growing" "above"] (con .non)))))))
noncomputable def S_Growing__put_operator : FSem := mkF 2 3 [] b_Growing__put_operator
abbrev s_Growing__put : Stmt := (clsB (topS 11)).getD 5 (.Pass ⟨0, 0, 0, 0⟩)
theorem sc_Growing__put : FnScope ["self", "character"] ["self", "character"] (defScope s_Growing__put) := ⟨rfl, rfl, rfl, by decide +kernel, rfl, by decide +kernel, by decide +kernel⟩
noncomputable def b_Growing__put : M Fl := (ite (tst (bin opEq (loc 1) (con (.str "(")))) (drp (appP 0 [.f "Growing" "parts"] (disp true .lst aNil))) (ite (tst (bin opEq (loc 1) (con (.str ")")))) (drp (callF S_Growing__close (aCons (chk "Growing" "close" (loc 0)) aNil))) (ite (tst (bin opEq (loc 1) (con (.str ".")))) (drp (callF S_Growing__put_part (aCons (chk "Growing" "put_part" (loc 0)) (aCons (con .non) aNil)))) (drp (callF S_Growing__put_operator (aCons (chk "Growing" "put_operator" (loc 0)) (aCons (loc 1) aNil)))))))
noncomputable def S_Growing__put : FSem := mkF 2 2 [] b_Growing__put
abbrev s_Growing__is_whole : Stmt := (clsB (topS 11)).getD 6 (.Pass ⟨0, 0, 0, 0⟩)
theorem sc_Growing__is_whole : FnScope ["self"] ["self"] (defScope s_Growing__is_whole) := ⟨rfl, rfl, rfl, by decide +kernel, rfl, by decide +kernel, by decide +kernel⟩
noncomputable def b_Growing__is_whole : M Fl := (rtn (andE (bin opEq (app1P opLen 0 [.f "Growing" "parts"]) (con (.int 1))) (orE (bin opEq (app1P opLen 0 [.f "Growing" "parts", .c 0]) (con (.int 3))) (binP opEq 0 [.f "Growing" "parts"] (disp true .lst (aCons (disp true .lst (aCons (con .non) aNil)) aNil))))))
noncomputable def S_Growing__is_whole : FSem := mkF 1 1 [] b_Growing__is_whole
abbrev s_Scanner__sees : Stmt := (clsB (topS 10)).getD 2 (.Pass ⟨0, 0, 0, 0⟩)
theorem sc_Scanner__sees : FnScope ["self", "characters"] ["self", "characters"] (defScope s_Scanner__sees) := ⟨rfl, rfl, rfl, by decide +kernel, rfl, by decide +kernel, by decide +kernel⟩
noncomputable def b_Scanner__sees : M Fl := (rtn (andE (notE (callF S_Scanner__is_at_end (aCons (chk "Scanner" "is_at_end" (loc 0)) aNil))) (bin opIn (idx (aCons (fldE "Scanner" "source" (loc 0)) (aCons (fldE "Scanner" "spot" (loc 0)) aNil))) (loc 1))))
noncomputable def S_Scanner__sees : FSem := mkF 2 2 [] b_Scanner__sees
abbrev s_Scanner__take : Stmt := (clsB (topS 10)).getD 3 (.Pass ⟨0, 0, 0, 0⟩)
theorem sc_Scanner__take : FnScope ["self", "characters"] ["self", "characters"] (defScope s_Scanner__take) := ⟨rfl, rfl, rfl, by decide +kernel, rfl, by decide +kernel, by decide +kernel⟩
noncomputable def b_Scanner__take : M Fl := (seq (ite (notT (tst (callF S_Scanner__sees (aCons (chk "Scanner" "sees" (loc 0)) (aCons (loc 1) aNil))))) (raise1 "InvalidText" "position" (fldE "Scanner" "spot" (loc 0))) sNx)
    (seq (augA 0 "Scanner" "spot" gAdd (con (.int 1)))
    (rtn (idx (aCons (fldE "Scanner" "source" (loc 0)) (aCons (bin (on2I iSub) (fldE "Scanner" "spot" (loc 0)) (con (.int 1))) aNil))))))
noncomputable def S_Scanner__take : FSem := mkF 2 2 [] b_Scanner__take
abbrev s_Growing__expected : Stmt := (clsB (topS 11)).getD 4 (.Pass ⟨0, 0, 0, 0⟩)
theorem sc_Growing__expected : FnScope ["self", "size"] ["self"] (defScope s_Growing__expected) := ⟨rfl, rfl, rfl, by decide +kernel, rfl, by decide +kernel, by decide +kernel⟩
noncomputable def b_Growing__expected : M Fl := (seq (asg (app1P opLen 0 [.f "Growing" "parts", .c (-1)]) (gN 1))
    (seq (ite (tst (bin opEq (loc 1) (con (.int 1)))) (rtn (con (.str "abcdefghijklmnopqrstuvwxyz"))) sNx)
    (seq (ite (tst (bin opLtA (loc 1) (con (.int 3)))) (rtn (con (.str ".("))) sNx)
    (rtn (ifE (tst (bin opGtA (app1P opLen 0 [.f "Growing" "parts"]) (con (.int 1)))) (con (.str ")")) (con (.str "")))))))
noncomputable def S_Growing__expected : FSem := mkF 1 2 [] b_Growing__expected
abbrev s_read_tree : Stmt := topS 12
theorem sc_read_tree : FnScope ["text", "scanner", "growing"] ["text"] (defScope s_read_tree) := ⟨rfl, rfl, rfl, by decide +kernel, rfl, by decide +kernel, by decide +kernel⟩
noncomputable def b_read_tree : M Fl := (seq (asg (makeC "Scanner" S_Scanner____init__ (aCons (loc 0) aNil)) (gN 1))
    (seq (asg (makeC "Growing" S_Growing____init__ aNil) (gN 2))
    (seq (whl (notT (tst (callF S_Scanner__is_at_end (aCons (chk "Scanner" "is_at_end" (loc 1)) aNil)))) (drp (callF S_Growing__put (aCons (chk "Growing" "put" (loc 2)) (aCons (callF S_Scanner__take (aCons (chk "Scanner" "take" (loc 1)) (aCons (callF S_Growing__expected (aCons (chk "Growing" "expected" (loc 2)) aNil)) aNil))) aNil)))))
    (seq (ite (notT (tst (callF S_Growing__is_whole (aCons (chk "Growing" "is_whole" (loc 2)) aNil)))) (raise1 "InvalidText" "position" (app opLen (aCons (loc 0) aNil))) sNx)
    (seq (ite (tst (bin opGtA (app opLen (aCons (fldE "Growing" "signs" (loc 2)) aNil)) (con (.int 200)))) (raise1 "InvalidText" "position" (con .non)) sNx)
    (rtn (disp false .tup (aCons (fldE "Growing" "signs" (loc 2)) (aCons (app1P opTuple 2 [.f "Growing" "above"]) aNil)))))))))
noncomputable def S_read_tree : FSem := mkF 1 3 [] b_read_tree
abbrev s_law : Stmt := topS 19
theorem sc_law : FnScope ["_law_script", "_law_pen_here", "_law_lap", "_law_size", "_law_parents", "_law_row", "_law_due"] ["_law_script"] (defScope s_law) := ⟨rfl, rfl, rfl, by decide +kernel, rfl, by decide +kernel, by decide +kernel⟩
noncomputable def b_law : M Fl := (seq (asg (callF S__law_pen (aCons (loc 0) aNil)) (gN 1))
    (seq (forS (srcR1 (aCons (con (.int 5)) aNil)) (gN 2) (seq (asg (idx (aCons (disp true .lst (aCons (callF S__law_draw (aCons (loc 1) (aCons (con (.int 4)) aNil))) (aCons (callF S__law_draw (aCons (loc 1) (aCons (con (.int 12)) aNil))) (aCons (con (.int 1)) (aCons (callF S__law_draw (aCons (loc 1) (aCons (con (.int 60)) aNil))) (aCons (idx (aCons (disp true .lst (aCons (con (.int 200)) (aCons (con (.int 20)) aNil))) (aCons (callF S__law_draw (aCons (loc 1) (aCons (con (.int 2)) aNil))) aNil))) aNil)))))) (aCons (loc 2) aNil))) (gN 3))
    (seq (par 4 5 (aCons (callF S__law_tree_of (aCons (loc 1) (aCons (loc 3) aNil))) (aCons (callF S__law_word (aCons (loc 1) (aCons (loc 3) aNil))) aNil)))
    (seq (asg (callF S__law_written (aCons (loc 5) (aCons (loc 4) aNil))) (gN 6))
    (seq (ite (tst (bin opNe (app opReprA (aCons (disp true .lst (aCons (callF S_show_tree (aCons (loc 5) (aCons (loc 4) aNil))) (aCons (callF S_show_tree (selA 2 [1, 0] (aCons (loc 4) (aCons (loc 5) aNil)))) aNil))) aNil)) (app opReprA (aCons (disp true .lst (aCons (loc 6) (aCons (loc 6) aNil))) aNil)))) (rtn (con (.bl false))) sNx)
    (ite (tst (bin opNe (app opReprA (aCons (disp true .lst (aCons (callF S_read_tree (aCons (loc 6) aNil)) (aCons (callF S_read_tree (selA 1 [0] (aCons (loc 6) aNil))) aNil))) aNil)) (app opReprA (aCons (disp true .lst (aCons (disp false .tup (aCons (loc 5) (aCons (loc 4) aNil))) (aCons (disp false .tup (aCons (loc 5) (aCons (loc 4) aNil))) aNil))) aNil)))) (rtn (con (.bl false))) sNx))))))
    (rtn (andE (bin opEq (callF S_show_tree (aCons (con (.str "")) (aCons (disp false .tup aNil) aNil))) (con (.str "."))) (bin opEq (callF S_read_tree (aCons (con (.str ".")) aNil)) (disp false .tup (aCons (con (.str "")) (aCons (disp false .tup aNil) aNil))))))))
noncomputable def S_law : FSem := mkF 1 7 [] b_law
section
variable {P : Program} {w : World} {K : PySem.W.Frag} {mg : Str → Option Value} {base : Heap}
theorem ok__law_pen {f : Addr} {fd : FuncData} (F : Fun K "_law_pen" "_law_pen" s__law_pen f fd) (z_list : mg "list" = none) : FnG P w K mg base 1 f fd ["_law_script"] S__law_pen :=
  fnG (k := 0) (m := 1) F sc__law_pen rfl fun cdv A outer s H E hgd hr => by
    have ft : Fit (cxG P w K mg base ["_law_script"] "_law_pen" (defScope s__law_pen) f cdv A outer s H E) (fun cls d _ H => E cls d H) 0 := ⟨hgd, hr, takes_of rfl rfl rfl rfl⟩
    have hp : PassesOwn (model P w) (cxG P w K mg base ["_law_script"] "_law_pen" (defScope s__law_pen) f cdv A outer s H E).A (cxG P w K mg base ["_law_script"] "_law_pen" (defScope s__law_pen) f cdv A outer s H E).env (cxG P w K mg base ["_law_script"] "_law_pen" (defScope s__law_pen) f cdv A outer s H E).xe := passes_of rfl
    exact (B_1 (S_ret (E_L (A_c (E_ty snd_list call_list_of z_list (A_c (E_cut (E_loc 0) O_0 (O_1 E_int)) A_0)) (A_c E_int (A_c E_int A_0))))))
theorem ok__law_written {f : Addr} {fd : FuncData} (F : Fun K "_law_written" "_law_written" s__law_written f fd) (z_int : mg "int" = none) (z_isinstance : mg "isinstance" = none) (z_len : mg "len" = none) (z_range : mg "range" = none) (z_str : mg "str" = none) : FnG P w K mg base 1 f fd ["_law_row", "_law_parents"] S__law_written :=
  fnG (k := 0) (m := 11) F sc__law_written rfl fun cdv A outer s H E hgd hr => by
    have ft : Fit (cxG P w K mg base ["_law_row", "_law_parents", "_law_pieces", "_law_left", "_law_part", "_law_first", "_law_last", "_law_is_whole", "_law_root", "_law_ends", "_law_k"] "_law_written" (defScope s__law_written) f cdv A outer s H E) (fun cls d _ H => E cls d H) 0 := ⟨hgd, hr, takes_of rfl rfl rfl rfl⟩
    have hp : PassesOwn (model P w) (cxG P w K mg base ["_law_row", "_law_parents", "_law_pieces", "_law_left", "_law_part", "_law_first", "_law_last", "_law_is_whole", "_law_root", "_law_ends", "_law_k"] "_law_written" (defScope s__law_written) f cdv A outer s H E).A (cxG P w K mg base ["_law_row", "_law_parents", "_law_pieces", "_law_left", "_law_part", "_law_first", "_law_last", "_law_is_whole", "_law_root", "_law_ends", "_law_k"] "_law_written" (defScope s__law_written) f cdv A outer s H E).env (cxG P w K mg base ["_law_row", "_law_parents", "_law_pieces", "_law_left", "_law_part", "_law_first", "_law_last", "_law_is_whole", "_law_root", "_law_ends", "_law_k"] "_law_written" (defScope s__law_written) f cdv A outer s H E).xe := passes_of rfl
    exact (B_c (S_set (i := 2) (E_L A_0) sc__law_written.nd)
    (B_c (S_set (i := 3) (E_L (A_c (E_T (A_c E_int (A_c (E_op opd_subI (E_blF snd_len call_lenA z_len (A_c (E_loc 0) A_0)) E_int) (A_c E_bl A_0)))) A_0)) sc__law_written.nd)
    (B_c (S_wh hp (T_cmp (opd_ne ft.room.units) (E_loc 3) (E_L A_0)) (B_c (S_set (i := 4) (E_popd (j := 3)) sc__law_written.nd)
    (B_1 (S_if (T_v (E_blF snd_isi L2.call_isi z_isinstance (A_c (E_loc 4) (A_c (E_ty1 z_str) A_0)))) (B_1 (S_ex (E_app (j := 2) (E_loc 4)))) (B_1 (S_if (T_cmp opd_gtA (E_idx (E_loc 4) E_int) (E_idx (E_loc 4) E_int)) (B_1 (S_ex (E_app (j := 2) E_str))) (B_c (S_tg (E_loc 4) (G_t (Gs_c (G_n (i := 5) sc__law_written.nd) (Gs_c (G_n (i := 6) sc__law_written.nd) (Gs_c (G_n (i := 7) sc__law_written.nd) Gs_0)))))
    (B_c (S_set (i := 8) (E_idx (E_lc (own := [("_law_k", 10)]) sc__law_written.nd (I_r2 z_range (E_loc 5) (E_op opd_hAdd (E_loc 6) E_int)) (show BlkOk ["_law_row", "_law_parents", "_law_pieces", "_law_left", "_law_part", "_law_first", "_law_last", "_law_is_whole", "_law_root", "_law_ends", "_law_k"] (defScope s__law_written) _ [("_law_k", 10)] from ⟨rfl, by decide +kernel, by decide +kernel, by decide +kernel, by decide +kernel⟩) (fun _ _ _ _ _ => (G_n (i := 10) sc__law_written.nd)) (fun _ _ _ _ _ => (Ts_1 (PW.pt (W_or (T_cmp opd_isN (E_idx (E_loc 1) (E_loc 10)) E_non) (W_or1 (T_not (T_ch oc_le oc_le (E_loc 5) (E_idx (E_loc 1) (E_loc 10)) (E_loc 6)))))))) (fun _ _ _ _ _ => (E_loc 10))) E_int) sc__law_written.nd)
    (B_c (S_set (i := 9) (E_idx (E_L (A_c (E_L (A_c E_str (A_c E_str A_0))) (A_c (E_L (A_c E_str (A_c E_str A_0))) A_0))) (E_ty snd_int call_intA z_int (A_c (E_loc 7) A_0))) sc__law_written.nd)
    (B_1 (S_ex (E_ext (j := 3) (E_L (A_c (E_idx (E_loc 9) E_int) (A_c (E_T (A_c (E_op opd_hAdd (E_loc 8) E_int) (A_c (E_loc 6) (A_c E_bl A_0)))) (A_c (E_idx (E_loc 0) (E_loc 8)) (A_c (E_T (A_c (E_loc 5) (A_c (E_op opd_subI (E_loc 8) E_int) (A_c E_bl A_0)))) (A_c (E_idx (E_loc 9) E_int) A_0))))))))))))))))))
    (B_1 (S_ret (E_join E_str (E_loc 2)))))))
theorem ok__law_draw {f : Addr} {fd : FuncData} (F : Fun K "_law_draw" "_law_draw" s__law_draw f fd) (z_abs : mg "abs" = none) (z_int : mg "int" = none) (z_len : mg "len" = none) : FnG P w K mg base 1 f fd ["_law_pen_here", "_law_count"] S__law_draw :=
  fnG (k := 0) (m := 7) F sc__law_draw rfl fun cdv A outer s H E hgd hr => by
    have ft : Fit (cxG P w K mg base ["_law_pen_here", "_law_count", "_law_digit", "_law_at", "_law_cell", "_law_large", "_law_mixed"] "_law_draw" (defScope s__law_draw) f cdv A outer s H E) (fun cls d _ H => E cls d H) 0 := ⟨hgd, hr, takes_of rfl rfl rfl rfl⟩
    have hp : PassesOwn (model P w) (cxG P w K mg base ["_law_pen_here", "_law_count", "_law_digit", "_law_at", "_law_cell", "_law_large", "_law_mixed"] "_law_draw" (defScope s__law_draw) f cdv A outer s H E).A (cxG P w K mg base ["_law_pen_here", "_law_count", "_law_digit", "_law_at", "_law_cell", "_law_large", "_law_mixed"] "_law_draw" (defScope s__law_draw) f cdv A outer s H E).env (cxG P w K mg base ["_law_pen_here", "_law_count", "_law_digit", "_law_at", "_law_cell", "_law_large", "_law_mixed"] "_law_draw" (defScope s__law_draw) f cdv A outer s H E).xe := passes_of rfl
    exact (B_c (S_if (T_cmp opd_gtI (E_idx (E_loc 0) E_int) E_int) (B_c (S_set (i := 2) (E_op opd_modI (E_idx (E_loc 0) E_int) (E_loc 1)) sc__law_draw.nd)
    (B_c (S_tg (E_op opd_divI (E_idx (E_loc 0) E_int) (E_loc 1)) (G_i (j := 0) E_int))
    (B_1 (S_ret (E_mov 2))))) B_0)
    (B_c (S_set (i := 3) (E_idx (E_loc 0) E_int) sc__law_draw.nd)
    (B_c (S_tg (E_op opd_addI (E_loc 3) E_int) (G_i (j := 0) E_int))
    (B_c (S_set (i := 4) (E_op opd_addI (E_op opd_mulI E_int (E_loc 3)) E_int) sc__law_draw.nd)
    (B_c (S_if (T_cmp (opd_ne ft.room.units) (E_idx (E_loc 0) E_int) (E_L A_0)) (B_1 (S_set (i := 4) (E_idx (E_idx (E_loc 0) E_int) (E_op opd_modI (E_loc 3) (E_blF snd_len call_lenA z_len (A_c (E_idx (E_loc 0) E_int) A_0)))) sc__law_draw.nd)) B_0)
    (B_c (S_if (PW.pt (W_and (T_cmp opd_ltI (E_loc 3) (E_blF snd_len call_lenA z_len (A_c (E_idx (E_loc 0) E_int) A_0))) (W_and1 (T_cmp opd_geI (E_blF snd_abs call_abs z_abs (A_c (E_loc 4) A_0)) (E_op opd_powI E_int E_int))))) (B_c (S_set (i := 5) (E_op opd_addI (E_op opd_mulI E_int (E_op opd_subI (E_blF snd_abs call_abs z_abs (A_c (E_loc 4) A_0)) (E_op opd_powI E_int E_int))) (E_ty snd_int1 call_int1 z_int (A_c (E_cmp opd_ltI (E_loc 4) E_int) A_0))) sc__law_draw.nd)
    (B_c (S_tg (E_op opd_divI (E_loc 5) (E_loc 1)) (G_i (j := 0) E_int))
    (B_1 (S_ret (E_op opd_modI (E_loc 5) (E_loc 1)))))) B_0)
    (B_c (S_set (i := 6) (E_op opd_modI (E_op opd_powI (E_op opd_addI (E_op opd_addI (E_op opd_modI (E_loc 4) E_int) (E_op opd_mulI E_int (E_loc 3))) E_int) E_int) E_int) sc__law_draw.nd)
    (B_c (S_set (i := 6) (E_op opd_modI (E_op opd_powI (E_op opd_addI (E_op opd_addI (E_op opd_mulI (E_loc 6) (E_op opd_addI (E_op opd_mulI E_int (E_loc 3)) E_int)) (E_op opd_mulI (E_op opd_mulI E_int (E_loc 3)) (E_loc 3))) E_int) E_int) E_int) sc__law_draw.nd)
    (B_1 (S_ret (E_op opd_modI (E_op opd_divI (E_loc 6) E_int) (E_loc 1))))))))))))
theorem ok__law_tree_of {f : Addr} {fd : FuncData} (F : Fun K "_law_tree_of" "_law_tree_of" s__law_tree_of f fd) (z_range : mg "range" = none) (z_tuple : mg "tuple" = none) {f__law_draw : Addr} {fd__law_draw : FuncData} (D__law_draw : Def P w K mg base 1 "_law_draw" f__law_draw fd__law_draw ["_law_pen_here", "_law_count"] S__law_draw) : FnG P w K mg base 2 f fd ["_law_pen_here", "_law_size"] S__law_tree_of :=
  fnG (k := 1) (m := 11) F sc__law_tree_of rfl fun cdv A outer s H E hgd hr => by
    have ft : Fit (cxG P w K mg base ["_law_pen_here", "_law_size", "_law_found", "_law_parts", "_law_way", "_law_first", "_law_last", "_law_above", "_law_span_here", "_law_root", "_law_k"] "_law_tree_of" (defScope s__law_tree_of) f cdv A outer s H E) (fun cls d _ H => E cls d H) 1 := ⟨hgd, hr, takes_of rfl rfl rfl rfl⟩
    have hp : PassesOwn (model P w) (cxG P w K mg base ["_law_pen_here", "_law_size", "_law_found", "_law_parts", "_law_way", "_law_first", "_law_last", "_law_above", "_law_span_here", "_law_root", "_law_k"] "_law_tree_of" (defScope s__law_tree_of) f cdv A outer s H E).A (cxG P w K mg base ["_law_pen_here", "_law_size", "_law_found", "_law_parts", "_law_way", "_law_first", "_law_last", "_law_above", "_law_span_here", "_law_root", "_law_k"] "_law_tree_of" (defScope s__law_tree_of) f cdv A outer s H E).env (cxG P w K mg base ["_law_pen_here", "_law_size", "_law_found", "_law_parts", "_law_way", "_law_first", "_law_last", "_law_above", "_law_span_here", "_law_root", "_law_k"] "_law_tree_of" (defScope s__law_tree_of) f cdv A outer s H E).xe := passes_of rfl
    exact (B_c (S_lc (i := 2) (own := [("_law_k", 10)]) sc__law_tree_of.nd (I_r1 z_range (E_loc 1)) (show BlkOk ["_law_pen_here", "_law_size", "_law_found", "_law_parts", "_law_way", "_law_first", "_law_last", "_law_above", "_law_span_here", "_law_root", "_law_k"] (defScope s__law_tree_of) _ [("_law_k", 10)] from ⟨rfl, by decide +kernel, by decide +kernel, by decide +kernel, by decide +kernel⟩) (fun _ _ _ _ _ => (G_n (i := 10) sc__law_tree_of.nd)) (fun _ _ _ _ _ => Ts_0) (fun _ _ _ _ _ => E_non))
    (B_c (S_set (i := 3) (E_L (A_c (E_T (A_c E_int (A_c (E_op opd_subI (E_loc 1) E_int) (A_c E_non A_0)))) A_0)) sc__law_tree_of.nd)
    (B_c (S_set (i := 4) (E_call D__law_draw ft (A_c (E_loc 0) (A_c E_int A_0))) sc__law_tree_of.nd)
    (B_c (S_wh hp (T_cmp (opd_ne ft.room.units) (E_loc 3) (E_L A_0)) (B_c (S_tg (E_popd (j := 3)) (G_t (Gs_c (G_n (i := 5) sc__law_tree_of.nd) (Gs_c (G_n (i := 6) sc__law_tree_of.nd) (Gs_c (G_n (i := 7) sc__law_tree_of.nd) Gs_0)))))
    (B_1 (S_if (T_cmp opd_leA (E_loc 5) (E_loc 6)) (B_c (S_set (i := 8) (E_op opd_hAdd (E_op opd_subI (E_loc 6) (E_loc 5)) E_int) sc__law_tree_of.nd)
    (B_c (S_set (i := 9) (E_op opd_hAdd (E_loc 5) (E_idx (E_L (A_c (E_call D__law_draw ft (A_c (E_loc 0) (A_c (E_loc 8) A_0))) (A_c E_int (A_c (E_op opd_hMulT (E_call D__law_draw ft (A_c (E_loc 0) (A_c E_int A_0))) (E_op opd_subI (E_loc 8) E_int)) A_0)))) (E_loc 4))) sc__law_tree_of.nd)
    (B_c (S_tg (E_loc 7) (G_i (j := 2) (E_loc 9)))
    (B_1 (S_ex (E_ext (j := 3) (E_L (A_c (E_T (A_c (E_loc 5) (A_c (E_op opd_subI (E_loc 9) E_int) (A_c (E_loc 9) A_0)))) (A_c (E_T (A_c (E_op opd_hAdd (E_loc 9) E_int) (A_c (E_loc 6) (A_c (E_loc 9) A_0)))) A_0))))))))) B_0))))
    (B_1 (S_ret (E_ty snd_tuple call_tuple_of z_tuple (A_c (E_loc 2) A_0))))))))
theorem ok__law_word {f : Addr} {fd : FuncData} (F : Fun K "_law_word" "_law_word" s__law_word f fd) (z_len : mg "len" = none) (z_range : mg "range" = none) {f__law_draw : Addr} {fd__law_draw : FuncData} (D__law_draw : Def P w K mg base 1 "_law_draw" f__law_draw fd__law_draw ["_law_pen_here", "_law_count"] S__law_draw) : FnG P w K mg base 2 f fd ["_law_pen_here", "_law_size"] S__law_word :=
  fnG (k := 1) (m := 4) F sc__law_word rfl fun cdv A outer s H E hgd hr => by
    have ft : Fit (cxG P w K mg base ["_law_pen_here", "_law_size", "_law_few", "_law_k"] "_law_word" (defScope s__law_word) f cdv A outer s H E) (fun cls d _ H => E cls d H) 1 := ⟨hgd, hr, takes_of rfl rfl rfl rfl⟩
    have hp : PassesOwn (model P w) (cxG P w K mg base ["_law_pen_here", "_law_size", "_law_few", "_law_k"] "_law_word" (defScope s__law_word) f cdv A outer s H E).A (cxG P w K mg base ["_law_pen_here", "_law_size", "_law_few", "_law_k"] "_law_word" (defScope s__law_word) f cdv A outer s H E).env (cxG P w K mg base ["_law_pen_here", "_law_size", "_law_few", "_law_k"] "_law_word" (defScope s__law_word) f cdv A outer s H E).xe := passes_of rfl
    exact (B_c (S_set (i := 2) (E_idx (E_L (A_c E_str (A_c E_str (A_c E_str A_0)))) (E_call D__law_draw ft (A_c (E_loc 0) (A_c E_int A_0)))) sc__law_word.nd)
    (B_1 (S_ret (E_join E_str (E_lc (own := [("_law_k", 3)]) sc__law_word.nd (I_r1 z_range (E_loc 1)) (show BlkOk ["_law_pen_here", "_law_size", "_law_few", "_law_k"] (defScope s__law_word) _ [("_law_k", 3)] from ⟨rfl, by decide +kernel, by decide +kernel, by decide +kernel, by decide +kernel⟩) (fun _ _ _ _ _ => (G_n (i := 3) sc__law_word.nd)) (fun _ _ _ _ _ => Ts_0) (fun _ _ _ _ _ => (E_idx (E_loc 2) (E_call D__law_draw (Fit.blk ft) (A_c (E_loc 0) (A_c (E_blF snd_len call_lenA z_len (A_c (E_loc 2) A_0)) A_0))))))))))
theorem ok_dot_spans {f : Addr} {fd : FuncData} (F : Fun K "dot_spans" "dot_spans" s_dot_spans f fd) (z_len : mg "len" = none) (z_max : mg "max" = none) (z_min : mg "min" = none) (z_range : mg "range" = none) : FnG P w K mg base 1 f fd ["tree"] S_dot_spans :=
  fnG (k := 0) (m := 4) F sc_dot_spans rfl fun cdv A outer s H E hgd hr => by
    have ft : Fit (cxG P w K mg base ["tree", "spans", "k", "above"] "dot_spans" (defScope s_dot_spans) f cdv A outer s H E) (fun cls d _ H => E cls d H) 0 := ⟨hgd, hr, takes_of rfl rfl rfl rfl⟩
    have hp : PassesOwn (model P w) (cxG P w K mg base ["tree", "spans", "k", "above"] "dot_spans" (defScope s_dot_spans) f cdv A outer s H E).A (cxG P w K mg base ["tree", "spans", "k", "above"] "dot_spans" (defScope s_dot_spans) f cdv A outer s H E).env (cxG P w K mg base ["tree", "spans", "k", "above"] "dot_spans" (defScope s_dot_spans) f cdv A outer s H E).xe := passes_of rfl
    exact (B_c (S_lc (i := 1) (own := [("k", 2)]) sc_dot_spans.nd (I_r1 z_range (E_blF snd_len call_lenA z_len (A_c (E_loc 0) A_0))) (show BlkOk ["tree", "spans", "k", "above"] (defScope s_dot_spans) _ [("k", 2)] from ⟨rfl, by decide +kernel, by decide +kernel, by decide +kernel, by decide +kernel⟩) (fun _ _ _ _ _ => (G_n (i := 2) sc_dot_spans.nd)) (fun _ _ _ _ _ => Ts_0) (fun _ _ _ _ _ => (E_T (A_c (E_loc 2) (A_c (E_op opd_hAdd (E_loc 2) E_int) A_0)))))
    (B_c (S_for hp (I_r1 z_range (E_blF snd_len call_lenA z_len (A_c (E_loc 0) A_0))) (G_n (i := 2) sc_dot_spans.nd) (B_c (S_set (i := 3) (E_idx (E_loc 0) (E_loc 2)) sc_dot_spans.nd)
    (B_1 (S_wh hp (T_cmp opd_notN (E_loc 3) E_non) (B_c (S_tg (E_T (A_c (E_blF snd_min2 (call_min2 rfl) z_min (A_c (E_idx (E_idx (E_loc 1) (E_loc 3)) E_int) (A_c (E_loc 2) A_0))) (A_c (E_blF snd_max2 (call_max2 rfl) z_max (A_c (E_idx (E_idx (E_loc 1) (E_loc 3)) E_int) (A_c (E_op opd_hAdd (E_loc 2) E_int) A_0))) A_0))) (G_i (j := 1) (E_loc 3)))
    (B_1 (S_set (i := 3) (E_idx (E_loc 0) (E_loc 3)) sc_dot_spans.nd)))))))
    (B_1 (S_ret (E_mov 1)))))
theorem ok_show_tree {f : Addr} {fd : FuncData} (F : Fun K "show_tree" "show_tree" s_show_tree f fd) (z_len : mg "len" = none) (z_range : mg "range" = none) (z_zip : mg "zip" = none) {f_dot_spans : Addr} {fd_dot_spans : FuncData} (D_dot_spans : Def P w K mg base 1 "dot_spans" f_dot_spans fd_dot_spans ["tree"] S_dot_spans) : FnG P w K mg base 2 f fd ["letters", "tree"] S_show_tree :=
  fnG (k := 1) (m := 11) F sc_show_tree rfl fun cdv A outer s H E hgd hr => by
    have ft : Fit (cxG P w K mg base ["letters", "tree", "inner", "pieces", "dot", "opened", "closed", "span", "above", "first", "last"] "show_tree" (defScope s_show_tree) f cdv A outer s H E) (fun cls d _ H => E cls d H) 1 := ⟨hgd, hr, takes_of rfl rfl rfl rfl⟩
    have hp : PassesOwn (model P w) (cxG P w K mg base ["letters", "tree", "inner", "pieces", "dot", "opened", "closed", "span", "above", "first", "last"] "show_tree" (defScope s_show_tree) f cdv A outer s H E).A (cxG P w K mg base ["letters", "tree", "inner", "pieces", "dot", "opened", "closed", "span", "above", "first", "last"] "show_tree" (defScope s_show_tree) f cdv A outer s H E).env (cxG P w K mg base ["letters", "tree", "inner", "pieces", "dot", "opened", "closed", "span", "above", "first", "last"] "show_tree" (defScope s_show_tree) f cdv A outer s H E).xe := passes_of rfl
    exact (B_c (S_lc (i := 2) (own := [("span", 7), ("above", 8)]) sc_show_tree.nd (I_zipN z_zip (E_call D_dot_spans ft (A_c (E_loc 1) A_0)) (E_loc 1)) (show BlkOk ["letters", "tree", "inner", "pieces", "dot", "opened", "closed", "span", "above", "first", "last"] (defScope s_show_tree) _ [("span", 7), ("above", 8)] from ⟨rfl, by decide +kernel, by decide +kernel, by decide +kernel, by decide +kernel⟩) (fun _ _ _ _ _ => (G_t (Gs_c (G_n (i := 7) sc_show_tree.nd) (Gs_c (G_n (i := 8) sc_show_tree.nd) Gs_0)))) (fun _ _ _ _ _ => (Ts_1 (T_cmp opd_notN (E_loc 8) E_non))) (fun _ _ _ _ _ => (E_loc 7)))
    (B_c (S_set (i := 3) (E_L A_0) sc_show_tree.nd)
    (B_c (S_for hp (I_r1 z_range (E_op opd_hAdd (E_blF snd_len call_lenA z_len (A_c (E_loc 0) A_0)) E_int)) (G_n (i := 4) sc_show_tree.nd) (B_c (S_set (i := 5) (E_blF snd_len call_lenA z_len (A_c (E_lc (own := [("first", 9), ("last", 10)]) sc_show_tree.nd (I_a (E_loc 2)) (show BlkOk ["letters", "tree", "inner", "pieces", "dot", "opened", "closed", "span", "above", "first", "last"] (defScope s_show_tree) _ [("first", 9), ("last", 10)] from ⟨rfl, by decide +kernel, by decide +kernel, by decide +kernel, by decide +kernel⟩) (fun _ _ _ _ _ => (G_t (Gs_c (G_n (i := 9) sc_show_tree.nd) (Gs_c (G_n (i := 10) sc_show_tree.nd) Gs_0)))) (fun _ _ _ _ _ => (Ts_1 (T_cmp (opd_eq (Fit.blk ft).room.units) (E_loc 9) (E_loc 4)))) (fun _ _ _ _ _ => (E_loc 9))) A_0)) sc_show_tree.nd)
    (B_c (S_set (i := 6) (E_blF snd_len call_lenA z_len (A_c (E_lc (own := [("first", 9), ("last", 10)]) sc_show_tree.nd (I_a (E_loc 2)) (show BlkOk ["letters", "tree", "inner", "pieces", "dot", "opened", "closed", "span", "above", "first", "last"] (defScope s_show_tree) _ [("first", 9), ("last", 10)] from ⟨rfl, by decide +kernel, by decide +kernel, by decide +kernel, by decide +kernel⟩) (fun _ _ _ _ _ => (G_t (Gs_c (G_n (i := 9) sc_show_tree.nd) (Gs_c (G_n (i := 10) sc_show_tree.nd) Gs_0)))) (fun _ _ _ _ _ => (Ts_1 (T_cmp (opd_eq (Fit.blk ft).room.units) (E_loc 10) (E_loc 4)))) (fun _ _ _ _ _ => (E_loc 10))) A_0)) sc_show_tree.nd)
    (B_1 (S_ex (E_app (j := 3) (E_op opd_hAdd (E_op opd_hAdd (E_op opd_hAdd (E_op opd_hMulT E_str (E_loc 5)) E_str) (E_op opd_hMulT E_str (E_loc 6))) (E_cut (E_loc 0) (O_1 (E_loc 4)) (O_1 (E_op opd_hAdd (E_loc 4) E_int))))))))))
    (B_1 (S_ret (E_join E_str (E_loc 3)))))))
theorem ok_Scanner____init__ {f : Addr} {fd : FuncData} (F : Fun K "__init__" "Scanner.__init__" s_Scanner____init__ f fd) (z_isinstance : mg "isinstance" = none) (z_str : mg "str" = none) {C_InvalidText : Addr} (E_InvalidText : ECls P w K mg base "InvalidText" "position" C_InvalidText) {C_Scanner : Addr} (rC_Scanner : reg K "Scanner" = some C_Scanner) (cl_Scanner : Cls K C_Scanner) (nf_Scanner_source : NoAttr K C_Scanner "source") (nf_Scanner_spot : NoAttr K C_Scanner "spot") : FnG P w K mg base 3 f fd ["self", "source"] S_Scanner____init__ :=
  fnG (k := 2) (m := 2) F sc_Scanner____init__ rfl fun cdv A outer s H E hgd hr => by
    have ft : Fit (cxG P w K mg base ["self", "source"] "Scanner.__init__" (defScope s_Scanner____init__) f cdv A outer s H E) (fun cls d _ H => E cls d H) 2 := ⟨hgd, hr, takes_of rfl rfl rfl rfl⟩
    have hp : PassesOwn (model P w) (cxG P w K mg base ["self", "source"] "Scanner.__init__" (defScope s_Scanner____init__) f cdv A outer s H E).A (cxG P w K mg base ["self", "source"] "Scanner.__init__" (defScope s_Scanner____init__) f cdv A outer s H E).env (cxG P w K mg base ["self", "source"] "Scanner.__init__" (defScope s_Scanner____init__) f cdv A outer s H E).xe := passes_of rfl
    exact (B_c (S_if (T_not (T_v (E_blF snd_isi L2.call_isi z_isinstance (A_c (E_loc 1) (A_c (E_ty1 z_str) A_0))))) (B_1 (S_raiseE E_InvalidText ft (by decide) (A_c E_non A_0))) B_0)
    (B_c (S_setA (j := 0) rC_Scanner cl_Scanner nf_Scanner_source (E_loc 1))
    (B_1 (S_setA (j := 0) rC_Scanner cl_Scanner nf_Scanner_spot E_int))))
theorem ok_Growing____init__ {f : Addr} {fd : FuncData} (F : Fun K "__init__" "Growing.__init__" s_Growing____init__ f fd) {C_Growing : Addr} (rC_Growing : reg K "Growing" = some C_Growing) (cl_Growing : Cls K C_Growing) (nf_Growing_above : NoAttr K C_Growing "above") (nf_Growing_parts : NoAttr K C_Growing "parts") (nf_Growing_signs : NoAttr K C_Growing "signs") : FnG P w K mg base 1 f fd ["self"] S_Growing____init__ :=
  fnG (k := 0) (m := 1) F sc_Growing____init__ rfl fun cdv A outer s H E hgd hr => by
    have ft : Fit (cxG P w K mg base ["self"] "Growing.__init__" (defScope s_Growing____init__) f cdv A outer s H E) (fun cls d _ H => E cls d H) 0 := ⟨hgd, hr, takes_of rfl rfl rfl rfl⟩
    have hp : PassesOwn (model P w) (cxG P w K mg base ["self"] "Growing.__init__" (defScope s_Growing____init__) f cdv A outer s H E).A (cxG P w K mg base ["self"] "Growing.__init__" (defScope s_Growing____init__) f cdv A outer s H E).env (cxG P w K mg base ["self"] "Growing.__init__" (defScope s_Growing____init__) f cdv A outer s H E).xe := passes_of rfl
    exact (B_c (S_setA (j := 0) rC_Growing cl_Growing nf_Growing_signs E_str)
    (B_c (S_setA (j := 0) rC_Growing cl_Growing nf_Growing_above (E_L A_0))
    (B_1 (S_setA (j := 0) rC_Growing cl_Growing nf_Growing_parts (E_L (A_c (E_L A_0) A_0))))))
theorem ok_Scanner__is_at_end {f : Addr} {fd : FuncData} (F : Fun K "is_at_end" "Scanner.is_at_end" s_Scanner__is_at_end f fd) (z_len : mg "len" = none) {C_Scanner : Addr} (rC_Scanner : reg K "Scanner" = some C_Scanner) (cl_Scanner : Cls K C_Scanner) (nf_Scanner_source : NoAttr K C_Scanner "source") (nf_Scanner_spot : NoAttr K C_Scanner "spot") : FnG P w K mg base 1 f fd ["self"] S_Scanner__is_at_end :=
  fnG (k := 0) (m := 1) F sc_Scanner__is_at_end rfl fun cdv A outer s H E hgd hr => by
    have ft : Fit (cxG P w K mg base ["self"] "Scanner.is_at_end" (defScope s_Scanner__is_at_end) f cdv A outer s H E) (fun cls d _ H => E cls d H) 0 := ⟨hgd, hr, takes_of rfl rfl rfl rfl⟩
    have hp : PassesOwn (model P w) (cxG P w K mg base ["self"] "Scanner.is_at_end" (defScope s_Scanner__is_at_end) f cdv A outer s H E).A (cxG P w K mg base ["self"] "Scanner.is_at_end" (defScope s_Scanner__is_at_end) f cdv A outer s H E).env (cxG P w K mg base ["self"] "Scanner.is_at_end" (defScope s_Scanner__is_at_end) f cdv A outer s H E).xe := passes_of rfl
    exact (B_1 (S_ret (E_cmp (opd_eq ft.room.units) (E_fld rC_Scanner cl_Scanner nf_Scanner_spot (E_loc 0)) (E_blF snd_len call_lenA z_len (A_c (E_fld rC_Scanner cl_Scanner nf_Scanner_source (E_loc 0)) A_0)))))
theorem ok_Growing__put_part {f : Addr} {fd : FuncData} (F : Fun K "put_part" "Growing.put_part" s_Growing__put_part f fd) {C_Growing : Addr} (rC_Growing : reg K "Growing" = some C_Growing) (cl_Growing : Cls K C_Growing) (nf_Growing_above : NoAttr K C_Growing "above") (nf_Growing_parts : NoAttr K C_Growing "parts") : FnG P w K mg base 1 f fd ["self", "root"] S_Growing__put_part :=
  fnG (k := 0) (m := 3) F sc_Growing__put_part rfl fun cdv A outer s H E hgd hr => by
    have ft : Fit (cxG P w K mg base ["self", "root", "part"] "Growing.put_part" (defScope s_Growing__put_part) f cdv A outer s H E) (fun cls d _ H => E cls d H) 0 := ⟨hgd, hr, takes_of rfl rfl rfl rfl⟩
    have hp : PassesOwn (model P w) (cxG P w K mg base ["self", "root", "part"] "Growing.put_part" (defScope s_Growing__put_part) f cdv A outer s H E).A (cxG P w K mg base ["self", "root", "part"] "Growing.put_part" (defScope s_Growing__put_part) f cdv A outer s H E).env (cxG P w K mg base ["self", "root", "part"] "Growing.put_part" (defScope s_Growing__put_part) f cdv A outer s H E).xe := passes_of rfl
    exact (B_foc (i := 2) (P_c (P_f rC_Growing cl_Growing nf_Growing_parts (P_n (j := 0))) E_cn)
    (B_c (S_if (PW.pt (W_and (T_cmp (opd_ne ft.room.units) (E_loc 2) (E_L A_0)) (W_and1 (T_cmp opd_notN (E_loc 1) E_non)))) (B_1 (S_tg (E_idx (E_loc 2) E_int) (G_P (P_f rC_Growing cl_Growing nf_Growing_above (P_n (j := 0))) (P_n (j := 1))))) B_0)
    (B_1 (S_ex (E_app (j := 2) (E_loc 1))))) sc_Growing__put_part.nd)
theorem ok_Growing__close {f : Addr} {fd : FuncData} (F : Fun K "close" "Growing.close" s_Growing__close f fd) {C_Growing : Addr} (rC_Growing : reg K "Growing" = some C_Growing) (cl_Growing : Cls K C_Growing) (nf_Growing_parts : NoAttr K C_Growing "parts") {f_Growing__put_part : Addr} {fd_Growing__put_part : FuncData} (M_Growing__put_part : MDef P w K mg base 1 C_Growing "put_part" f_Growing__put_part fd_Growing__put_part ["self", "root"] S_Growing__put_part) : FnG P w K mg base 2 f fd ["self"] S_Growing__close :=
  fnG (k := 1) (m := 2) F sc_Growing__close rfl fun cdv A outer s H E hgd hr => by
    have ft : Fit (cxG P w K mg base ["self", "part"] "Growing.close" (defScope s_Growing__close) f cdv A outer s H E) (fun cls d _ H => E cls d H) 1 := ⟨hgd, hr, takes_of rfl rfl rfl rfl⟩
    have hp : PassesOwn (model P w) (cxG P w K mg base ["self", "part"] "Growing.close" (defScope s_Growing__close) f cdv A outer s H E).A (cxG P w K mg base ["self", "part"] "Growing.close" (defScope s_Growing__close) f cdv A outer s H E).env (cxG P w K mg base ["self", "part"] "Growing.close" (defScope s_Growing__close) f cdv A outer s H E).xe := passes_of rfl
    exact (B_c (S_set (i := 1) (E_popP (P_f rC_Growing cl_Growing nf_Growing_parts (P_n (j := 0)))) sc_Growing__close.nd)
    (B_1 (S_ex (E_meth rC_Growing cl_Growing M_Growing__put_part ft (E_loc 0) (A_c (E_idx (E_loc 1) E_int) A_0)))))
theorem ok_Growing__put_operator {f : Addr} {fd : FuncData} (F : Fun K "put_operator" "Growing.put_operator" s_Growing__put_operator f fd) (z_len : mg "len" = none) {C_Growing : Addr} (rC_Growing : reg K "Growing" = some C_Growing) (cl_Growing : Cls K C_Growing) (nf_Growing_above : NoAttr K C_Growing "above") (nf_Growing_parts : NoAttr K C_Growing "parts") (nf_Growing_signs : NoAttr K C_Growing "signs") : FnG P w K mg base 1 f fd ["self", "sign"] S_Growing__put_operator :=
  fnG (k := 0) (m := 3) F sc_Growing__put_operator rfl fun cdv A outer s H E hgd hr => by
    have ft : Fit (cxG P w K mg base ["self", "sign", "part"] "Growing.put_operator" (defScope s_Growing__put_operator) f cdv A outer s H E) (fun cls d _ H => E cls d H) 0 := ⟨hgd, hr, takes_of rfl rfl rfl rfl⟩
    have hp : PassesOwn (model P w) (cxG P w K mg base ["self", "sign", "part"] "Growing.put_operator" (defScope s_Growing__put_operator) f cdv A outer s H E).A (cxG P w K mg base ["self", "sign", "part"] "Growing.put_operator" (defScope s_Growing__put_operator) f cdv A outer s H E).env (cxG P w K mg base ["self", "sign", "part"] "Growing.put_operator" (defScope s_Growing__put_operator) f cdv A outer s H E).xe := passes_of rfl
    exact (B_foc (i := 2) (P_c (P_f rC_Growing cl_Growing nf_Growing_parts (P_n (j := 0))) E_cn)
    (B_c (S_if (T_cmp opd_notN (E_idx (E_loc 2) E_int) E_non) (B_1 (S_tg (E_blF snd_len call_lenA z_len (A_c (E_fld rC_Growing cl_Growing nf_Growing_signs (E_loc 0)) A_0)) (G_P (P_f rC_Growing cl_Growing nf_Growing_above (P_n (j := 0))) (P_c (P_n (j := 2)) pe_int)))) B_0)
    (B_c (S_ex (E_app (j := 2) (E_blF snd_len call_lenA z_len (A_c (E_fld rC_Growing cl_Growing nf_Growing_signs (E_loc 0)) A_0))))
    (B_c (S_augA (j := 0) iopd_gAdd rC_Growing cl_Growing nf_Growing_signs (E_loc 1))
    (B_1 (S_ex (E_appP (P_f rC_Growing cl_Growing nf_Growing_above (P_n (j := 0))) E_non)))))) sc_Growing__put_operator.nd)
theorem ok_Growing__put {f : Addr} {fd : FuncData} (F : Fun K "put" "Growing.put" s_Growing__put f fd) {C_Growing : Addr} (rC_Growing : reg K "Growing" = some C_Growing) (cl_Growing : Cls K C_Growing) (nf_Growing_parts : NoAttr K C_Growing "parts") {f_Growing__close : Addr} {fd_Growing__close : FuncData} (M_Growing__close : MDef P w K mg base 2 C_Growing "close" f_Growing__close fd_Growing__close ["self"] S_Growing__close) {f_Growing__put_part : Addr} {fd_Growing__put_part : FuncData} (M_Growing__put_part : MDef P w K mg base 1 C_Growing "put_part" f_Growing__put_part fd_Growing__put_part ["self", "root"] S_Growing__put_part) {f_Growing__put_operator : Addr} {fd_Growing__put_operator : FuncData} (M_Growing__put_operator : MDef P w K mg base 1 C_Growing "put_operator" f_Growing__put_operator fd_Growing__put_operator ["self", "sign"] S_Growing__put_operator) : FnG P w K mg base 3 f fd ["self", "character"] S_Growing__put :=
  fnG (k := 2) (m := 2) F sc_Growing__put rfl fun cdv A outer s H E hgd hr => by
    have ft : Fit (cxG P w K mg base ["self", "character"] "Growing.put" (defScope s_Growing__put) f cdv A outer s H E) (fun cls d _ H => E cls d H) 2 := ⟨hgd, hr, takes_of rfl rfl rfl rfl⟩
    have hp : PassesOwn (model P w) (cxG P w K mg base ["self", "character"] "Growing.put" (defScope s_Growing__put) f cdv A outer s H E).A (cxG P w K mg base ["self", "character"] "Growing.put" (defScope s_Growing__put) f cdv A outer s H E).env (cxG P w K mg base ["self", "character"] "Growing.put" (defScope s_Growing__put) f cdv A outer s H E).xe := passes_of rfl
    exact (B_1 (S_if (T_cmp (opd_eq ft.room.units) (E_loc 1) E_str) (B_1 (S_ex (E_appP (P_f rC_Growing cl_Growing nf_Growing_parts (P_n (j := 0))) (E_L A_0)))) (B_1 (S_if (T_cmp (opd_eq ft.room.units) (E_loc 1) E_str) (B_1 (S_ex (E_meth0 rC_Growing cl_Growing M_Growing__close ft (E_loc 0)))) (B_1 (S_if (T_cmp (opd_eq ft.room.units) (E_loc 1) E_str) (B_1 (S_ex (E_meth rC_Growing cl_Growing M_Growing__put_part ft (E_loc 0) (A_c E_non A_0)))) (B_1 (S_ex (E_meth rC_Growing cl_Growing M_Growing__put_operator ft (E_loc 0) (A_c (E_loc 1) A_0))))))))))
theorem ok_Growing__is_whole {f : Addr} {fd : FuncData} (F : Fun K "is_whole" "Growing.is_whole" s_Growing__is_whole f fd) (z_len : mg "len" = none) {C_Growing : Addr} (rC_Growing : reg K "Growing" = some C_Growing) (cl_Growing : Cls K C_Growing) (nf_Growing_parts : NoAttr K C_Growing "parts") : FnG P w K mg base 1 f fd ["self"] S_Growing__is_whole :=
  fnG (k := 0) (m := 1) F sc_Growing__is_whole rfl fun cdv A outer s H E hgd hr => by
    have ft : Fit (cxG P w K mg base ["self"] "Growing.is_whole" (defScope s_Growing__is_whole) f cdv A outer s H E) (fun cls d _ H => E cls d H) 0 := ⟨hgd, hr, takes_of rfl rfl rfl rfl⟩
    have hp : PassesOwn (model P w) (cxG P w K mg base ["self"] "Growing.is_whole" (defScope s_Growing__is_whole) f cdv A outer s H E).A (cxG P w K mg base ["self"] "Growing.is_whole" (defScope s_Growing__is_whole) f cdv A outer s H E).env (cxG P w K mg base ["self"] "Growing.is_whole" (defScope s_Growing__is_whole) f cdv A outer s H E).xe := passes_of rfl
    exact (B_1 (S_ret (E_and (E_cmp (opd_eq ft.room.units) (E_bl1P snd_len call_lenA z_len (P_f rC_Growing cl_Growing nf_Growing_parts (P_n (j := 0)))) E_int) (E_one (E_or (E_cmp (opd_eq ft.room.units) (E_bl1P snd_len call_lenA z_len (P_c (P_f rC_Growing cl_Growing nf_Growing_parts (P_n (j := 0))) pe_int)) E_int) (E_one (E_cmpP (opd_eq ft.room.units) (P_f rC_Growing cl_Growing nf_Growing_parts (P_n (j := 0))) (E_L (A_c (E_L (A_c E_non A_0)) A_0)))))))))
theorem ok_Scanner__sees {f : Addr} {fd : FuncData} (F : Fun K "sees" "Scanner.sees" s_Scanner__sees f fd) {C_Scanner : Addr} (rC_Scanner : reg K "Scanner" = some C_Scanner) (cl_Scanner : Cls K C_Scanner) (nf_Scanner_source : NoAttr K C_Scanner "source") (nf_Scanner_spot : NoAttr K C_Scanner "spot") {f_Scanner__is_at_end : Addr} {fd_Scanner__is_at_end : FuncData} (M_Scanner__is_at_end : MDef P w K mg base 1 C_Scanner "is_at_end" f_Scanner__is_at_end fd_Scanner__is_at_end ["self"] S_Scanner__is_at_end) : FnG P w K mg base 2 f fd ["self", "characters"] S_Scanner__sees :=
  fnG (k := 1) (m := 2) F sc_Scanner__sees rfl fun cdv A outer s H E hgd hr => by
    have ft : Fit (cxG P w K mg base ["self", "characters"] "Scanner.sees" (defScope s_Scanner__sees) f cdv A outer s H E) (fun cls d _ H => E cls d H) 1 := ⟨hgd, hr, takes_of rfl rfl rfl rfl⟩
    have hp : PassesOwn (model P w) (cxG P w K mg base ["self", "characters"] "Scanner.sees" (defScope s_Scanner__sees) f cdv A outer s H E).A (cxG P w K mg base ["self", "characters"] "Scanner.sees" (defScope s_Scanner__sees) f cdv A outer s H E).env (cxG P w K mg base ["self", "characters"] "Scanner.sees" (defScope s_Scanner__sees) f cdv A outer s H E).xe := passes_of rfl
    exact (B_1 (S_ret (E_and (E_not (E_meth0 rC_Scanner cl_Scanner M_Scanner__is_at_end ft (E_loc 0))) (E_one (E_cmp opd_in (E_idx (E_fld rC_Scanner cl_Scanner nf_Scanner_source (E_loc 0)) (E_fld rC_Scanner cl_Scanner nf_Scanner_spot (E_loc 0))) (E_loc 1))))))
theorem ok_Scanner__take {f : Addr} {fd : FuncData} (F : Fun K "take" "Scanner.take" s_Scanner__take f fd) {C_InvalidText : Addr} (E_InvalidText : ECls P w K mg base "InvalidText" "position" C_InvalidText) {C_Scanner : Addr} (rC_Scanner : reg K "Scanner" = some C_Scanner) (cl_Scanner : Cls K C_Scanner) (nf_Scanner_source : NoAttr K C_Scanner "source") (nf_Scanner_spot : NoAttr K C_Scanner "spot") {f_Scanner__sees : Addr} {fd_Scanner__sees : FuncData} (M_Scanner__sees : MDef P w K mg base 2 C_Scanner "sees" f_Scanner__sees fd_Scanner__sees ["self", "characters"] S_Scanner__sees) : FnG P w K mg base 3 f fd ["self", "characters"] S_Scanner__take :=
  fnG (k := 2) (m := 2) F sc_Scanner__take rfl fun cdv A outer s H E hgd hr => by
    have ft : Fit (cxG P w K mg base ["self", "characters"] "Scanner.take" (defScope s_Scanner__take) f cdv A outer s H E) (fun cls d _ H => E cls d H) 2 := ⟨hgd, hr, takes_of rfl rfl rfl rfl⟩
    have hp : PassesOwn (model P w) (cxG P w K mg base ["self", "characters"] "Scanner.take" (defScope s_Scanner__take) f cdv A outer s H E).A (cxG P w K mg base ["self", "characters"] "Scanner.take" (defScope s_Scanner__take) f cdv A outer s H E).env (cxG P w K mg base ["self", "characters"] "Scanner.take" (defScope s_Scanner__take) f cdv A outer s H E).xe := passes_of rfl
    exact (B_c (S_if (T_not (T_v (E_meth rC_Scanner cl_Scanner M_Scanner__sees ft (E_loc 0) (A_c (E_loc 1) A_0)))) (B_1 (S_raiseE E_InvalidText ft (by decide) (A_c (E_fld rC_Scanner cl_Scanner nf_Scanner_spot (E_loc 0)) A_0))) B_0)
    (B_c (S_augA (j := 0) iopd_gAdd rC_Scanner cl_Scanner nf_Scanner_spot E_int)
    (B_1 (S_ret (E_idx (E_fld rC_Scanner cl_Scanner nf_Scanner_source (E_loc 0)) (E_op opd_subI (E_fld rC_Scanner cl_Scanner nf_Scanner_spot (E_loc 0)) E_int))))))
theorem ok_Growing__expected {f : Addr} {fd : FuncData} (F : Fun K "expected" "Growing.expected" s_Growing__expected f fd) (z_len : mg "len" = none) {t_LETTERS : Tok} (g_LETTERS : mg "LETTERS" = some (.str "abcdefghijklmnopqrstuvwxyz" t_LETTERS)) {C_Growing : Addr} (rC_Growing : reg K "Growing" = some C_Growing) (cl_Growing : Cls K C_Growing) (nf_Growing_parts : NoAttr K C_Growing "parts") : FnG P w K mg base 1 f fd ["self"] S_Growing__expected :=
  fnG (k := 0) (m := 2) F sc_Growing__expected rfl fun cdv A outer s H E hgd hr => by
    have ft : Fit (cxG P w K mg base ["self", "size"] "Growing.expected" (defScope s_Growing__expected) f cdv A outer s H E) (fun cls d _ H => E cls d H) 0 := ⟨hgd, hr, takes_of rfl rfl rfl rfl⟩
    have hp : PassesOwn (model P w) (cxG P w K mg base ["self", "size"] "Growing.expected" (defScope s_Growing__expected) f cdv A outer s H E).A (cxG P w K mg base ["self", "size"] "Growing.expected" (defScope s_Growing__expected) f cdv A outer s H E).env (cxG P w K mg base ["self", "size"] "Growing.expected" (defScope s_Growing__expected) f cdv A outer s H E).xe := passes_of rfl
    exact (B_c (S_set (i := 1) (E_bl1P snd_len call_lenA z_len (P_c (P_f rC_Growing cl_Growing nf_Growing_parts (P_n (j := 0))) E_cn)) sc_Growing__expected.nd)
    (B_c (S_if (T_cmp (opd_eq ft.room.units) (E_loc 1) E_int) (B_1 (S_ret (E_gs g_LETTERS))) B_0)
    (B_c (S_if (T_cmp (opd_ltA ft.room.units) (E_loc 1) E_int) (B_1 (S_ret E_str)) B_0)
    (B_1 (S_ret (E_if (T_cmp opd_gtA (E_bl1P snd_len call_lenA z_len (P_f rC_Growing cl_Growing nf_Growing_parts (P_n (j := 0)))) E_int) E_str E_str))))))
theorem ok_read_tree {f : Addr} {fd : FuncData} (F : Fun K "read_tree" "read_tree" s_read_tree f fd) (z_len : mg "len" = none) (z_tuple : mg "tuple" = none) {t_MOST_OPERATORS : Tok} (g_MOST_OPERATORS : mg "MOST_OPERATORS" = some (.int 200 t_MOST_OPERATORS)) {C_InvalidText : Addr} (E_InvalidText : ECls P w K mg base "InvalidText" "position" C_InvalidText) {C_Growing : Addr} (rC_Growing : reg K "Growing" = some C_Growing) (cl_Growing : Cls K C_Growing) {C_Scanner : Addr} (rC_Scanner : reg K "Scanner" = some C_Scanner) (cl_Scanner : Cls K C_Scanner) (nf_Growing_above : NoAttr K C_Growing "above") (nf_Growing_signs : NoAttr K C_Growing "signs") {f_Scanner____init__ : Addr} {fd_Scanner____init__ : FuncData} (I_Scanner : IDef P w K mg base 3 "Scanner" C_Scanner f_Scanner____init__ fd_Scanner____init__ ["self", "source"] S_Scanner____init__) {f_Growing____init__ : Addr} {fd_Growing____init__ : FuncData} (I_Growing : IDef P w K mg base 1 "Growing" C_Growing f_Growing____init__ fd_Growing____init__ ["self"] S_Growing____init__) {f_Scanner__is_at_end : Addr} {fd_Scanner__is_at_end : FuncData} (M_Scanner__is_at_end : MDef P w K mg base 1 C_Scanner "is_at_end" f_Scanner__is_at_end fd_Scanner__is_at_end ["self"] S_Scanner__is_at_end) {f_Growing__put : Addr} {fd_Growing__put : FuncData} (M_Growing__put : MDef P w K mg base 3 C_Growing "put" f_Growing__put fd_Growing__put ["self", "character"] S_Growing__put) {f_Growing__is_whole : Addr} {fd_Growing__is_whole : FuncData} (M_Growing__is_whole : MDef P w K mg base 1 C_Growing "is_whole" f_Growing__is_whole fd_Growing__is_whole ["self"] S_Growing__is_whole) {f_Scanner__take : Addr} {fd_Scanner__take : FuncData} (M_Scanner__take : MDef P w K mg base 3 C_Scanner "take" f_Scanner__take fd_Scanner__take ["self", "characters"] S_Scanner__take) {f_Growing__expected : Addr} {fd_Growing__expected : FuncData} (M_Growing__expected : MDef P w K mg base 1 C_Growing "expected" f_Growing__expected fd_Growing__expected ["self"] S_Growing__expected) : FnG P w K mg base 5 f fd ["text"] S_read_tree :=
  fnG (k := 4) (m := 3) F sc_read_tree rfl fun cdv A outer s H E hgd hr => by
    have ft : Fit (cxG P w K mg base ["text", "scanner", "growing"] "read_tree" (defScope s_read_tree) f cdv A outer s H E) (fun cls d _ H => E cls d H) 4 := ⟨hgd, hr, takes_of rfl rfl rfl rfl⟩
    have hp : PassesOwn (model P w) (cxG P w K mg base ["text", "scanner", "growing"] "read_tree" (defScope s_read_tree) f cdv A outer s H E).A (cxG P w K mg base ["text", "scanner", "growing"] "read_tree" (defScope s_read_tree) f cdv A outer s H E).env (cxG P w K mg base ["text", "scanner", "growing"] "read_tree" (defScope s_read_tree) f cdv A outer s H E).xe := passes_of rfl
    exact (B_c (S_set (i := 1) (E_make rC_Scanner I_Scanner ft (A_c (E_loc 0) A_0)) sc_read_tree.nd)
    (B_c (S_set (i := 2) (E_make0 rC_Growing I_Growing ft) sc_read_tree.nd)
    (B_c (S_wh hp (T_not (T_v (E_meth0 rC_Scanner cl_Scanner M_Scanner__is_at_end ft (E_loc 1)))) (B_1 (S_ex (E_meth rC_Growing cl_Growing M_Growing__put ft (E_loc 2) (A_c (E_meth rC_Scanner cl_Scanner M_Scanner__take ft (E_loc 1) (A_c (E_meth0 rC_Growing cl_Growing M_Growing__expected ft (E_loc 2)) A_0)) A_0)))))
    (B_c (S_if (T_not (T_v (E_meth0 rC_Growing cl_Growing M_Growing__is_whole ft (E_loc 2)))) (B_1 (S_raiseE E_InvalidText ft (by decide) (A_c (E_blF snd_len call_lenA z_len (A_c (E_loc 0) A_0)) A_0))) B_0)
    (B_c (S_if (T_cmp opd_gtA (E_blF snd_len call_lenA z_len (A_c (E_fld rC_Growing cl_Growing nf_Growing_signs (E_loc 2)) A_0)) (E_gi g_MOST_OPERATORS)) (B_1 (S_raiseE E_InvalidText ft (by decide) (A_c E_non A_0))) B_0)
    (B_1 (S_ret (E_T (A_c (E_fld rC_Growing cl_Growing nf_Growing_signs (E_loc 2)) (A_c (E_ty1P snd_tuple call_tuple_of z_tuple (P_f rC_Growing cl_Growing nf_Growing_above (P_n (j := 2)))) A_0))))))))))
theorem ok_law {f : Addr} {fd : FuncData} (F : Fun K "law" "law" s_law f fd) (z_range : mg "range" = none) (z_repr : mg "repr" = none) {f__law_pen : Addr} {fd__law_pen : FuncData} (D__law_pen : Def P w K mg base 1 "_law_pen" f__law_pen fd__law_pen ["_law_script"] S__law_pen) {f__law_written : Addr} {fd__law_written : FuncData} (D__law_written : Def P w K mg base 1 "_law_written" f__law_written fd__law_written ["_law_row", "_law_parents"] S__law_written) {f__law_tree_of : Addr} {fd__law_tree_of : FuncData} (D__law_tree_of : Def P w K mg base 2 "_law_tree_of" f__law_tree_of fd__law_tree_of ["_law_pen_here", "_law_size"] S__law_tree_of) {f__law_word : Addr} {fd__law_word : FuncData} (D__law_word : Def P w K mg base 2 "_law_word" f__law_word fd__law_word ["_law_pen_here", "_law_size"] S__law_word) {f_show_tree : Addr} {fd_show_tree : FuncData} (D_show_tree : Def P w K mg base 2 "show_tree" f_show_tree fd_show_tree ["letters", "tree"] S_show_tree) {f_read_tree : Addr} {fd_read_tree : FuncData} (D_read_tree : Def P w K mg base 5 "read_tree" f_read_tree fd_read_tree ["text"] S_read_tree) {f__law_draw : Addr} {fd__law_draw : FuncData} (D__law_draw : Def P w K mg base 1 "_law_draw" f__law_draw fd__law_draw ["_law_pen_here", "_law_count"] S__law_draw) (kb_show_tree_0_tree_letters : KwB K fd_show_tree ["letters", "tree"] ["tree", "letters"] 0 [1, 0]) (kb_read_tree_0_text : KwB K fd_read_tree ["text"] ["text"] 0 [0]) : FnG P w K mg base 6 f fd ["_law_script"] S_law :=
  fnG (k := 5) (m := 7) F sc_law rfl fun cdv A outer s H E hgd hr => by
    have ft : Fit (cxG P w K mg base ["_law_script", "_law_pen_here", "_law_lap", "_law_size", "_law_parents", "_law_row", "_law_due"] "law" (defScope s_law) f cdv A outer s H E) (fun cls d _ H => E cls d H) 5 := ⟨hgd, hr, takes_of rfl rfl rfl rfl⟩
    have hp : PassesOwn (model P w) (cxG P w K mg base ["_law_script", "_law_pen_here", "_law_lap", "_law_size", "_law_parents", "_law_row", "_law_due"] "law" (defScope s_law) f cdv A outer s H E).A (cxG P w K mg base ["_law_script", "_law_pen_here", "_law_lap", "_law_size", "_law_parents", "_law_row", "_law_due"] "law" (defScope s_law) f cdv A outer s H E).env (cxG P w K mg base ["_law_script", "_law_pen_here", "_law_lap", "_law_size", "_law_parents", "_law_row", "_law_due"] "law" (defScope s_law) f cdv A outer s H E).xe := passes_of rfl
    exact (B_c (S_set (i := 1) (E_call D__law_pen ft (A_c (E_loc 0) A_0)) sc_law.nd)
    (B_c (S_for hp (I_r1 z_range E_int) (G_n (i := 2) sc_law.nd) (B_c (S_set (i := 3) (E_idx (E_L (A_c (E_call D__law_draw ft (A_c (E_loc 1) (A_c E_int A_0))) (A_c (E_call D__law_draw ft (A_c (E_loc 1) (A_c E_int A_0))) (A_c E_int (A_c (E_call D__law_draw ft (A_c (E_loc 1) (A_c E_int A_0))) (A_c (E_idx (E_L (A_c E_int (A_c E_int A_0))) (E_call D__law_draw ft (A_c (E_loc 1) (A_c E_int A_0)))) A_0)))))) (E_loc 2)) sc_law.nd)
    (B_c (S_par (i := 4) (j := 5) (A_c (E_call D__law_tree_of ft (A_c (E_loc 1) (A_c (E_loc 3) A_0))) (A_c (E_call D__law_word ft (A_c (E_loc 1) (A_c (E_loc 3) A_0))) A_0)) sc_law.nd)
    (B_c (S_set (i := 6) (E_call D__law_written ft (A_c (E_loc 5) (A_c (E_loc 4) A_0))) sc_law.nd)
    (B_c (S_if (T_cmp (opd_ne ft.room.units) (E_blF snd_reprA (call_reprB ft.gd ft.room.units) z_repr (A_c (E_L (A_c (E_call D_show_tree ft (A_c (E_loc 5) (A_c (E_loc 4) A_0))) (A_c (E_callK0 D_show_tree ft kb_show_tree_0_tree_letters (K_c (E_loc 4) (K_c (E_loc 5) K_0))) A_0))) A_0)) (E_blF snd_reprA (call_reprB ft.gd ft.room.units) z_repr (A_c (E_L (A_c (E_loc 6) (A_c (E_loc 6) A_0))) A_0))) (B_1 (S_ret E_bl)) B_0)
    (B_1 (S_if (T_cmp (opd_ne ft.room.units) (E_blF snd_reprA (call_reprB ft.gd ft.room.units) z_repr (A_c (E_L (A_c (E_call D_read_tree ft (A_c (E_loc 6) A_0)) (A_c (E_callK0 D_read_tree ft kb_read_tree_0_text (K_c (E_loc 6) K_0)) A_0))) A_0)) (E_blF snd_reprA (call_reprB ft.gd ft.room.units) z_repr (A_c (E_L (A_c (E_T (A_c (E_loc 5) (A_c (E_loc 4) A_0))) (A_c (E_T (A_c (E_loc 5) (A_c (E_loc 4) A_0))) A_0))) A_0))) (B_1 (S_ret E_bl)) B_0)))))))
    (B_1 (S_ret (E_and (E_cmp (opd_eq ft.room.units) (E_call D_show_tree ft (A_c E_str (A_c (E_T A_0) A_0))) E_str) (E_one (E_cmp (opd_eq ft.room.units) (E_call D_read_tree ft (A_c E_str A_0)) (E_T (A_c E_str (A_c (E_T A_0) A_0))))))))))
theorem all_mk {P : Program} {w : World} {K : PySem.W.Frag} {h : Heap} {mg : Str → Option Value} {fa f0 f1 f2 f3 f4 f5 f6 f7 f8 f9 f10 f11 f12 f13 f14 f15 f16 f17 f18 f19 : Addr} (KX : K.In h) (G : h.Ns mainGlobals mg) (hfa : mg "law" = some (.ref fa))
    {C_Growing : Addr} (aK_Growing : PySem.W.nsIn K mainGlobals "Growing" = some (some (.ref C_Growing))) (pg_Growing : PySem.W.plainGet K C_Growing Str.empty = true) (hd_Growing : PySem.W.hasDictIn K C_Growing = true) (po_Growing : PySem.W.plainOver K C_Growing = true) (sa_Growing : PySem.W.findIn K (.ref C_Growing) "__setattr__" = some (some (.builtin "object.__setattr__"))) (mk_Growing : PySem.W.makesIn K C_Growing = true) (kc_Growing : PySem.W.keepIn K (.ref C_Growing) = true)
    {C_Scanner : Addr} (aK_Scanner : PySem.W.nsIn K mainGlobals "Scanner" = some (some (.ref C_Scanner))) (pg_Scanner : PySem.W.plainGet K C_Scanner Str.empty = true) (hd_Scanner : PySem.W.hasDictIn K C_Scanner = true) (po_Scanner : PySem.W.plainOver K C_Scanner = true) (sa_Scanner : PySem.W.findIn K (.ref C_Scanner) "__setattr__" = some (some (.builtin "object.__setattr__"))) (mk_Scanner : PySem.W.makesIn K C_Scanner = true) (kc_Scanner : PySem.W.keepIn K (.ref C_Scanner) = true)
    (nf_Growing_above : PySem.W.findIn K (.ref C_Growing) "above" = some none)
    (nf_Growing_parts : PySem.W.findIn K (.ref C_Growing) "parts" = some none)
    (nf_Growing_signs : PySem.W.findIn K (.ref C_Growing) "signs" = some none)
    (nf_Scanner_source : PySem.W.findIn K (.ref C_Scanner) "source" = some none)
    (nf_Scanner_spot : PySem.W.findIn K (.ref C_Scanner) "spot" = some none)
    {od0 an0 : Option Addr} {sl0 : Array (Option Value)} {oc0 kV0 dc0 pm0 cd0 ct0 : Value} (a0 : PySem.W.nsIn K mainGlobals "_law_pen" = some (some (.ref f0))) (l0 : K.lookup f0 = some ⟨oc0, od0, .func (PySem.W.fnOf "_law_pen" "_law_pen" (defArgs s__law_pen) (defBody s__law_pen) (defScope s__law_pen) .none kV0 dc0 pm0 an0 cd0 ct0), sl0⟩) (c0 : PySem.W.codeIn K cd0 "_law_pen" = true) (k0 : PySem.W.keepIn K (.ref f0) = true)
    {od1 an1 : Option Addr} {sl1 : Array (Option Value)} {oc1 kV1 dc1 pm1 cd1 ct1 : Value} (a1 : PySem.W.nsIn K mainGlobals "_law_written" = some (some (.ref f1))) (l1 : K.lookup f1 = some ⟨oc1, od1, .func (PySem.W.fnOf "_law_written" "_law_written" (defArgs s__law_written) (defBody s__law_written) (defScope s__law_written) .none kV1 dc1 pm1 an1 cd1 ct1), sl1⟩) (c1 : PySem.W.codeIn K cd1 "_law_written" = true) (k1 : PySem.W.keepIn K (.ref f1) = true)
    {od2 an2 : Option Addr} {sl2 : Array (Option Value)} {oc2 kV2 dc2 pm2 cd2 ct2 : Value} (a2 : PySem.W.nsIn K mainGlobals "_law_draw" = some (some (.ref f2))) (l2 : K.lookup f2 = some ⟨oc2, od2, .func (PySem.W.fnOf "_law_draw" "_law_draw" (defArgs s__law_draw) (defBody s__law_draw) (defScope s__law_draw) .none kV2 dc2 pm2 an2 cd2 ct2), sl2⟩) (c2 : PySem.W.codeIn K cd2 "_law_draw" = true) (k2 : PySem.W.keepIn K (.ref f2) = true)
    {od3 an3 : Option Addr} {sl3 : Array (Option Value)} {oc3 kV3 dc3 pm3 cd3 ct3 : Value} (a3 : PySem.W.nsIn K mainGlobals "_law_tree_of" = some (some (.ref f3))) (l3 : K.lookup f3 = some ⟨oc3, od3, .func (PySem.W.fnOf "_law_tree_of" "_law_tree_of" (defArgs s__law_tree_of) (defBody s__law_tree_of) (defScope s__law_tree_of) .none kV3 dc3 pm3 an3 cd3 ct3), sl3⟩) (c3 : PySem.W.codeIn K cd3 "_law_tree_of" = true) (k3 : PySem.W.keepIn K (.ref f3) = true)
    {od4 an4 : Option Addr} {sl4 : Array (Option Value)} {oc4 kV4 dc4 pm4 cd4 ct4 : Value} (a4 : PySem.W.nsIn K mainGlobals "_law_word" = some (some (.ref f4))) (l4 : K.lookup f4 = some ⟨oc4, od4, .func (PySem.W.fnOf "_law_word" "_law_word" (defArgs s__law_word) (defBody s__law_word) (defScope s__law_word) .none kV4 dc4 pm4 an4 cd4 ct4), sl4⟩) (c4 : PySem.W.codeIn K cd4 "_law_word" = true) (k4 : PySem.W.keepIn K (.ref f4) = true)
    {od5 an5 : Option Addr} {sl5 : Array (Option Value)} {oc5 kV5 dc5 pm5 cd5 ct5 : Value} (a5 : PySem.W.nsIn K mainGlobals "dot_spans" = some (some (.ref f5))) (l5 : K.lookup f5 = some ⟨oc5, od5, .func (PySem.W.fnOf "dot_spans" "dot_spans" (defArgs s_dot_spans) (defBody s_dot_spans) (defScope s_dot_spans) .none kV5 dc5 pm5 an5 cd5 ct5), sl5⟩) (c5 : PySem.W.codeIn K cd5 "dot_spans" = true) (k5 : PySem.W.keepIn K (.ref f5) = true)
    {od6 an6 : Option Addr} {sl6 : Array (Option Value)} {oc6 kV6 dc6 pm6 cd6 ct6 : Value} (a6 : PySem.W.nsIn K mainGlobals "show_tree" = some (some (.ref f6))) (l6 : K.lookup f6 = some ⟨oc6, od6, .func (PySem.W.fnOf "show_tree" "show_tree" (defArgs s_show_tree) (defBody s_show_tree) (defScope s_show_tree) .none kV6 dc6 pm6 an6 cd6 ct6), sl6⟩) (c6 : PySem.W.codeIn K cd6 "show_tree" = true) (k6 : PySem.W.keepIn K (.ref f6) = true)
    {od7 an7 : Option Addr} {sl7 : Array (Option Value)} {oc7 kV7 dc7 pm7 cd7 ct7 : Value} (a7 : PySem.W.findIn K (.ref C_Scanner) "__init__" = some (some (.ref f7))) (i7 : PySem.W.isFn K (.ref f7) = true) (l7 : K.lookup f7 = some ⟨oc7, od7, .func (PySem.W.fnOf "__init__" "Scanner.__init__" (defArgs s_Scanner____init__) (defBody s_Scanner____init__) (defScope s_Scanner____init__) .none kV7 dc7 pm7 an7 cd7 ct7), sl7⟩) (c7 : PySem.W.codeIn K cd7 "Scanner.__init__" = true) (k7 : PySem.W.keepIn K (.ref f7) = true)
    {od8 an8 : Option Addr} {sl8 : Array (Option Value)} {oc8 kV8 dc8 pm8 cd8 ct8 : Value} (a8 : PySem.W.findIn K (.ref C_Growing) "__init__" = some (some (.ref f8))) (i8 : PySem.W.isFn K (.ref f8) = true) (l8 : K.lookup f8 = some ⟨oc8, od8, .func (PySem.W.fnOf "__init__" "Growing.__init__" (defArgs s_Growing____init__) (defBody s_Growing____init__) (defScope s_Growing____init__) .none kV8 dc8 pm8 an8 cd8 ct8), sl8⟩) (c8 : PySem.W.codeIn K cd8 "Growing.__init__" = true) (k8 : PySem.W.keepIn K (.ref f8) = true)
    {od9 an9 : Option Addr} {sl9 : Array (Option Value)} {oc9 kV9 dc9 pm9 cd9 ct9 : Value} (a9 : PySem.W.findIn K (.ref C_Scanner) "is_at_end" = some (some (.ref f9))) (i9 : PySem.W.isFn K (.ref f9) = true) (l9 : K.lookup f9 = some ⟨oc9, od9, .func (PySem.W.fnOf "is_at_end" "Scanner.is_at_end" (defArgs s_Scanner__is_at_end) (defBody s_Scanner__is_at_end) (defScope s_Scanner__is_at_end) .none kV9 dc9 pm9 an9 cd9 ct9), sl9⟩) (c9 : PySem.W.codeIn K cd9 "Scanner.is_at_end" = true) (k9 : PySem.W.keepIn K (.ref f9) = true)
    {od10 an10 : Option Addr} {sl10 : Array (Option Value)} {oc10 kV10 dc10 pm10 cd10 ct10 : Value} (a10 : PySem.W.findIn K (.ref C_Growing) "put_part" = some (some (.ref f10))) (i10 : PySem.W.isFn K (.ref f10) = true) (l10 : K.lookup f10 = some ⟨oc10, od10, .func (PySem.W.fnOf "put_part" "Growing.put_part" (defArgs s_Growing__put_part) (defBody s_Growing__put_part) (defScope s_Growing__put_part) .none kV10 dc10 pm10 an10 cd10 ct10), sl10⟩) (c10 : PySem.W.codeIn K cd10 "Growing.put_part" = true) (k10 : PySem.W.keepIn K (.ref f10) = true)
    {od11 an11 : Option Addr} {sl11 : Array (Option Value)} {oc11 kV11 dc11 pm11 cd11 ct11 : Value} (a11 : PySem.W.findIn K (.ref C_Growing) "close" = some (some (.ref f11))) (i11 : PySem.W.isFn K (.ref f11) = true) (l11 : K.lookup f11 = some ⟨oc11, od11, .func (PySem.W.fnOf "close" "Growing.close" (defArgs s_Growing__close) (defBody s_Growing__close) (defScope s_Growing__close) .none kV11 dc11 pm11 an11 cd11 ct11), sl11⟩) (c11 : PySem.W.codeIn K cd11 "Growing.close" = true) (k11 : PySem.W.keepIn K (.ref f11) = true)
    {od12 an12 : Option Addr} {sl12 : Array (Option Value)} {oc12 kV12 dc12 pm12 cd12 ct12 : Value} (a12 : PySem.W.findIn K (.ref C_Growing) "put_operator" = some (some (.ref f12))) (i12 : PySem.W.isFn K (.ref f12) = true) (l12 : K.lookup f12 = some ⟨oc12, od12, .func (PySem.W.fnOf "put_operator" "Growing.put_operator" (defArgs s_Growing__put_operator) (defBody s_Growing__put_operator) (defScope s_Growing__put_operator) .none kV12 dc12 pm12 an12 cd12 ct12), sl12⟩) (c12 : PySem.W.codeIn K cd12 "Growing.put_operator" = true) (k12 : PySem.W.keepIn K (.ref f12) = true)
    {od13 an13 : Option Addr} {sl13 : Array (Option Value)} {oc13 kV13 dc13 pm13 cd13 ct13 : Value} (a13 : PySem.W.findIn K (.ref C_Growing) "put" = some (some (.ref f13))) (i13 : PySem.W.isFn K (.ref f13) = true) (l13 : K.lookup f13 = some ⟨oc13, od13, .func (PySem.W.fnOf "put" "Growing.put" (defArgs s_Growing__put) (defBody s_Growing__put) (defScope s_Growing__put) .none kV13 dc13 pm13 an13 cd13 ct13), sl13⟩) (c13 : PySem.W.codeIn K cd13 "Growing.put" = true) (k13 : PySem.W.keepIn K (.ref f13) = true)
    {od14 an14 : Option Addr} {sl14 : Array (Option Value)} {oc14 kV14 dc14 pm14 cd14 ct14 : Value} (a14 : PySem.W.findIn K (.ref C_Growing) "is_whole" = some (some (.ref f14))) (i14 : PySem.W.isFn K (.ref f14) = true) (l14 : K.lookup f14 = some ⟨oc14, od14, .func (PySem.W.fnOf "is_whole" "Growing.is_whole" (defArgs s_Growing__is_whole) (defBody s_Growing__is_whole) (defScope s_Growing__is_whole) .none kV14 dc14 pm14 an14 cd14 ct14), sl14⟩) (c14 : PySem.W.codeIn K cd14 "Growing.is_whole" = true) (k14 : PySem.W.keepIn K (.ref f14) = true)
    {od15 an15 : Option Addr} {sl15 : Array (Option Value)} {oc15 kV15 dc15 pm15 cd15 ct15 : Value} (a15 : PySem.W.findIn K (.ref C_Scanner) "sees" = some (some (.ref f15))) (i15 : PySem.W.isFn K (.ref f15) = true) (l15 : K.lookup f15 = some ⟨oc15, od15, .func (PySem.W.fnOf "sees" "Scanner.sees" (defArgs s_Scanner__sees) (defBody s_Scanner__sees) (defScope s_Scanner__sees) .none kV15 dc15 pm15 an15 cd15 ct15), sl15⟩) (c15 : PySem.W.codeIn K cd15 "Scanner.sees" = true) (k15 : PySem.W.keepIn K (.ref f15) = true)
    {od16 an16 : Option Addr} {sl16 : Array (Option Value)} {oc16 kV16 dc16 pm16 cd16 ct16 : Value} (a16 : PySem.W.findIn K (.ref C_Scanner) "take" = some (some (.ref f16))) (i16 : PySem.W.isFn K (.ref f16) = true) (l16 : K.lookup f16 = some ⟨oc16, od16, .func (PySem.W.fnOf "take" "Scanner.take" (defArgs s_Scanner__take) (defBody s_Scanner__take) (defScope s_Scanner__take) .none kV16 dc16 pm16 an16 cd16 ct16), sl16⟩) (c16 : PySem.W.codeIn K cd16 "Scanner.take" = true) (k16 : PySem.W.keepIn K (.ref f16) = true)
    {od17 an17 : Option Addr} {sl17 : Array (Option Value)} {oc17 kV17 dc17 pm17 cd17 ct17 : Value} (a17 : PySem.W.findIn K (.ref C_Growing) "expected" = some (some (.ref f17))) (i17 : PySem.W.isFn K (.ref f17) = true) (l17 : K.lookup f17 = some ⟨oc17, od17, .func (PySem.W.fnOf "expected" "Growing.expected" (defArgs s_Growing__expected) (defBody s_Growing__expected) (defScope s_Growing__expected) .none kV17 dc17 pm17 an17 cd17 ct17), sl17⟩) (c17 : PySem.W.codeIn K cd17 "Growing.expected" = true) (k17 : PySem.W.keepIn K (.ref f17) = true)
    {od18 an18 : Option Addr} {sl18 : Array (Option Value)} {oc18 kV18 dc18 pm18 cd18 ct18 : Value} (a18 : PySem.W.nsIn K mainGlobals "read_tree" = some (some (.ref f18))) (l18 : K.lookup f18 = some ⟨oc18, od18, .func (PySem.W.fnOf "read_tree" "read_tree" (defArgs s_read_tree) (defBody s_read_tree) (defScope s_read_tree) .none kV18 dc18 pm18 an18 cd18 ct18), sl18⟩) (c18 : PySem.W.codeIn K cd18 "read_tree" = true) (k18 : PySem.W.keepIn K (.ref f18) = true)
    {od19 an19 : Option Addr} {sl19 : Array (Option Value)} {oc19 kV19 dc19 pm19 cd19 ct19 : Value} (a19 : PySem.W.nsIn K mainGlobals "law" = some (some (.ref f19))) (l19 : K.lookup f19 = some ⟨oc19, od19, .func (PySem.W.fnOf "law" "law" (defArgs s_law) (defBody s_law) (defScope s_law) .none kV19 dc19 pm19 an19 cd19 ct19), sl19⟩) (c19 : PySem.W.codeIn K cd19 "law" = true) (k19 : PySem.W.keepIn K (.ref f19) = true)
    (z_abs : PySem.W.nsIn K mainGlobals "abs" = some none)
    (z_int : PySem.W.nsIn K mainGlobals "int" = some none)
    (z_isinstance : PySem.W.nsIn K mainGlobals "isinstance" = some none)
    (z_len : PySem.W.nsIn K mainGlobals "len" = some none)
    (z_list : PySem.W.nsIn K mainGlobals "list" = some none)
    (z_max : PySem.W.nsIn K mainGlobals "max" = some none)
    (z_min : PySem.W.nsIn K mainGlobals "min" = some none)
    (z_range : PySem.W.nsIn K mainGlobals "range" = some none)
    (z_repr : PySem.W.nsIn K mainGlobals "repr" = some none)
    (z_str : PySem.W.nsIn K mainGlobals "str" = some none)
    (z_tuple : PySem.W.nsIn K mainGlobals "tuple" = some none)
    (z_zip : PySem.W.nsIn K mainGlobals "zip" = some none)
    {t_LETTERS : Tok} (g_LETTERS : PySem.W.nsIn K mainGlobals "LETTERS" = some (some (.str "abcdefghijklmnopqrstuvwxyz" t_LETTERS)))
    {t_MOST_OPERATORS : Tok} (g_MOST_OPERATORS : PySem.W.nsIn K mainGlobals "MOST_OPERATORS" = some (some (.int 200 t_MOST_OPERATORS)))
    {C_InvalidText C_WearError : Addr}
    (aC_InvalidText : PySem.W.nsIn K mainGlobals "InvalidText" = some (some (.ref C_InvalidText)))
    (ga_InvalidText : PySem.W.findIn K (.ref C_InvalidText) "__getattribute__" = some (some (.builtin "BaseException.__getattribute__")))
    (gg_InvalidText : PySem.W.findIn K (.ref C_InvalidText) "__getattr__" = some none)
    (eC_InvalidText : PySem.W.subIn K (.ref C_InvalidText) (.type "BaseException") = some true)
    (hC_InvalidText : PySem.W.hasDictIn K C_InvalidText = true)
    (ca_InvalidText : PySem.W.findIn K (.ref C_InvalidText) "__class__" = some (some (.builtin "object.__class__")))
    (mo_InvalidText : PySem.W.mroIn K C_InvalidText (.type "object") = some true)
    (tC_InvalidText : PySem.W.typeIn K (.ref C_InvalidText) = some (.type "type"))
    (aC_WearError : PySem.W.nsIn K mainGlobals "WearError" = some (some (.ref C_WearError)))
    (ga_WearError : PySem.W.findIn K (.ref C_WearError) "__getattribute__" = some (some (.builtin "BaseException.__getattribute__")))
    (gg_WearError : PySem.W.findIn K (.ref C_WearError) "__getattr__" = some none)
    (eC_WearError : PySem.W.subIn K (.ref C_WearError) (.type "BaseException") = some true)
    (hC_WearError : PySem.W.hasDictIn K C_WearError = true)
    (ca_WearError : PySem.W.findIn K (.ref C_WearError) "__class__" = some (some (.builtin "object.__class__")))
    (mo_WearError : PySem.W.mroIn K C_WearError (.type "object") = some true)
    (tC_WearError : PySem.W.typeIn K (.ref C_WearError) = some (.type "type"))
    (spX : PySem.W.specialIn K (.builtin "object.__class__") "__get__" = some (some (.builtin "getset_descriptor.__get__"))) (tkX : PySem.W.takesIn K (.builtin "object.__class__") = some true)
    {nm_InvalidText q_InvalidText : Str} {NN_InvalidText fI_InvalidText : Addr} {bs_InvalidText sub_InvalidText : List Value} {sn_InvalidText : List Str} {ab_InvalidText : Bool} {col_InvalidText : Option Bool} {dd_InvalidText : Option Addr} {m0_InvalidText m1_InvalidText m2_InvalidText m3_InvalidText m5_InvalidText : Option Value}
    (xL_InvalidText : K.lookup C_InvalidText = some (excClassObj nm_InvalidText q_InvalidText C_InvalidText NN_InvalidText bs_InvalidText [.ref C_WearError, .type "ValueError", .type "Exception", .type "BaseException", .type "object"] true sn_InvalidText sub_InvalidText ab_InvalidText col_InvalidText dd_InvalidText m0_InvalidText m1_InvalidText m2_InvalidText m3_InvalidText m5_InvalidText "ValueError.__new__"))
    (sa_InvalidText : PySem.W.findIn K (.ref C_InvalidText) "__setattr__" = some (some (.builtin "object.__setattr__")))
    (kC_InvalidText : PySem.W.keepIn K (.ref C_InvalidText) = true)
    (no_InvalidText : PySem.W.findIn K (.ref C_InvalidText) "position" = some none)
    (iC_InvalidText : PySem.W.findIn K (.ref C_InvalidText) "__init__" = some (some (.ref fI_InvalidText)))
    (tI_InvalidText : PySem.W.typeIn K (.ref fI_InvalidText) = some (.type "function"))
    {iod_InvalidText ian_InvalidText : Option Addr} {isl_InvalidText : Array (Option Value)} {ioc_InvalidText ikV_InvalidText idc_InvalidText ipm_InvalidText icd_InvalidText ict_InvalidText : Value} (il_InvalidText : K.lookup fI_InvalidText = some ⟨ioc_InvalidText, iod_InvalidText, .func (PySem.W.fnOf "__init__" "InvalidText.__init__" (defArgs i_InvalidText) (defBody i_InvalidText) (defScope i_InvalidText) .none ikV_InvalidText idc_InvalidText ipm_InvalidText ian_InvalidText icd_InvalidText ict_InvalidText), isl_InvalidText⟩) (ic_InvalidText : PySem.W.codeIn K icd_InvalidText "InvalidText.__init__" = true) (ik_InvalidText : PySem.W.keepIn K (.ref fI_InvalidText) = true) :
    ∃ fd : FuncData, (∀ (s : Shared) (u : Value), BindsTo s fd ⟨[u], []⟩ [("_law_script", u)]) ∧ ∀ base : Heap, K.In base → base.Ns mainGlobals mg → TBs K mg base → FnG P w K mg base 6 fa fd ["_law_script"] S_law := by
  have e := hfa.symm.trans (PySem.W.mg_of KX G a19)
  cases e
  have F0 := fun_mk (st := s__law_pen) l0 c0 k0
  have F1 := fun_mk (st := s__law_written) l1 c1 k1
  have F2 := fun_mk (st := s__law_draw) l2 c2 k2
  have F3 := fun_mk (st := s__law_tree_of) l3 c3 k3
  have F4 := fun_mk (st := s__law_word) l4 c4 k4
  have F5 := fun_mk (st := s_dot_spans) l5 c5 k5
  have F6 := fun_mk (st := s_show_tree) l6 c6 k6
  have F7 := fun_mk (st := s_Scanner____init__) l7 c7 k7
  have F8 := fun_mk (st := s_Growing____init__) l8 c8 k8
  have F9 := fun_mk (st := s_Scanner__is_at_end) l9 c9 k9
  have F10 := fun_mk (st := s_Growing__put_part) l10 c10 k10
  have F11 := fun_mk (st := s_Growing__close) l11 c11 k11
  have F12 := fun_mk (st := s_Growing__put_operator) l12 c12 k12
  have F13 := fun_mk (st := s_Growing__put) l13 c13 k13
  have F14 := fun_mk (st := s_Growing__is_whole) l14 c14 k14
  have F15 := fun_mk (st := s_Scanner__sees) l15 c15 k15
  have F16 := fun_mk (st := s_Scanner__take) l16 c16 k16
  have F17 := fun_mk (st := s_Growing__expected) l17 c17 k17
  have F18 := fun_mk (st := s_read_tree) l18 c18 k18
  have F19 := fun_mk (st := s_law) l19 c19 k19
  refine ⟨PySem.W.fnOf "law" "law" (defArgs s_law) (defBody s_law) (defScope s_law) .none kV19 dc19 pm19 an19 cd19 ct19, fun s v => .of_eq rfl, fun base _ _ tbs => ?_⟩
  have N_InvalidText : NCls K mg "InvalidText" C_InvalidText := ⟨PySem.W.mg_of KX G aC_InvalidText, reg_of aC_InvalidText, ⟨ga_InvalidText, gg_InvalidText, eC_InvalidText, hC_InvalidText, ca_InvalidText, spX, tkX, mo_InvalidText⟩, tC_InvalidText⟩
  have N_WearError : NCls K mg "WearError" C_WearError := ⟨PySem.W.mg_of KX G aC_WearError, reg_of aC_WearError, ⟨ga_WearError, gg_WearError, eC_WearError, hC_WearError, ca_WearError, spX, tkX, mo_WearError⟩, tC_WearError⟩
  have IF_InvalidText := fun_mk (st := i_InvalidText) il_InvalidText ic_InvalidText ik_InvalidText
  have XT_InvalidText : XC K C_InvalidText fI_InvalidText "position" := ⟨⟨_, _, _, _, _, _, _, _, _, _, _, _, _, _, _, _, _, _, _, _, xf_value, xL_InvalidText, rfl⟩, sa_InvalidText, eC_InvalidText, tC_InvalidText, kC_InvalidText, no_InvalidText, iC_InvalidText, tI_InvalidText⟩
  have E_InvalidText : ECls P w K mg base "InvalidText" "position" C_InvalidText := ⟨N_InvalidText, fI_InvalidText, _, "position", XT_InvalidText, init_ok IF_InvalidText isc_InvalidText rfl (fun _ _ => Or.inl rfl) (fun _ _ => Or.inl rfl), IF_InvalidText.binds fun _ _ _ _ _ _ us hl => match us, hl with | [_, _], _ => rfl⟩
  have rC_Growing := reg_of aK_Growing
  have cl_Growing : Cls K C_Growing := ⟨pg_Growing, hd_Growing, po_Growing, sa_Growing⟩
  have rC_Scanner := reg_of aK_Scanner
  have cl_Scanner : Cls K C_Scanner := ⟨pg_Scanner, hd_Scanner, po_Scanner, sa_Scanner⟩
  have D__law_pen : Def P w K mg base 1 "_law_pen" f0 _ ["_law_script"] S__law_pen := ⟨ok__law_pen F0 (PySem.W.mg_none_of KX G z_list), PySem.W.mg_of KX G a0, k0, F0.binds fun _ _ _ _ _ _ us hl => match us, hl with | [_], _ => rfl⟩
  have D__law_written : Def P w K mg base 1 "_law_written" f1 _ ["_law_row", "_law_parents"] S__law_written := ⟨ok__law_written F1 (PySem.W.mg_none_of KX G z_int) (PySem.W.mg_none_of KX G z_isinstance) (PySem.W.mg_none_of KX G z_len) (PySem.W.mg_none_of KX G z_range) (PySem.W.mg_none_of KX G z_str), PySem.W.mg_of KX G a1, k1, F1.binds fun _ _ _ _ _ _ us hl => match us, hl with | [_, _], _ => rfl⟩
  have D__law_draw : Def P w K mg base 1 "_law_draw" f2 _ ["_law_pen_here", "_law_count"] S__law_draw := ⟨ok__law_draw F2 (PySem.W.mg_none_of KX G z_abs) (PySem.W.mg_none_of KX G z_int) (PySem.W.mg_none_of KX G z_len), PySem.W.mg_of KX G a2, k2, F2.binds fun _ _ _ _ _ _ us hl => match us, hl with | [_, _], _ => rfl⟩
  have D__law_tree_of : Def P w K mg base 2 "_law_tree_of" f3 _ ["_law_pen_here", "_law_size"] S__law_tree_of := ⟨ok__law_tree_of F3 (PySem.W.mg_none_of KX G z_range) (PySem.W.mg_none_of KX G z_tuple) D__law_draw, PySem.W.mg_of KX G a3, k3, F3.binds fun _ _ _ _ _ _ us hl => match us, hl with | [_, _], _ => rfl⟩
  have D__law_word : Def P w K mg base 2 "_law_word" f4 _ ["_law_pen_here", "_law_size"] S__law_word := ⟨ok__law_word F4 (PySem.W.mg_none_of KX G z_len) (PySem.W.mg_none_of KX G z_range) D__law_draw, PySem.W.mg_of KX G a4, k4, F4.binds fun _ _ _ _ _ _ us hl => match us, hl with | [_, _], _ => rfl⟩
  have D_dot_spans : Def P w K mg base 1 "dot_spans" f5 _ ["tree"] S_dot_spans := ⟨ok_dot_spans F5 (PySem.W.mg_none_of KX G z_len) (PySem.W.mg_none_of KX G z_max) (PySem.W.mg_none_of KX G z_min) (PySem.W.mg_none_of KX G z_range), PySem.W.mg_of KX G a5, k5, F5.binds fun _ _ _ _ _ _ us hl => match us, hl with | [_], _ => rfl⟩
  have D_show_tree : Def P w K mg base 2 "show_tree" f6 _ ["letters", "tree"] S_show_tree := ⟨ok_show_tree F6 (PySem.W.mg_none_of KX G z_len) (PySem.W.mg_none_of KX G z_range) (PySem.W.mg_none_of KX G z_zip) D_dot_spans, PySem.W.mg_of KX G a6, k6, F6.binds fun _ _ _ _ _ _ us hl => match us, hl with | [_, _], _ => rfl⟩
  have kb_show_tree_0_tree_letters : KwB K _ ["letters", "tree"] ["tree", "letters"] 0 [1, 0] := KwB.of (fd := PySem.W.fnOf "show_tree" "show_tree" (defArgs s_show_tree) (defBody s_show_tree) (defScope s_show_tree) .none kV6 dc6 pm6 an6 cd6 ct6) fun us ws h1 h2 => match us, ws, h1, h2 with | [], [_, _], _, _ => rfl
  have I_Scanner : IDef P w K mg base 3 "Scanner" C_Scanner f7 _ ["self", "source"] S_Scanner____init__ := ⟨ok_Scanner____init__ F7 (PySem.W.mg_none_of KX G z_isinstance) (PySem.W.mg_none_of KX G z_str) E_InvalidText rC_Scanner cl_Scanner nf_Scanner_source nf_Scanner_spot, ⟨mk_Scanner, a7, i7, kc_Scanner⟩, PySem.W.mg_of KX G aK_Scanner, F7.binds fun _ _ _ _ _ _ us hl => match us, hl with | [_, _], _ => rfl⟩
  have I_Growing : IDef P w K mg base 1 "Growing" C_Growing f8 _ ["self"] S_Growing____init__ := ⟨ok_Growing____init__ F8 rC_Growing cl_Growing nf_Growing_above nf_Growing_parts nf_Growing_signs, ⟨mk_Growing, a8, i8, kc_Growing⟩, PySem.W.mg_of KX G aK_Growing, F8.binds fun _ _ _ _ _ _ us hl => match us, hl with | [_], _ => rfl⟩
  have M_Scanner__is_at_end : MDef P w K mg base 1 C_Scanner "is_at_end" f9 _ ["self"] S_Scanner__is_at_end := ⟨ok_Scanner__is_at_end F9 (PySem.W.mg_none_of KX G z_len) rC_Scanner cl_Scanner nf_Scanner_source nf_Scanner_spot, ⟨a9, i9, k9⟩, F9.binds fun _ _ _ _ _ _ us hl => match us, hl with | [_], _ => rfl⟩
  have M_Growing__put_part : MDef P w K mg base 1 C_Growing "put_part" f10 _ ["self", "root"] S_Growing__put_part := ⟨ok_Growing__put_part F10 rC_Growing cl_Growing nf_Growing_above nf_Growing_parts, ⟨a10, i10, k10⟩, F10.binds fun _ _ _ _ _ _ us hl => match us, hl with | [_, _], _ => rfl⟩
  have M_Growing__close : MDef P w K mg base 2 C_Growing "close" f11 _ ["self"] S_Growing__close := ⟨ok_Growing__close F11 rC_Growing cl_Growing nf_Growing_parts M_Growing__put_part, ⟨a11, i11, k11⟩, F11.binds fun _ _ _ _ _ _ us hl => match us, hl with | [_], _ => rfl⟩
  have M_Growing__put_operator : MDef P w K mg base 1 C_Growing "put_operator" f12 _ ["self", "sign"] S_Growing__put_operator := ⟨ok_Growing__put_operator F12 (PySem.W.mg_none_of KX G z_len) rC_Growing cl_Growing nf_Growing_above nf_Growing_parts nf_Growing_signs, ⟨a12, i12, k12⟩, F12.binds fun _ _ _ _ _ _ us hl => match us, hl with | [_, _], _ => rfl⟩
  have M_Growing__put : MDef P w K mg base 3 C_Growing "put" f13 _ ["self", "character"] S_Growing__put := ⟨ok_Growing__put F13 rC_Growing cl_Growing nf_Growing_parts M_Growing__close M_Growing__put_part M_Growing__put_operator, ⟨a13, i13, k13⟩, F13.binds fun _ _ _ _ _ _ us hl => match us, hl with | [_, _], _ => rfl⟩
  have M_Growing__is_whole : MDef P w K mg base 1 C_Growing "is_whole" f14 _ ["self"] S_Growing__is_whole := ⟨ok_Growing__is_whole F14 (PySem.W.mg_none_of KX G z_len) rC_Growing cl_Growing nf_Growing_parts, ⟨a14, i14, k14⟩, F14.binds fun _ _ _ _ _ _ us hl => match us, hl with | [_], _ => rfl⟩
  have M_Scanner__sees : MDef P w K mg base 2 C_Scanner "sees" f15 _ ["self", "characters"] S_Scanner__sees := ⟨ok_Scanner__sees F15 rC_Scanner cl_Scanner nf_Scanner_source nf_Scanner_spot M_Scanner__is_at_end, ⟨a15, i15, k15⟩, F15.binds fun _ _ _ _ _ _ us hl => match us, hl with | [_, _], _ => rfl⟩
  have M_Scanner__take : MDef P w K mg base 3 C_Scanner "take" f16 _ ["self", "characters"] S_Scanner__take := ⟨ok_Scanner__take F16 E_InvalidText rC_Scanner cl_Scanner nf_Scanner_source nf_Scanner_spot M_Scanner__sees, ⟨a16, i16, k16⟩, F16.binds fun _ _ _ _ _ _ us hl => match us, hl with | [_, _], _ => rfl⟩
  have M_Growing__expected : MDef P w K mg base 1 C_Growing "expected" f17 _ ["self"] S_Growing__expected := ⟨ok_Growing__expected F17 (PySem.W.mg_none_of KX G z_len) (PySem.W.mg_of KX G g_LETTERS) rC_Growing cl_Growing nf_Growing_parts, ⟨a17, i17, k17⟩, F17.binds fun _ _ _ _ _ _ us hl => match us, hl with | [_], _ => rfl⟩
  have D_read_tree : Def P w K mg base 5 "read_tree" f18 _ ["text"] S_read_tree := ⟨ok_read_tree F18 (PySem.W.mg_none_of KX G z_len) (PySem.W.mg_none_of KX G z_tuple) (PySem.W.mg_of KX G g_MOST_OPERATORS) E_InvalidText rC_Growing cl_Growing rC_Scanner cl_Scanner nf_Growing_above nf_Growing_signs I_Scanner I_Growing M_Scanner__is_at_end M_Growing__put M_Growing__is_whole M_Scanner__take M_Growing__expected, PySem.W.mg_of KX G a18, k18, F18.binds fun _ _ _ _ _ _ us hl => match us, hl with | [_], _ => rfl⟩
  have kb_read_tree_0_text : KwB K _ ["text"] ["text"] 0 [0] := KwB.of (fd := PySem.W.fnOf "read_tree" "read_tree" (defArgs s_read_tree) (defBody s_read_tree) (defScope s_read_tree) .none kV18 dc18 pm18 an18 cd18 ct18) fun us ws h1 h2 => match us, ws, h1, h2 with | [], [_], _, _ => rfl
  exact ok_law F19 (PySem.W.mg_none_of KX G z_range) (PySem.W.mg_none_of KX G z_repr) D__law_pen D__law_written D__law_tree_of D__law_word D_show_tree D_read_tree D__law_draw kb_show_tree_0_tree_letters kb_read_tree_0_text
end
end Pk79
namespace Pk79
open PySem PySem.Spec PyProof.Rows L2 Pm
open Sc (lit)
open Gr (tF item_tF tF_pl ix_nat)
open Pg (sg abc_T ABC rtD rt_frz rt_plain)
open Tr (LT Run Rz txt prt wF anc_par anc_nil anc_mem lab_split)
theorem hS : Pm.Draws S__law_draw := drawsE ⟨8699, 577, 2147483587, 47711, 41, 2147483647, 23, 70001, 2147483563⟩ (by unfold DK.ok; decide)
theorem e_pen : S__law_pen = penS := rfl
theorem e_tree : S__law_tree_of = Gr.x_ltree_of S__law_draw := rfl
theorem e_show : S_show_tree = Gr.x_show_tree := rfl
theorem e_read : S_read_tree = Sc.x_read_tree := rfl
noncomputable def c_olwritten_1 : M EV := comp [10] (srcR2 (aCons (loc 5) (aCons (Pm.bin hAdd (loc 6) (con (.int 1))) aNil))) (gN 10) (orT (tst (Pm.bin opIsN (idx (aCons (loc 1) (aCons (loc 10) aNil))) (con .non))) (notT (tst (chI cLe cLe (loc 5) (idx (aCons (loc 1) (aCons (loc 10) aNil))) (loc 6))))) (loc 10)
noncomputable def d_olwritten_1 : M EV := (disp true .lst (aCons (idx (aCons (loc 9) (aCons (con (.int 1)) aNil))) (aCons (disp false .tup (aCons (Pm.bin hAdd (loc 8) (con (.int 1))) (aCons (loc 6) (aCons (con (.bl false)) aNil)))) (aCons (idx (aCons (loc 0) (aCons (loc 8) aNil))) (aCons (disp false .tup (aCons (loc 5) (aCons (Pm.bin (on2I iSub) (loc 8) (con (.int 1))) (aCons (con (.bl false)) aNil)))) (aCons (idx (aCons (loc 9) (aCons (con (.int 0)) aNil))) aNil))))))
noncomputable def t_olwritten_1 : M Bool := (tst (Pm.bin opNe (loc 3) (disp true .lst aNil)))
noncomputable def b_olwritten_1 : M Fl := (seq (asg (popd 3) (gN 4))
    (Pm.ite (tst (app opIsi (aCons (loc 4) (aCons (con (.op (.ty "str"))) aNil)))) (drp (appd 2 (loc 4))) (Pm.ite (tst (Pm.bin opGtA (idx (aCons (loc 4) (aCons (con (.int 0)) aNil))) (idx (aCons (loc 4) (aCons (con (.int 1)) aNil))))) (drp (appd 2 (con (.str ".")))) (seq (asg (loc 4) (gT (gsC (gN 5) (gsC (gN 6) (gsC (gN 7) gs0))) 3))
    (seq (asg (idx (aCons c_olwritten_1 (aCons (con (.int 0)) aNil))) (gN 8))
    (seq (asg (idx (aCons (disp true .lst (aCons (disp true .lst (aCons (con (.str "(")) (aCons (con (.str ")")) aNil))) (aCons (disp true .lst (aCons (con (.str "")) (aCons (con (.str "")) aNil))) aNil))) (aCons (app opInt (aCons (loc 7) aNil)) aNil))) (gN 9))
    (drp (extd 3 d_olwritten_1))))))))
theorem bq_lwritten : b__law_written = (seq (asg (disp true .lst aNil) (gN 2))
    (seq (asg (disp true .lst (aCons (disp false .tup (aCons (con (.int 0)) (aCons (Pm.bin (on2I iSub) (app opLen (aCons (loc 0) aNil)) (con (.int 1))) (aCons (con (.bl true)) aNil)))) aNil)) (gN 3))
    (seq (whl t_olwritten_1 b_olwritten_1)
    (rtn (smet1 opJoin (con (.str "")) (loc 2)))))) := rfl
noncomputable def d_olaw_1 : M EV := (disp true .lst (aCons (callF S__law_draw (aCons (loc 1) (aCons (con (.int 4)) aNil))) (aCons (callF S__law_draw (aCons (loc 1) (aCons (con (.int 12)) aNil))) (aCons (con (.int 1)) (aCons (callF S__law_draw (aCons (loc 1) (aCons (con (.int 60)) aNil))) (aCons (idx (aCons (disp true .lst (aCons (con (.int 200)) (aCons (con (.int 20)) aNil))) (aCons (callF S__law_draw (aCons (loc 1) (aCons (con (.int 2)) aNil))) aNil))) aNil))))))
noncomputable def b_olaw_1 : M Fl := (seq (asg (idx (aCons d_olaw_1 (aCons (loc 2) aNil))) (gN 3))
    (seq (par 4 5 (aCons (callF S__law_tree_of (aCons (loc 1) (aCons (loc 3) aNil))) (aCons (callF S__law_word (aCons (loc 1) (aCons (loc 3) aNil))) aNil)))
    (seq (asg (callF S__law_written (aCons (loc 5) (aCons (loc 4) aNil))) (gN 6))
    (seq (Pm.ite (tst (Pm.bin opNe (app opReprA (aCons (disp true .lst (aCons (callF S_show_tree (aCons (loc 5) (aCons (loc 4) aNil))) (aCons (callF S_show_tree (selA 2 [1, 0] (aCons (loc 4) (aCons (loc 5) aNil)))) aNil))) aNil)) (app opReprA (aCons (disp true .lst (aCons (loc 6) (aCons (loc 6) aNil))) aNil)))) (rtn (con (.bl false))) sNx)
    (Pm.ite (tst (Pm.bin opNe (app opReprA (aCons (disp true .lst (aCons (callF S_read_tree (aCons (loc 6) aNil)) (aCons (callF S_read_tree (selA 1 [0] (aCons (loc 6) aNil))) aNil))) aNil)) (app opReprA (aCons (disp true .lst (aCons (disp false .tup (aCons (loc 5) (aCons (loc 4) aNil))) (aCons (disp false .tup (aCons (loc 5) (aCons (loc 4) aNil))) aNil))) aNil)))) (rtn (con (.bl false))) sNx)))))
theorem bq_law : b_law = (seq (asg (callF S__law_pen (aCons (loc 0) aNil)) (gN 1))
    (seq (forS (srcR1 (aCons (con (.int 5)) aNil)) (gN 2) b_olaw_1)
    (rtn (andE (Pm.bin opEq (callF S_show_tree (aCons (con (.str "")) (aCons (disp false .tup aNil) aNil))) (con (.str "."))) (Pm.bin opEq (callF S_read_tree (aCons (con (.str ".")) aNil)) (disp false .tup (aCons (con (.str "")) (aCons (disp false .tup aNil) aNil)))))))) := rfl
/-- what still is to be written -/
inductive Wi where
  | s (l : List Nat)
  | p (f e : Nat) (b : Bool)
def wiD : Wi → D
  | .s l => .str (T l)
  | .p f e b => .node false .tup [.int (f : Int), .int ((e : Int) - 1), .bl b]
def wg : Wi → Nat
  | .s _ => 1
  | .p f e _ => 5 * (e - f) + 1
def wgs (W : List Wi) : Nat := (W.map wg).sum
def Tx (P : Tr.Ps) (w : List Nat) : Wi → List Nat → Prop
  | .s l, x => x = l
  | .p f e b, x => f ≤ e ∧ e ≤ w.length ∧ ∃ (t : LT) (ab : Option Nat), Run t f (e - f) ∧ Rz P t ab ∧ (∀ a, ab = some a → a < f ∨ e ≤ a) ∧ x = (if b = true then txt w t else prt w t)
inductive Txs (P : Tr.Ps) (w : List Nat) : List Wi → List (List Nat) → Prop
  | nil : Txs P w [] []
  | snoc {W : List Wi} {X : List (List Nat)} {i : Wi} {x : List Nat} : Txs P w W X → Tx P w i x → Txs P w (W ++ [i]) (X ++ [x])
theorem wi_plain (i : Wi) : (wiD i).plain = true := by cases i <;> rfl
theorem wgs_snoc (W : List Wi) (i : Wi) : wgs (W ++ [i]) = wgs W + wg i := by simp [wgs]
theorem wgs_len (W : List Wi) : W.length ≤ wgs W := by
  induction W with
  | nil => exact Nat.zero_le _
  | cons i W ih =>
    have : 1 ≤ wg i := by cases i <;> simp [wg]
    simp only [wgs, List.map_cons, List.sum_cons, List.length_cons] at *
    omega
def wsD (W : List Wi) : D := .node true .lst (W.map wiD)
theorem ne_ws {W : List Wi} (h : ∀ i ∈ W, ∀ l, i = .s l → ∀ c ∈ l, c < 128) : opNe [wsD W, .node true .lst []] = some (.bl (decide (W ≠ []))) := by
  unfold wsD
  rw [ne_nil true true fun x hx => by
    obtain ⟨i, hi, rfl⟩ := List.mem_map.mp hx
    cases i with
    | s l =>
      have hs : PyData.strOk (T l) = true := Pg.strOk_T fun c hc => by have := h _ hi l rfl c hc; omega
      show shp 59 (.str (T l)) = true
      simpa [shp] using hs
    | p f e b => rfl]
  congr 2
  cases W <;> simp
theorem pop_wi {W : List Wi} {i : Wi} {x0 x1 x2 x4 x5 x6 x7 x8 x9 x10 : Option D} : popd 3 [x0, x1, x2, some (wsD (W ++ [i])), x4, x5, x6, x7, x8, x9, x10] = .ok (.val (wiD i)) [x0, x1, x2, some (wsD W), x4, x5, x6, x7, x8, x9, x10] := by
  have h1 : ((W ++ [i]).map wiD)[((W ++ [i]).map wiD).length - 1]? = some (wiD i) := by simp
  have h2 : ((W ++ [i]).map wiD).eraseIdx (((W ++ [i]).map wiD).length - 1) = W.map wiD := by
    rw [List.map_append, List.length_append]
    simp [List.eraseIdx_append_of_length_le]
  unfold wsD
  show (match ((W ++ [i]).map wiD)[((W ++ [i]).map wiD).length - 1]? with
    | some d => Res.ok (EV.val d) ([x0, x1, x2, some (.node true .lst ((W ++ [i]).map wiD)), x4, x5, x6, x7, x8, x9, x10].set 3 (some (.node true .lst (((W ++ [i]).map wiD).eraseIdx (((W ++ [i]).map wiD).length - 1)))))
    | none => .stuck) = _
  rw [h1, h2]
  rfl
theorem item_w {l : List Nat} {k : Nat} (hk : k < l.length) (hc : l.length ≤ 1000000) {j : Nat} {ρ : Pm.Env} (h : ρ.getD j none = some (.str (T l))) : itemOf (.ref j) (k : Int) ρ = .ok (.val (sg l[k])) ρ := by
  have hl : (T l).length ≤ cap := hc
  have ha : atI (T l).cps.toList (k : Int) = some l[k] := by
    rw [T_list, at_nat, List.getElem?_eq_getElem hk]
  unfold itemOf
  simp only [h, if_pos hl, ha]
  rfl
/-- whether the parent stands outside -/
def outB (P : Tr.Ps) (f e k : Nat) : Bool := match P.getD k none with
  | none => true
  | some p => !(decide (f ≤ p) && decide (p < e))
theorem root_filt {P : Tr.Ps} {l r : LT} {y f e : Nat} {ab : Option Nat} (h : Run (.node l y r) f (e - f)) (z : Rz P (.node l y r) ab) (ho : ∀ a, ab = some a → a < f ∨ e ≤ a) : (List.range' f (e - f)).filter (outB P f e) = [y] := by
  have hy := h.root (k := y) rfl
  have key : ∀ x, f ≤ x → x < e → (outB P f e x = true ↔ x = y) := fun x h1 h2 => by
    have hp := anc_par h z h1 (by omega)
    have hn := anc_nil h h1 (show x < f + (e - f) by omega)
    unfold outB
    rw [List.getD_eq_getElem?_getD, hp]
    simp only [Option.getD_some]
    constructor
    · intro q
      cases ha : Tr.anc (.node l y r) x with
      | nil => exact (Option.some.inj (hn.mp ha)).symm
      | cons a as =>
        rw [ha] at q
        have hm := h.mem.mp (anc_mem h a (by rw [ha]; exact List.mem_cons_self))
        simp only [List.head?_cons, Option.some_or, Bool.not_eq_true', Bool.and_eq_false_iff, decide_eq_false_iff_not] at q
        omega
    · rintro rfl
      rw [hn.mpr rfl]
      simp only [List.head?_nil, Option.none_or]
      cases ab with
      | none => rfl
      | some a =>
        have := ho a rfl
        simp only [Bool.not_eq_true', Bool.and_eq_false_iff, decide_eq_false_iff_not]
        omega
  have hr : List.range' f (e - f) = l.lab ++ y :: r.lab := h.symm
  obtain ⟨m1, m2, e1, e0, e2, e3⟩ := lab_split h
  rw [hr, List.filter_append, List.filter_cons, if_pos ((key y hy.1 (by omega)).mpr rfl), List.filter_eq_nil_iff.mpr, List.filter_eq_nil_iff.mpr]
  · rfl
  · intro x hx
    rw [e2, List.mem_range'_1] at hx
    exact fun q => by have := (key x (by omega) (by omega)).mp q; omega
  · intro x hx
    rw [e1, List.mem_range'_1] at hx
    exact fun q => by have := (key x (by omega) (by omega)).mp q; omega
section
variable {P : Tr.Ps} {w : List Nat}
theorem root_comp {W : D} {f e y : Nat} {x2 x3 x4 x7 x8 x9 : Option D} (hP : e ≤ P.length) (hfe : f < e) (hl : P.length ≤ 1000) (hy : (List.range' f (e - f)).filter (outB P f e) = [y]) :
    idx (aCons c_olwritten_1 (aCons (con (.int 0)) aNil)) [some W, some (tF P), x2, x3, x4, some (.int (f : Int)), some (.int ((e : Int) - 1)), x7, x8, x9, none] = .ok (.val (.int (y : Int))) [some W, some (tF P), x2, x3, x4, some (.int (f : Int)), some (.int ((e : Int) - 1)), x7, x8, x9, none] := by
  have hs : srcR2 (aCons (loc 5) (aCons (Pm.bin hAdd (loc 6) (con (.int 1))) aNil)) [some W, some (tF P), x2, x3, x4, some (.int (f : Int)), some (.int ((e : Int) - 1)), x7, x8, x9, none] = .ok ((List.range' f (e - f)).map fun k : Nat => D.int (k : Int)) [some W, some (tF P), x2, x3, x4, some (.int (f : Int)), some (.int ((e : Int) - 1)), x7, x8, x9, none] := by
    rw [← Pg.range_natK f (e - f)]
    have ad : hAdd [.int ((e : Int) - 1), .int 1] = some (.int (e : Int)) := by rw [hAdd_ii]; congr 2; omega
    refine Pg.src_r2K (es := [.ref 5, .val (.int (e : Int))]) ?_ (by simp [mkF, reFrz, seq, Pm.ite, rtn, mov, asg, drp, sNx, bnd, Pm.bin, Pm.un, app, aCons, aNil, idx, loc, con, Pm.ret, peek1, peeks, itemOf, on2I, iAdd, iSub, iGt, iGe, iLt, iLe, iDiv, iMod, use1, useL, gI, gN, tst, andT, orT, notT, andE, orE, notE, ifE, ixN, D.frz, D.plain, plainL, argsBack, opLen, opAbs, opInt1, opNeg, disp, cap, callF, takes, puts, selA, sel, aApp, par, gT, gsC, gs0, appF, opDivmod, frzL, plainL]) (by omega) (by omega)
    generalize tF P = TD at *
    generalize hAdd = HA at *
    simp [mkF, reFrz, seq, Pm.ite, rtn, mov, asg, drp, sNx, bnd, Pm.bin, Pm.un, app, aCons, aNil, idx, loc, con, Pm.ret, peek1, peeks, itemOf, on2I, iAdd, iSub, iGt, iGe, iLt, iLe, iDiv, iMod, use1, useL, gI, gN, tst, andT, orT, notT, andE, orE, notE, ifE, ixN, D.frz, D.plain, plainL, argsBack, opLen, opAbs, opInt1, opNeg, disp, cap, callF, takes, puts, selA, sel, aApp, par, gT, gsC, gs0, appF, opDivmod, frzL, plainL, ad]
  obtain ⟨ρ', e1, h0⟩ := Pg.pick_nat (own := [10]) (g := gN 10) (c := orT (tst (Pm.bin opIsN (idx (aCons (loc 1) (aCons (loc 10) aNil))) (con .non))) (notT (tst (chI cLe cLe (loc 5) (idx (aCons (loc 1) (aCons (loc 10) aNil))) (loc 6))))) (e := loc 10) (outB P f e)
    (fun ρ => ρ = [some W, some (tF P), x2, x3, x4, some (.int (f : Int)), some (.int ((e : Int) - 1)), x7, x8, x9, none]) hs rfl (by rw [List.length_range']; omega) fun k hk ρ hρ => by
    subst hρ
    rw [List.mem_range'_1] at hk
    have hpk : P[k]? = some (P.getD k none) := by rw [List.getD_eq_getElem?_getD, List.getElem?_eq_getElem (by omega)]; rfl
    have it := item_tF (P := P) (x := k) (j := 1) (ρ := [some W, some (tF P), x2, x3, x4, some (.int (f : Int)), some (.int ((e : Int) - 1)), x7, x8, x9, some (.int (k : Int))]) hpk rfl
    refine ⟨[some W, some (tF P), x2, x3, x4, some (.int (f : Int)), some (.int ((e : Int) - 1)), x7, x8, x9, some (.int (k : Int))], [some W, some (tF P), x2, x3, x4, some (.int (f : Int)), some (.int ((e : Int) - 1)), x7, x8, x9, some (.int (k : Int))], rfl, ?_, rfl, .ref 10, _, _, rfl, rfl, rfl⟩
    unfold outB
    cases hq : P.getD k none with
    | none =>
      rw [hq] at it
      have nn : opIsN [rtD none, .non] = some (.bl true) := rfl
      generalize rtD none = R1 at *
      generalize tF P = TD at *
      generalize opIsN = NN at *
      simp [mkF, reFrz, seq, Pm.ite, rtn, mov, asg, drp, sNx, bnd, Pm.bin, Pm.un, app, aCons, aNil, idx, loc, con, Pm.ret, peek1, peeks, on2I, iAdd, iSub, iGt, iGe, iLt, iLe, iDiv, iMod, use1, useL, gN, tst, andT, orT, notT, andE, orE, notE, ifE, ixN, D.frz, D.plain, plainL, argsBack, opLen, opAbs, opInt1, opNeg, disp, cap, callF, takes, puts, selA, sel, aApp, par, gT, gsC, gs0, appF, opDivmod, frzL, plainL, orT, it, nn]
    | some p =>
      rw [hq] at it
      have nn : opIsN [.int (p : Int), .non] = some (.bl false) := rfl
      have it : itemOf (.ref 1) (k : Int) [some W, some (tF P), x2, x3, x4, some (.int (f : Int)), some (.int ((e : Int) - 1)), x7, x8, x9, some (.int (k : Int))] = .ok (.val (.int (p : Int))) [some W, some (tF P), x2, x3, x4, some (.int (f : Int)), some (.int ((e : Int) - 1)), x7, x8, x9, some (.int (k : Int))] := it
      have d2 : decide (p < e) = decide ((p : Int) ≤ (e : Int) - 1) := by
        congr 1
        exact propext (by omega)
      have d1 : decide (f ≤ p) = decide ((f : Int) ≤ (p : Int)) := by
        congr 1
        exact propext (by omega)
      simp only [d1, d2]
      generalize tF P = TD at *
      generalize opIsN = NN at *
      by_cases h1 : (f : Int) ≤ (p : Int)
      · simp [mkF, reFrz, seq, Pm.ite, rtn, mov, asg, drp, sNx, bnd, Pm.bin, Pm.un, app, aCons, aNil, idx, loc, con, Pm.ret, peek1, peeks, on2I, iAdd, iSub, iGt, iGe, iLt, iLe, iDiv, iMod, use1, useL, gN, tst, andT, orT, notT, andE, orE, notE, ifE, ixN, D.frz, D.plain, plainL, argsBack, opLen, opAbs, opInt1, opNeg, disp, cap, callF, takes, puts, selA, sel, aApp, par, gT, gsC, gs0, appF, opDivmod, frzL, plainL, orT, notT, chI, cLe, it, nn, h1]
      · simp [mkF, reFrz, seq, Pm.ite, rtn, mov, asg, drp, sNx, bnd, Pm.bin, Pm.un, app, aCons, aNil, idx, loc, con, Pm.ret, peek1, peeks, on2I, iAdd, iSub, iGt, iGe, iLt, iLe, iDiv, iMod, use1, useL, gN, tst, andT, orT, notT, andE, orE, notE, ifE, ixN, D.frz, D.plain, plainL, argsBack, opLen, opAbs, opInt1, opNeg, disp, cap, callF, takes, puts, selA, sel, aApp, par, gT, gsC, gs0, appF, opDivmod, frzL, plainL, orT, notT, chI, cLe, it, nn, h1]
  subst h0
  rw [hy] at e1
  have e2 : c_olwritten_1 [some W, some (tF P), x2, x3, x4, some (.int (f : Int)), some (.int ((e : Int) - 1)), x7, x8, x9, none] = .ok (.val (.node true .lst [.int (y : Int)])) [some W, some (tF P), x2, x3, x4, some (.int (f : Int)), some (.int ((e : Int) - 1)), x7, x8, x9, none] := e1
  generalize c_olwritten_1 = CC at *
  generalize tF P = TD at *
  simp [mkF, reFrz, seq, Pm.ite, rtn, mov, asg, drp, sNx, bnd, Pm.bin, Pm.un, app, aCons, aNil, idx, loc, con, Pm.ret, peek1, peeks, itemOf, on2I, iAdd, iSub, iGt, iGe, iLt, iLe, iDiv, iMod, use1, useL, gI, gN, tst, andT, orT, notT, andE, orE, notE, ifE, ixN, D.frz, D.plain, plainL, argsBack, opLen, opAbs, opInt1, opNeg, disp, cap, callF, takes, puts, selA, sel, aApp, par, gT, gsC, gs0, appF, opDivmod, frzL, plainL, e2, atI]
/-- one piece taken from the heap of pieces -/
theorem writ_turn {pcs : List (List Nat)} {W : List Wi} {X : List (List Nat)} {i : Wi} {x : List Nat} {x4 x5 x6 x7 x8 x9 : Option D} (hP : w.length = P.length) (hl : P.length ≤ 300) (hW : Txs P w W X) (hi : Tx P w i x) (hpl : pcs.length ≤ 2000) (hwl : W.length ≤ 2000) {Q : Fl → Pm.Env → Prop}
    (hQ : ∀ (pcs' : List (List Nat)) (W' : List Wi) (X' : List (List Nat)) x4 x5 x6 x7 x8 x9, Txs P w W' X' → pcs'.flatten ++ X'.reverse.flatten = pcs.flatten ++ (X ++ [x]).reverse.flatten → wgs W' + 1 = wgs (W ++ [i]) → pcs'.length ≤ pcs.length + 1 →
      Q .nx [some (.str (T w)), some (tF P), some (.node true .lst (pcs'.map fun l => D.str (T l))), some (wsD W'), x4, x5, x6, x7, x8, x9, none]) :
    Wp b_olwritten_1 [some (.str (T w)), some (tF P), some (.node true .lst (pcs.map fun l => D.str (T l))), some (wsD (W ++ [i])), x4, x5, x6, x7, x8, x9, none] Q := by
  have pp := pop_wi (W := W) (i := i) (x0 := some (.str (T w))) (x1 := some (tF P)) (x2 := some (.node true .lst (pcs.map fun l => D.str (T l)))) (x4 := x4) (x5 := x5) (x6 := x6) (x7 := x7) (x8 := x8) (x9 := x9) (x10 := none)
  have wp := wi_plain i
  have hpc : (pcs.map fun l => D.str (T l)).length < 1000000 := by rw [List.length_map]; omega
  unfold b_olwritten_1
  refine wp_nx [some (.str (T w)), some (tF P), some (.node true .lst (pcs.map fun l => D.str (T l))), some (wsD W), some (wiD i), x5, x6, x7, x8, x9, none] ?_ ?_
  · have wf := D.frz_of_plain _ wp
    generalize pcs.map (fun l => D.str (T l)) = PC at *
    generalize wsD W = SW at *
    generalize wsD (W ++ [i]) = SW2 at *
    generalize tF P = TD at *
    generalize T w = TW at *
    generalize wiD i = WI at *
    generalize popd 3 = PO at *
    simp [mkF, reFrz, seq, Pm.ite, rtn, mov, asg, drp, sNx, bnd, Pm.bin, Pm.un, app, aCons, aNil, idx, loc, con, Pm.ret, peek1, peeks, itemOf, on2I, iAdd, iSub, iGt, iGe, iLt, iLe, iDiv, iMod, use1, useL, gI, gN, tst, andT, orT, notT, andE, orE, notE, ifE, ixN, D.frz, D.plain, plainL, argsBack, opLen, opAbs, opInt1, opNeg, disp, cap, callF, takes, puts, selA, sel, aApp, par, gT, gsC, gs0, appF, opDivmod, frzL, plainL, pp, wp, wf]
  clear pp
  have app1 : ∀ l : List Nat, (pcs.map fun l => D.str (T l)) ++ [.str (T l)] = (pcs ++ [l]).map fun l => D.str (T l) := fun l => by rw [List.map_append]; rfl
  have flat1 : ∀ l : List Nat, (pcs ++ [l]).flatten ++ X.reverse.flatten = pcs.flatten ++ (X ++ [l]).reverse.flatten := fun l => by simp
  cases i with
  | s l =>
    have hx : x = l := hi
    subst hx
    have is : opIsi [.str (T x), .op (.ty "str")] = some (.bl true) := rfl
    have fin := hQ (pcs ++ [x]) W X (some (.str (T x))) x5 x6 x7 x8 x9 hW (flat1 x) (by rw [wgs_snoc]; rfl) (by rw [List.length_append]; exact Nat.le_refl _)
    rw [← app1] at fin
    rw [show wiD (.s x) = .str (T x) from rfl]
    refine wp_ite (Wp.of (a := true) (ρ' := [some (.str (T w)), some (tF P), some (.node true .lst (pcs.map fun l => D.str (T l))), some (wsD W), some (.str (T x)), x5, x6, x7, x8, x9, none]) ?_ ⟨fun _ => ?_, fun h => (nomatch h)⟩)
    · generalize pcs.map (fun l => D.str (T l)) = PC at *
      generalize wsD W = SW at *
      generalize tF P = TD at *
      generalize T w = TW at *
      generalize T x = TX at *
      generalize opIsi = OI at *
      simp [mkF, reFrz, seq, Pm.ite, rtn, mov, asg, drp, sNx, bnd, Pm.bin, Pm.un, app, aCons, aNil, idx, loc, con, Pm.ret, peek1, peeks, itemOf, on2I, iAdd, iSub, iGt, iGe, iLt, iLe, iDiv, iMod, use1, useL, gI, gN, tst, andT, orT, notT, andE, orE, notE, ifE, ixN, D.frz, D.plain, plainL, argsBack, opLen, opAbs, opInt1, opNeg, disp, cap, callF, takes, puts, selA, sel, aApp, par, gT, gsC, gs0, appF, opDivmod, frzL, plainL, is]
    · generalize pcs.map (fun l => D.str (T l)) = PC at *
      generalize wsD W = SW at *
      generalize tF P = TD at *
      generalize T w = TW at *
      generalize T x = TX at *
      refine wp_end fun K k1 k2 k3 k4 => ?_
      simp [Wp, mkF, reFrz, seq, Pm.ite, rtn, mov, asg, drp, sNx, bnd, Pm.bin, Pm.un, app, aCons, aNil, idx, loc, con, Pm.ret, peek1, peeks, itemOf, on2I, iAdd, iSub, iGt, iGe, iLt, iLe, iDiv, iMod, use1, useL, gI, gN, tst, andT, orT, notT, andE, orE, notE, ifE, ixN, D.frz, D.plain, plainL, argsBack, opLen, opAbs, opInt1, opNeg, disp, cap, callF, takes, puts, selA, sel, aApp, par, gT, gsC, gs0, appF, opDivmod, frzL, plainL, appd, hpc]
      exact k1 _ fin
  | p f e b =>
    obtain ⟨hfe, hen, t, ab, hR, hz, ho, hx⟩ := hi
    have is : opIsi [.node false .tup [.int (f : Int), .int ((e : Int) - 1), .bl b], .op (.ty "str")] = some (.bl false) := rfl
    rw [show wiD (.p f e b) = .node false .tup [.int (f : Int), .int ((e : Int) - 1), .bl b] from rfl]
    refine wp_ite (Wp.of (a := false) (ρ' := [some (.str (T w)), some (tF P), some (.node true .lst (pcs.map fun l => D.str (T l))), some (wsD W), some (.node false .tup [.int (f : Int), .int ((e : Int) - 1), .bl b]), x5, x6, x7, x8, x9, none]) ?_ ⟨fun h => (nomatch h), fun _ => ?_⟩)
    · clear hQ
      generalize pcs.map (fun l => D.str (T l)) = PC at *
      generalize wsD W = SW at *
      generalize tF P = TD at *
      generalize T w = TW at *
      generalize opIsi = OI at *
      simp [mkF, reFrz, seq, Pm.ite, rtn, mov, asg, drp, sNx, bnd, Pm.bin, Pm.un, app, aCons, aNil, idx, loc, con, Pm.ret, peek1, peeks, itemOf, on2I, iAdd, iSub, iGt, iGe, iLt, iLe, iDiv, iMod, use1, useL, gI, gN, tst, andT, orT, notT, andE, orE, notE, ifE, ixN, D.frz, D.plain, plainL, argsBack, opLen, opAbs, opInt1, opNeg, disp, cap, callF, takes, puts, selA, sel, aApp, par, gT, gsC, gs0, appF, opDivmod, frzL, plainL, is]
    have gt := opGtA_ii (f : Int) ((e : Int) - 1)
    cases t with
    | leaf =>
      have h0 := hR.zero
      have hx : x = [46] := by
        rw [hx]
        cases b <;> rfl
      subst hx
      rw [decide_eq_true (by omega)] at gt
      have l2 : (("." : String) : Str) = T [46] := lit rfl
      rw [l2]
      have fin := hQ (pcs ++ [[46]]) W X (some (.node false .tup [.int (f : Int), .int ((e : Int) - 1), .bl b])) x5 x6 x7 x8 x9 hW (flat1 [46]) (by rw [wgs_snoc, wg, h0]) (by rw [List.length_append]; exact Nat.le_refl _)
      rw [← app1] at fin
      clear hQ
      generalize pcs.map (fun l => D.str (T l)) = PC at *
      generalize wsD W = SW at *
      generalize tF P = TD at *
      generalize T w = TW at *
      generalize T [46] = TX at *
      generalize opGtA = OG at *
      refine wp_ite (Wp.of (a := true) (ρ' := [some (.str TW), some TD, some (.node true .lst PC), some SW, some (.node false .tup [.int (f : Int), .int ((e : Int) - 1), .bl b]), x5, x6, x7, x8, x9, none]) (by simp [mkF, reFrz, seq, Pm.ite, rtn, mov, asg, drp, sNx, bnd, Pm.bin, Pm.un, app, aCons, aNil, idx, loc, con, Pm.ret, peek1, peeks, itemOf, on2I, iAdd, iSub, iGt, iGe, iLt, iLe, iDiv, iMod, use1, useL, gI, gN, tst, andT, orT, notT, andE, orE, notE, ifE, ixN, D.frz, D.plain, plainL, argsBack, opLen, opAbs, opInt1, opNeg, disp, cap, callF, takes, puts, selA, sel, aApp, par, gT, gsC, gs0, appF, opDivmod, frzL, plainL, atI, gt]) ⟨fun _ => ?_, fun h => (nomatch h)⟩)
      refine wp_end fun K k1 k2 k3 k4 => ?_
      simp [Wp, mkF, reFrz, seq, Pm.ite, rtn, mov, asg, drp, sNx, bnd, Pm.bin, Pm.un, app, aCons, aNil, idx, loc, con, Pm.ret, peek1, peeks, itemOf, on2I, iAdd, iSub, iGt, iGe, iLt, iLe, iDiv, iMod, use1, useL, gI, gN, tst, andT, orT, notT, andE, orE, notE, ifE, ixN, D.frz, D.plain, plainL, argsBack, opLen, opAbs, opInt1, opNeg, disp, cap, callF, takes, puts, selA, sel, aApp, par, gT, gsC, gs0, appF, opDivmod, frzL, plainL, appd, hpc]
      exact k1 _ fin
    | node l y r =>
      have hy := hR.root (k := y) rfl
      have hlt : f < e := by omega
      rw [decide_eq_false (by omega)] at gt
      obtain ⟨m1, m2, e1, e0, e2, e3⟩ := lab_split hR
      obtain ⟨z1, z2, z3⟩ := hz
      have hrf := root_filt hR ⟨z1, z2, z3⟩ ho
      have rc := fun x7 x8 x9 => root_comp (P := P) (W := .str (T w)) (f := f) (e := e) (y := y) (x2 := some (.node true .lst (pcs.map fun l => D.str (T l)))) (x3 := some (wsD W)) (x4 := some (.node false .tup [.int (f : Int), .int ((e : Int) - 1), .bl b])) (x7 := x7) (x8 := x8) (x9 := x9) (by omega) hlt (by omega) hrf
      have hyw : y < w.length := by omega
      have iw : ∀ {ρ : Pm.Env}, ρ.getD 0 none = some (.str (T w)) → itemOf (.ref 0) (y : Int) ρ = .ok (.val (sg w[y])) ρ := fun h => item_w (l := w) (k := y) hyw (by omega) (j := 0) h
      have l1 : (("(" : String) : Str) = T [40] := lit rfl
      have l2 : (("." : String) : Str) = T [46] := lit rfl
      have l3 : ((")" : String) : Str) = T [41] := lit rfl
      have l0 : (("" : String) : Str) = T [] := lit rfl
      rw [l1, l3, l0]
      have hwy : sg w[y] = .str (T [w[y]]) := rfl
      have hwf : wF w y = w[y] := by unfold Tr.wF; rw [List.getD_eq_getElem?_getD, List.getElem?_eq_getElem hyw]; rfl
      have a1 : hAdd [.int (y : Int), .int 1] = some (.int ((y + 1 : Nat) : Int)) := by rw [hAdd_ii]; rfl
      -- the ends
      let op : List Nat := if b = true then [] else [40]
      let cl : List Nat := if b = true then [] else [41]
      have t1 : Tx P w (.s cl) cl := rfl
      have t2 : Tx P w (.p (y + 1) e false) (prt w r) := ⟨by omega, hen, r, some y, by rw [show e - (y + 1) = m2 by omega, e0]; exact e2, z3, fun a q => by cases q; exact .inl (by omega), rfl⟩
      have t3 : Tx P w (.s [w[y]]) [w[y]] := rfl
      have t4 : Tx P w (.p f y false) (prt w l) := ⟨by omega, by omega, l, some y, by rw [show y - f = m1 by omega]; exact e1, z2, fun a q => by cases q; exact .inr (Nat.le_refl _), rfl⟩
      have t5 : Tx P w (.s op) op := rfl
      have fin := fun x4 x5 x6 x7 x8 x9 => hQ pcs (W ++ [.s cl] ++ [.p (y + 1) e false] ++ [.s [w[y]]] ++ [.p f y false] ++ [.s op]) (X ++ [cl] ++ [prt w r] ++ [[w[y]]] ++ [prt w l] ++ [op]) x4 x5 x6 x7 x8 x9
        (((((hW.snoc t1).snoc t2).snoc t3).snoc t4).snoc t5)
        (by
          have hxe : x = op ++ (prt w l ++ ([w[y]] ++ (prt w r ++ cl))) := by
            rw [hx]
            show _ = (if b = true then [] else [40]) ++ (prt w l ++ ([w[y]] ++ (prt w r ++ (if b = true then [] else [41]))))
            cases b with
            | true => rw [if_pos rfl, if_pos rfl, if_pos rfl, Tr.txt_node, hwf]; simp
            | false => rw [if_neg (by decide), if_neg (by decide), if_neg (by decide), Tr.prt_node, Tr.txt_node, hwf]; simp
          rw [hxe]
          simp)
        (by
          simp only [wgs_snoc, wg]
          omega) (by omega)
      have es : wsD (W ++ [.s cl] ++ [.p (y + 1) e false] ++ [.s [w[y]]] ++ [.p f y false] ++ [.s op]) = .node true .lst (W.map wiD ++ [.str (T cl), .node false .tup [.int ((y + 1 : Nat) : Int), .int ((e : Int) - 1), .bl false], sg w[y], .node false .tup [.int (f : Int), .int ((y : Int) - 1), .bl false], .str (T op)]) := by
        unfold wsD
        simp only [List.map_append, List.append_assoc, List.map_cons, List.map_nil, List.cons_append, List.nil_append]
        rfl
      rw [es] at fin
      have hcap : (W.map wiD).length + 5 ≤ 1000000 := by rw [List.length_map]; omega
      have opi : opInt [.bl b] = some (.int (if b = true then 1 else 0)) := by cases b <;> rfl
      have ends : atI [D.node true .lst [.str (T [40]), .str (T [41])], .node true .lst [.str (T []), .str (T [])]] (if b = true then 1 else 0) = some (.node true .lst [.str (T op), .str (T cl)]) := by cases b <;> rfl
      refine wp_ite (Wp.of (a := false) (ρ' := [some (.str (T w)), some (tF P), some (.node true .lst (pcs.map fun l => D.str (T l))), some (wsD W), some (.node false .tup [.int (f : Int), .int ((e : Int) - 1), .bl b]), x5, x6, x7, x8, x9, none]) ?_ ⟨fun h => (nomatch h), fun _ => ?_⟩)
      · clear fin hQ ends
        generalize pcs.map (fun l => D.str (T l)) = PC at *
        generalize wsD W = SW at *
        generalize tF P = TD at *
        generalize T w = TW at *
        generalize opGtA = OG at *
        simp [mkF, reFrz, seq, Pm.ite, rtn, mov, asg, drp, sNx, bnd, Pm.bin, Pm.un, app, aCons, aNil, idx, loc, con, Pm.ret, peek1, peeks, itemOf, on2I, iAdd, iSub, iGt, iGe, iLt, iLe, iDiv, iMod, use1, useL, gI, gN, tst, andT, orT, notT, andE, orE, notE, ifE, ixN, D.frz, D.plain, plainL, argsBack, opLen, opAbs, opInt1, opNeg, disp, cap, callF, takes, puts, selA, sel, aApp, par, gT, gsC, gs0, appF, opDivmod, frzL, plainL, atI, gt]
      refine wp_nx [some (.str (T w)), some (tF P), some (.node true .lst (pcs.map fun l => D.str (T l))), some (wsD W), some (.node false .tup [.int (f : Int), .int ((e : Int) - 1), .bl b]), some (.int (f : Int)), some (.int ((e : Int) - 1)), some (.bl b), x8, x9, none] ?_ ?_
      · clear fin hQ ends
        generalize pcs.map (fun l => D.str (T l)) = PC at *
        generalize wsD W = SW at *
        generalize tF P = TD at *
        generalize T w = TW at *
        simp [mkF, reFrz, seq, Pm.ite, rtn, mov, asg, drp, sNx, bnd, Pm.bin, Pm.un, app, aCons, aNil, idx, loc, con, Pm.ret, peek1, peeks, itemOf, on2I, iAdd, iSub, iGt, iGe, iLt, iLe, iDiv, iMod, use1, useL, gI, gN, tst, andT, orT, notT, andE, orE, notE, ifE, ixN, D.frz, D.plain, plainL, argsBack, opLen, opAbs, opInt1, opNeg, disp, cap, callF, takes, puts, selA, sel, aApp, par, gT, gsC, gs0, appF, opDivmod, frzL, plainL]
      refine wp_nx [some (.str (T w)), some (tF P), some (.node true .lst (pcs.map fun l => D.str (T l))), some (wsD W), some (.node false .tup [.int (f : Int), .int ((e : Int) - 1), .bl b]), some (.int (f : Int)), some (.int ((e : Int) - 1)), some (.bl b), some (.int (y : Int)), x9, none] ?_ ?_
      · have rc := rc (some (.bl b)) x8 x9
        clear fin hQ ends
        generalize pcs.map (fun l => D.str (T l)) = PC at *
        generalize wsD W = SW at *
        generalize tF P = TD at *
        generalize T w = TW at *
        generalize idx (aCons c_olwritten_1 (aCons (con (.int 0)) aNil)) = CC at *
        simp [asg, rc, bnd, use1, gN]
      clear rc
      refine wp_nx [some (.str (T w)), some (tF P), some (.node true .lst (pcs.map fun l => D.str (T l))), some (wsD W), some (.node false .tup [.int (f : Int), .int ((e : Int) - 1), .bl b]), some (.int (f : Int)), some (.int ((e : Int) - 1)), some (.bl b), some (.int (y : Int)), some (.node true .lst [.str (T op), .str (T cl)]), none] ?_ ?_
      · clear fin hQ
        generalize pcs.map (fun l => D.str (T l)) = PC at *
        generalize wsD W = SW at *
        generalize tF P = TD at *
        generalize T w = TW at *
        generalize T [40] = C1 at *
        generalize T [41] = C2 at *
        generalize T [] = C3 at *
        generalize T op = C4 at *
        generalize T cl = C5 at *
        generalize opInt = OI at *
        generalize (if b = true then (1 : Int) else 0) = BI at *
        simp [mkF, reFrz, seq, Pm.ite, rtn, mov, asg, drp, sNx, bnd, Pm.bin, Pm.un, app, aCons, aNil, idx, loc, con, Pm.ret, peek1, peeks, itemOf, on2I, iAdd, iSub, iGt, iGe, iLt, iLe, iDiv, iMod, use1, useL, gI, gN, tst, andT, orT, notT, andE, orE, notE, ifE, ixN, D.frz, D.plain, plainL, argsBack, opLen, opAbs, opInt1, opNeg, disp, cap, callF, takes, puts, selA, sel, aApp, par, gT, gsC, gs0, appF, opDivmod, frzL, plainL, opi, ends]
      have fin := fin (some (.node false .tup [.int (f : Int), .int ((e : Int) - 1), .bl b])) (some (.int (f : Int))) (some (.int ((e : Int) - 1))) (some (.bl b)) (some (.int (y : Int))) (some (.node true .lst [.str (T op), .str (T cl)]))
      have iw := fun a b c d e' f' g h k => iw (ρ := [some (.str (T w)), a, b, c, d, e', f', g, h, k, none]) rfl
      unfold d_olwritten_1
      clear hQ ends es app1 flat1 hx hwf
      unfold wsD
      generalize pcs.map (fun l => D.str (T l)) = PC at *
      generalize W.map wiD = SW at *
      generalize tF P = TD at *
      generalize T w = TW at *
      generalize T op = C4 at *
      generalize T cl = C5 at *
      generalize sg w[y] = CH at *
      generalize ((y + 1 : Nat) : Int) = Y1 at *
      generalize hAdd = HA at *
      refine wp_end fun K k1 k2 k3 k4 => ?_
      have ix0 : ∀ ρ : Pm.Env, ρ.getD 9 none = some (.node true .lst [.str C4, .str C5]) → itemOf (.ref 9) 0 ρ = .ok (.val (.str C4)) ρ := fun ρ h => by
        unfold itemOf
        simp only [h]
        rfl
      have ix1 : ∀ ρ : Pm.Env, ρ.getD 9 none = some (.node true .lst [.str C4, .str C5]) → itemOf (.ref 9) 1 ρ = .ok (.val (.str C5)) ρ := fun ρ h => by
        unfold itemOf
        simp only [h]
        rfl
      have chp : CH.plain = true := by subst_vars; first | rfl | (rename_i hch; rw [← hch]; rfl)
      simp [Wp, mkF, reFrz, seq, Pm.ite, rtn, mov, asg, drp, sNx, bnd, Pm.bin, Pm.un, app, aCons, aNil, idx, loc, con, Pm.ret, peek1, peeks, on2I, iAdd, iSub, iGt, iGe, iLt, iLe, iDiv, iMod, use1, useL, gN, tst, andT, orT, notT, andE, orE, notE, ifE, ixN, D.frz, D.plain, plainL, argsBack, opLen, opAbs, opInt1, opNeg, disp, cap, callF, takes, puts, selA, sel, aApp, par, gT, gsC, gs0, appF, opDivmod, frzL, plainL, extd, iw, a1, ix0, ix1, hcap, chp]
      exact k1 _ fin
theorem txs_ch {w : List Nat} : ∀ {W : List Wi} {X : List (List Nat)}, Txs P w W X → (∀ x ∈ X, ∀ c ∈ x, c < 128) → ∀ i ∈ W, ∀ l, i = .s l → ∀ c ∈ l, c < 128
  | _, _, .nil, _, i, hi, _, _ => by cases hi
  | _, _, .snoc (W := W) (X := X) (i := i') (x := x) h hx, hX, i, hi, l, hl => by
    rcases List.mem_append.mp hi with hi | hi
    · exact txs_ch h (fun x hx => hX x (by simp [hx])) i hi l hl
    · obtain rfl := List.mem_singleton.mp hi
      subst hl
      have : x = l := hx
      subst this
      exact hX x (by simp)
theorem txs_nil {X : List (List Nat)} {W : List Wi} (h : Txs P w W X) (hW : W = []) : X = [] := by
  cases h with
  | nil => rfl
  | snoc h hx => simp at hW
theorem txs_snoc {X : List (List Nat)} {W : List Wi} {i : Wi} (h : Txs P w (W ++ [i]) X) : ∃ X' x, X = X' ++ [x] ∧ Txs P w W X' ∧ Tx P w i x := by
  generalize hV : W ++ [i] = V at h
  cases h with
  | nil => simp at hV
  | snoc h hx =>
    obtain ⟨rfl, h2⟩ := List.append_inj' hV rfl
    cases h2
    exact ⟨_, _, rfl, h, hx⟩
theorem writ_loop {n : Nat} {W0 : List Wi} {X0 : List (List Nat)} {D0 : List Nat} (hP : w.length = P.length) (hl : P.length ≤ 300) (h0 : Txs P w W0 X0) (hD : X0.reverse.flatten = D0) (hch : ∀ c ∈ D0, c < 128) (hwg : wgs W0 ≤ 1800) {Q : Fl → Pm.Env → Prop}
    (hQ : ∀ (pcs : List (List Nat)) x3 x4 x5 x6 x7 x8 x9, pcs.flatten = D0 → Q .nx [some (.str (T w)), some (tF P), some (.node true .lst (pcs.map fun l => D.str (T l))), x3, x4, x5, x6, x7, x8, x9, none]) :
    Wp (whl t_olwritten_1 b_olwritten_1) [some (.str (T w)), some (tF P), some (.node true .lst []), some (wsD W0), none, none, none, none, none, none, none] Q := by
  refine wp_whl (fun m ρ => ∃ (pcs : List (List Nat)) (W : List Wi) (X : List (List Nat)) (x4 x5 x6 x7 x8 x9 : Option D), ρ = [some (.str (T w)), some (tF P), some (.node true .lst (pcs.map fun l => D.str (T l))), some (wsD W), x4, x5, x6, x7, x8, x9, none] ∧ Txs P w W X ∧ pcs.flatten ++ X.reverse.flatten = D0 ∧ wgs W = m ∧ m + pcs.length ≤ 1800) ?_ (wgs W0) _
    ⟨[], W0, X0, none, none, none, none, none, none, rfl, h0, by simpa using hD, rfl, by simpa using hwg⟩
  rintro m ρ ⟨pcs, W, X, x4, x5, x6, x7, x8, x9, rfl, hT, hF, hm, hb⟩
  have hXc : ∀ x ∈ X, ∀ c ∈ x, c < 128 := fun x hx c hc => hch c (by
    rw [← hF]
    exact List.mem_append.mpr (.inr (List.mem_flatten.mpr ⟨x, by simpa using hx, hc⟩)))
  have ne := ne_ws (W := W) (txs_ch hT hXc)
  have tt : ∀ b, decide (W ≠ []) = b → t_olwritten_1 [some (.str (T w)), some (tF P), some (.node true .lst (pcs.map fun l => D.str (T l))), some (wsD W), x4, x5, x6, x7, x8, x9, none] = .ok b [some (.str (T w)), some (tF P), some (.node true .lst (pcs.map fun l => D.str (T l))), some (wsD W), x4, x5, x6, x7, x8, x9, none] := fun b hb => by
    rw [hb] at ne
    unfold t_olwritten_1
    generalize wsD W = SW at *
    generalize pcs.map (fun l => D.str (T l)) = PC at *
    generalize tF P = TD at *
    generalize T w = TW at *
    simp [mkF, reFrz, seq, Pm.ite, rtn, mov, asg, drp, sNx, bnd, Pm.bin, Pm.un, app, aCons, aNil, idx, loc, con, Pm.ret, peek1, peeks, itemOf, on2I, iAdd, iSub, iGt, iGe, iLt, iLe, iDiv, iMod, use1, useL, gI, gN, tst, andT, orT, notT, andE, orE, notE, ifE, ixN, D.frz, D.plain, plainL, argsBack, opLen, opAbs, opInt1, opNeg, disp, cap, callF, takes, puts, selA, sel, aApp, par, gT, gsC, gs0, appF, opDivmod, frzL, plainL, ne]
  rcases List.eq_nil_or_concat W with rfl | ⟨V, i, rfl⟩
  · have hX := txs_nil hT rfl
    subst hX
    exact Wp.of (tt false (by simp)) ⟨fun h => (nomatch h), fun _ => hQ pcs _ _ _ _ _ _ _ (by simpa using hF)⟩
  · rw [List.concat_eq_append] at *
    obtain ⟨X', x, rfl, hT', hx⟩ := txs_snoc hT
    have hwl := wgs_len V
    have hw2 : wgs V ≤ m := by rw [← hm, wgs_snoc]; omega
    refine Wp.of (tt true (by simp)) ⟨fun _ => writ_turn hP hl hT' hx (by omega) (by omega) fun pcs' W' X'' x4 x5 x6 x7 x8 x9 q1 q2 q3 q4 => ⟨wgs W', by omega, pcs', W', X'', x4, x5, x6, x7, x8, x9, rfl, q1, by rw [q2]; exact hF, rfl, by omega⟩, fun h => (nomatch h)⟩
end
theorem lwritten_ok {P : Tr.Ps} {w : List Nat} {t : LT} (hw : w.length = P.length) (hl : P.length ≤ 300) (hR : Run t 0 P.length) (hz : Rz P t none) (hch : ∀ c ∈ w, 97 ≤ c ∧ c ≤ 122) :
    S__law_written [.str (T w), tF P] = .ret (.str (T (txt w t))) [.str (T w), tF P] := by
  have hW : Wf S__law_written [.str (T w), tF P] fun d as => d = .str (T (txt w t)) ∧ as = [.str (T w), tF P] := by
    unfold S__law_written
    refine wf_mkF ?_
    rw [bq_lwritten]
    show Wp _ [some (.str (T w)), some (tF P), none, none, none, none, none, none, none, none, none] _
    have hlen : opLen [.str (T w)] = some (.int (P.length : Int)) := by rw [← hw]; exact len_T (by show _ ≤ 1000000; omega)
    have fin : ∀ (pcs : List (List Nat)), pcs.flatten = txt w t → opJoin [.str (T []), .node true .lst (pcs.map fun l => D.str (T l))] = some (.str (T (txt w t))) := fun pcs h => by
      rw [← h]
      refine join_ok true pcs ?_
      rw [h]
      have := Tr.txt_len w t
      rw [show t.lab = _ from hR, List.length_range'] at this
      show _ ≤ 1000000
      omega
    refine wp_nx [some (.str (T w)), some (tF P), some (.node true .lst []), none, none, none, none, none, none, none, none] ?_ ?_
    · generalize tF P = TD at *
      generalize T w = TW at *
      simp [mkF, reFrz, seq, Pm.ite, rtn, mov, asg, drp, sNx, bnd, Pm.bin, Pm.un, app, aCons, aNil, idx, loc, con, Pm.ret, peek1, peeks, itemOf, on2I, iAdd, iSub, iGt, iGe, iLt, iLe, iDiv, iMod, use1, useL, gI, gN, tst, andT, orT, notT, andE, orE, notE, ifE, ixN, D.frz, D.plain, plainL, argsBack, opLen, opAbs, opInt1, opNeg, disp, cap, callF, takes, puts, selA, sel, aApp, par, gT, gsC, gs0, appF, opDivmod, frzL, plainL]
    refine wp_nx [some (.str (T w)), some (tF P), some (.node true .lst []), some (wsD [.p 0 P.length true]), none, none, none, none, none, none, none] ?_ ?_
    · show _ = Res.ok Fl.nx [some (.str (T w)), some (tF P), some (.node true .lst []), some (.node true .lst [.node false .tup [.int 0, .int ((P.length : Int) - 1), .bl true]]), none, none, none, none, none, none, none]
      generalize tF P = TD at *
      generalize T w = TW at *
      generalize opLen = OL at *
      simp [mkF, reFrz, seq, Pm.ite, rtn, mov, asg, drp, sNx, bnd, Pm.bin, Pm.un, app, aCons, aNil, idx, loc, con, Pm.ret, peek1, peeks, itemOf, on2I, iAdd, iSub, iGt, iGe, iLt, iLe, iDiv, iMod, use1, useL, gI, gN, tst, andT, orT, notT, andE, orE, notE, ifE, ixN, D.frz, D.plain, plainL, argsBack, opLen, opAbs, opInt1, opNeg, disp, cap, callF, takes, puts, selA, sel, aApp, par, gT, gsC, gs0, appF, opDivmod, frzL, plainL, hlen]
    have h0 : Txs P w [.p 0 P.length true] [txt w t] := (Txs.nil).snoc (W := []) (X := []) ⟨Nat.zero_le _, by omega, t, none, hR, hz, fun a q => (nomatch q), rfl⟩
    refine wp_seq fun K k1 k2 k3 k4 => ?_
    refine writ_loop (n := 0) (D0 := txt w t) hw hl h0 (by simp) (Tr.txt_ch (by rw [hw]; exact hR) hch) (by simp [wgs, wg]; omega) fun pcs x3 x4 x5 x6 x7 x8 x9 hp => k1 _ ?_
    clear k1 k2 k3 k4 K
    have jn := fin pcs hp
    have l0 : (("" : String) : Str) = T [] := lit rfl
    have tp := tF_pl P
    rw [l0]
    generalize pcs.map (fun l => D.str (T l)) = PC at *
    generalize tF P = TD at *
    generalize T w = TW at *
    generalize T (txt w t) = TX at *
    generalize T [] = T0 at *
    refine wp_end fun K k1 k2 k3 k4 => ?_
    simp [Wp, mkF, reFrz, seq, Pm.ite, rtn, mov, asg, drp, sNx, bnd, Pm.bin, Pm.un, app, aCons, aNil, idx, loc, con, Pm.ret, peek1, peeks, itemOf, on2I, iAdd, iSub, iGt, iGe, iLt, iLe, iDiv, iMod, use1, useL, gI, gN, tst, andT, orT, notT, andE, orE, notE, ifE, ixN, D.frz, D.plain, plainL, argsBack, opLen, opAbs, opInt1, opNeg, disp, cap, callF, takes, puts, selA, sel, aApp, par, gT, gsC, gs0, appF, opDivmod, frzL, plainL, smet1, jn]
    exact k2 _ _ ⟨[.str TW, TD], by simp [argsBack, reFrz, tp, D.plain], rfl, rfl⟩
  obtain ⟨d, as, e, rfl, rfl⟩ := hW
  exact e
end Pk79
set_option maxHeartbeats 1000000
namespace Gr
open PySem PySem.Spec PyProof.Rows L2 Pm
open Pg (sg abc_T ABC dr divS)
noncomputable def c_lword_1 (S : FSem) : M EV := comp [3] (srcR1 (aCons (loc 1) aNil)) (gN 3) yesT (idx (aCons (loc 2) (aCons (callF S (aCons (loc 0) (aCons (app opLen (aCons (loc 2) aNil)) aNil))) aNil)))
noncomputable def b_lword (S : FSem) : M Fl := (seq (asg (idx (aCons (disp true .lst (aCons (con (.str "ab")) (aCons (con (.str "abcxyz")) (aCons (con (.str "abcdefghijklmnopqrstuvwxyz")) aNil)))) (aCons (callF S (aCons (loc 0) (aCons (con (.int 3)) aNil))) aNil))) (gN 2))
    (rtn (smet1 opJoin (con (.str "")) (c_lword_1 S))))
noncomputable def x_lword (S : FSem) : FSem := mkF 2 4 [] (b_lword S)
theorem wchars {S : FSem} (hS : Draws S) {few : List Nat} {n : Nat} {ns : List Int} {a : Int} {z : List D} (hl : ns.length ≤ 63) (hp : Pen ns a (.node true .lst z)) (ha : a + n ≤ 1000000) (hn : n ≤ 1000) (hf : few ≠ []) (hf2 : few.length ≤ 26) :
    ∃ (z' : List D) (l : List Nat), (c_lword_1 S) [some (.node true .lst z), some (.int (n : Int)), some (.str (T few)), none] = .ok (.val (.lst true (l.map sg))) [some (.node true .lst z'), some (.int (n : Int)), some (.str (T few)), none] ∧ l.length = n ∧ (∀ c ∈ l, c ∈ few) ∧ Pen ns (a + n) (.node true .lst z') := by
  have hsrc : srcR1 (aCons (loc 1) aNil) [some (.node true .lst z), some (.int (n : Int)), some (.str (T few)), none] = .ok (rangeD 0 n) [some (.node true .lst z), some (.int (n : Int)), some (.str (T few)), none] := src_r1 (es := [.ref 1]) (n := n) rfl rfl (by omega)
  have hf0 : 0 < few.length := List.length_pos_iff.mpr hf
  obtain ⟨acc, ρ', e, z', l, rfl, p', rfl, hlen, hin⟩ := comp_wp (own := [3]) (g := gN 3) (c := yesT) (e := idx (aCons (loc 2) (aCons (callF S (aCons (loc 0) (aCons (app opLen (aCons (loc 2) aNil)) aNil))) aNil))) hsrc
    (fun j ρ acc => ∃ (z' : List D) (l : List Nat), ρ = [some (.node true .lst z'), some (.int (n : Int)), some (.str (T few)), none] ∧ Pen ns (a + j) (.node true .lst z') ∧ acc = l.map sg ∧ l.length = j ∧ ∀ c ∈ l, c ∈ few)
    ⟨z, [], rfl, hp.mono (by omega), rfl, rfl, fun c hc => by simp at hc⟩ (by rw [range_len]; show n ≤ 1000000; omega)
    (fun j d ρ acc hd ⟨z', l, e, hp', ea, hlen, hin⟩ => by
      subst e
      obtain ⟨hj, rfl⟩ := range_get hd
      obtain ⟨r, z2, e2, r20, r21, p2⟩ := dr hS (m := (few.length : Int)) hl hp' (by omega) (by omega) (divS (by omega) (by omega))
      obtain ⟨k, rfl⟩ := Int.eq_ofNat_of_zero_le r20
      have hk : k < few.length := by omega
      have hol : opLen [.str (T few)] = some (.int (few.length : Int)) := len_T (by show _ ≤ 1000000; omega)
      have it : ∀ ρ : Pm.Env, ρ.getD 2 none = some (.str (T few)) → itemOf (.ref 2) ((k : Nat) : Int) ρ = .ok (.val (sg few[k])) ρ := fun ρ h => by
        have := Sc.char_at (src := few) (k := k) (c := few[k]) (by omega) (List.getElem?_eq_getElem hk) ρ
        unfold itemOf at this ⊢
        simp only [h]
        exact this
      refine ⟨_, rfl, ?_⟩
      refine Wp.of (a := true) rfl ⟨fun _ => ?_, fun q => nomatch q⟩
      refine Wp.of (a := .val (sg few[k])) (ρ' := [some (.node true .lst z2), some (.int (n : Int)), some (.str (T few)), some (.int (0 + (j : Int)))]) ?_ ?_
      · have it2 := it [some (.node true .lst z2), some (.int (n : Int)), some (.str (T few)), some (.int (0 + (j : Int)))] rfl
        clear it
        rw [Int.zero_add] at it2
        generalize S = SD at *
        generalize sg few[k] = CH at *
        generalize T few = TF at *
        generalize opLen = OL at *
        simp [idx, callF, bnd, aCons, aNil, Pm.ret, loc, app, peeks, peek1, hol, takes, D.plain, e2, puts, it2]
      · refine ⟨_, _, rfl, z2, l ++ [few[k]], ?_, p2.mono (by omega), by rw [ea]; simp, by simp [hlen], fun c hc => ?_⟩
        · simp [wipeE]
        · rcases List.mem_append.mp hc with hc | hc
          · exact hin c hc
          · obtain rfl := List.mem_singleton.mp hc
            exact List.getElem_mem hk)
  rw [range_len] at p' hlen
  refine ⟨z', l, ?_, hlen, hin, p'⟩
  unfold c_lword_1
  rw [e]
  rfl
theorem word_ok {S : FSem} (hS : Draws S) {n : Nat} {ns : List Int} {a : Int} {z : List D} (hl : ns.length ≤ 63) (hp : Pen ns a (.node true .lst z)) (ha : a + 1 + n ≤ 1000000) (hn : n ≤ 1000) :
    ∃ (z' : List D) (w : List Nat), (x_lword S) [.node true .lst z, .int (n : Int)] = .ret (.str (T w)) [.node true .lst z', .int (n : Int)] ∧ w.length = n ∧ (∀ c ∈ w, c ∈ ABC) ∧ Pen ns (a + 1 + n) (.node true .lst z') := by
  obtain ⟨r, z1, e2, r0, r1, p1⟩ := dr hS (m := 3) hl hp (by omega) (by decide) (by decide)
  have hw : Wf (x_lword S) [.node true .lst z, .int (n : Int)] fun d as => ∃ (z' : List D) (w : List Nat), d = .str (T w) ∧ as = [.node true .lst z', .int (n : Int)] ∧ w.length = n ∧ (∀ c ∈ w, c ∈ ABC) ∧ Pen ns (a + 1 + n) (.node true .lst z') := by
    unfold x_lword
    refine wf_mkF ?_
    unfold b_lword
    show Wp _ [some (.node true .lst z), some (.int (n : Int)), none, none] _
    have rest : ∀ few : List Nat, few ≠ [] → few.length ≤ 26 → (∀ c ∈ few, c ∈ ABC) → Wp (rtn (smet1 opJoin (con (.str "")) (c_lword_1 S))) [some (.node true .lst z1), some (.int (n : Int)), some (.str (T few)), none] (Pm.Fin [] [.node true .lst z, .int (n : Int)] fun d as => ∃ (z' : List D) (w : List Nat), d = .str (T w) ∧ as = [.node true .lst z', .int (n : Int)] ∧ w.length = n ∧ (∀ c ∈ w, c ∈ ABC) ∧ Pen ns (a + 1 + n) (.node true .lst z')) := fun few h1 h2 h3 => by
      obtain ⟨z2, l, e3, hlen, hin, p2⟩ := wchars hS (few := few) (n := n) hl p1 (by omega) hn h1 h2
      have ej := Pg.join_sg true l (by rw [hlen]; show n ≤ 1000000; omega)
      have e0 := Pg.empty_T
      generalize T [] = T0 at *
      generalize c_lword_1 S = CC at *
      generalize l.map sg = LL at *
      refine wp_end fun K k1 k2 k3 k4 => ?_
      simp [Wp, smet1, mkF, reFrz, seq, Pm.ite, rtn, mov, asg, drp, sNx, bnd, Pm.bin, Pm.un, app, aCons, aNil, idx, loc, con, Pm.ret, peek1, peeks, itemOf, on2I, iAdd, iSub, iGt, iGe, iLt, iLe, iDiv, iMod, use1, useL, gI, gN, tst, andT, orT, notT, andE, orE, notE, ifE, ixN, D.frz, D.plain, plainL, argsBack, opLen, opAbs, opInt1, opNeg, disp, cap, callF, takes, puts, selA, sel, aApp, par, gT, gsC, gs0, appF, opDivmod, frzL, plainL, e0, e3, ej]
      refine k2 _ _ ⟨[.node true .lst z2, .int (n : Int)], ?_, z2, l, rfl, rfl, hlen, fun c hc => h3 c (hin c hc), p2⟩
      simp [argsBack, reFrz, D.plain]
    have q1 : (("ab" : String) : Str) = T [97, 98] := Sc.lit rfl
    have q2 : (("abcxyz" : String) : Str) = T [97, 98, 99, 120, 121, 122] := Sc.lit rfl
    rw [q1, q2, abc_T]
    refine wp_seq fun K k1 k2 k3 k4 => ?_
    have hr : r = 0 ∨ r = 1 ∨ r = 2 := by omega
    generalize S = SD at *
    have R1 := rest [97, 98] (by simp) (by simp) (by simp [ABC])
    have R2 := rest [97, 98, 99, 120, 121, 122] (by simp) (by simp) (by simp [ABC])
    have R3 := rest ABC (by simp [ABC]) (by simp [ABC]) (fun c hc => hc)
    generalize T [97, 98] = TA at *
    generalize T [97, 98, 99, 120, 121, 122] = TB at *
    generalize T ABC = TC at *
    rcases hr with rfl | rfl | rfl
    · simp [Wp, mkF, reFrz, seq, Pm.ite, rtn, mov, asg, drp, sNx, bnd, Pm.bin, Pm.un, app, aCons, aNil, idx, loc, con, Pm.ret, peek1, peeks, itemOf, on2I, iAdd, iSub, iGt, iGe, iLt, iLe, iDiv, iMod, use1, useL, gI, gN, tst, andT, orT, notT, andE, orE, notE, ifE, ixN, D.frz, D.plain, plainL, argsBack, opLen, opAbs, opInt1, opNeg, disp, cap, callF, takes, puts, selA, sel, aApp, par, gT, gsC, gs0, appF, opDivmod, frzL, plainL, e2]
      exact k1 _ R1
    · simp [Wp, mkF, reFrz, seq, Pm.ite, rtn, mov, asg, drp, sNx, bnd, Pm.bin, Pm.un, app, aCons, aNil, idx, loc, con, Pm.ret, peek1, peeks, itemOf, on2I, iAdd, iSub, iGt, iGe, iLt, iLe, iDiv, iMod, use1, useL, gI, gN, tst, andT, orT, notT, andE, orE, notE, ifE, ixN, D.frz, D.plain, plainL, argsBack, opLen, opAbs, opInt1, opNeg, disp, cap, callF, takes, puts, selA, sel, aApp, par, gT, gsC, gs0, appF, opDivmod, frzL, plainL, e2]
      exact k1 _ R2
    · simp [Wp, mkF, reFrz, seq, Pm.ite, rtn, mov, asg, drp, sNx, bnd, Pm.bin, Pm.un, app, aCons, aNil, idx, loc, con, Pm.ret, peek1, peeks, itemOf, on2I, iAdd, iSub, iGt, iGe, iLt, iLe, iDiv, iMod, use1, useL, gI, gN, tst, andT, orT, notT, andE, orE, notE, ifE, ixN, D.frz, D.plain, plainL, argsBack, opLen, opAbs, opInt1, opNeg, disp, cap, callF, takes, puts, selA, sel, aApp, par, gT, gsC, gs0, appF, opDivmod, frzL, plainL, e2]
      exact k1 _ R3
  obtain ⟨d, as, e, z', w, rfl, rfl, h1, h2, h3⟩ := hw
  exact ⟨z', w, e, h1, h2, h3⟩
end Gr
namespace Pk79
open PySem PySem.Spec PyProof.Rows L2 Pm
open Sc (lit ne_str treeT walkG g0 readT_any TrR walk_txt whole_txt)
open Gr (tF tF_pl)
open Pg (sg dr divS ABC rtD)
open Tr (LT Run Rz txt)
theorem e_word : S__law_word = Gr.x_lword S__law_draw := rfl
theorem oI_rt : ∀ o : Option Nat, Sc.oI o = rtD o
  | none => rfl
  | some _ => rfl
def backD (w : List Nat) (P : Tr.Ps) : D := .node false .tup [.str (T w), tF P]
theorem read_back {P : Tr.Ps} {w : List Nat} {t : LT} (hw : w.length = P.length) (hl : P.length ≤ 200) (hR : Run t 0 P.length) (hz : Rz P t none) (hch : ∀ c ∈ w, 97 ≤ c ∧ c ≤ 122) :
    S_read_tree [.str (T (txt w t))] = .ret (backD w P) [.str (T (txt w t))] := by
  have hlen := Tr.txt_len w t
  rw [show t.lab = _ from hR, List.length_range'] at hlen
  have hwk := walk_txt (w := w) (P := P) (T := t) (by rw [hw]; exact hR) hz hw.symm hch []
  rw [List.append_nil] at hwk
  rw [show walkG ⟨w, P, [], Sc.endC t⟩ [] (txt w t).length = (some ⟨w, P, [], Sc.endC t⟩, (txt w t).length) from rfl] at hwk
  have hwh := whole_txt w P t
  rw [e_read]
  rcases readT_any (src := txt w t) (by omega) with ⟨g, hT, e⟩ | ⟨p, hT, e⟩
  · cases hT with
    | ret h1 h2 h3 =>
      rw [hwk] at h1
      cases h1
      rw [e]
      have : treeT ⟨w, P, [], Sc.endC t⟩ = backD w P := by
        show D.node false .tup [.str (T w), .node false .tup (P.map Sc.oI)] = _
        rw [show Sc.oI = rtD from funext oI_rt]
        rfl
      rw [this]
  · exfalso
    cases hT with
    | big h1 h2 h3 =>
      rw [hwk] at h1
      cases h1
      have h3 : 200 < w.length := h3
      omega
    | short h1 h2 =>
      rw [hwk] at h1
      cases h1
      rw [hwh] at h2
      cases h2
    | bad h1 =>
      rw [hwk] at h1
      cases h1
theorem text_low {l : List Nat} (h : ∀ c ∈ l, c < 128) {n : Nat} : low n (.str (T l)) = true := by
  have : PyData.strOk (T l) = true := Pg.strOk_T fun c hc => by have := h c hc; omega
  cases n <;> exact this
theorem text_mass {l : List Nat} : mass (.str (T l)) = l.length := by
  rw [mass_str]
  show (T l).cps.size = _
  simp [T]
theorem rt_low {o : Option Nat} (h : ∀ r, o = some r → r ≤ 1000) {k : Nat} : low k (rtD o) = true := by
  cases o with
  | none => cases k <;> rfl
  | some r =>
    have hr := h r rfl
    have : (r : Int).natAbs.log2 < 200 := by
      rw [Int.natAbs_natCast]
      by_cases h0 : r = 0
      · rw [h0]; decide
      · rw [Nat.log2_lt h0]
        have : (2:Nat)^200 > 10 ^ 50 := by decide +kernel
        omega
    cases k <;> exact decide_eq_true this
theorem rt_mass (o : Option Nat) : mass (rtD o) = 0 := by
  cases o with
  | none => exact mass_non
  | some r => exact mass_int _
theorem two_low {d : D} (h : low 50 d = true) (hm : mass d ≤ 1500) : ∃ s : Str, opReprA [.node true .lst [d, d]] = some (.str s) :=
  ⟨_, reprA_low (n := 51) (by
      show ([d, d].all (low 50)) = true
      rw [List.all_cons, List.all_cons, List.all_nil, h]; rfl) (by decide) (by
      rw [mass_lst, massL_cons, massL_cons, massL_nil]; omega)⟩
theorem back_low {w : List Nat} {P : Tr.Ps} (hw : ∀ c ∈ w, c < 128) (hP : ∀ o ∈ P, ∀ r, o = some r → r ≤ 1000) : low 50 (backD w P) = true := by
  show ([.str (T w), tF P].all (low 49)) = true
  rw [List.all_cons, List.all_cons, List.all_nil, text_low hw]
  have : low 49 (tF P) = true := by
    show ((P.map rtD).all (low 48)) = true
    rw [List.all_eq_true]
    intro d hd
    obtain ⟨o, ho, rfl⟩ := List.mem_map.mp hd
    exact rt_low (hP o ho)
  rw [this]
  rfl
theorem back_mass {w : List Nat} {P : Tr.Ps} : mass (backD w P) ≤ w.length + P.length + 10 := by
  show massL [.str (T w), tF P] ≤ _
  rw [massL_cons, massL_cons, massL_nil, text_mass]
  have : mass (tF P) ≤ P.length := by
    show massL (P.map rtD) ≤ _
    have := massL_le (c := 0) (xs := P.map rtD) fun x hx => by
      obtain ⟨o, _, rfl⟩ := List.mem_map.mp hx
      rw [rt_mass]
      exact Nat.le_refl _
    rw [List.length_map] at this
    omega
  omega
theorem backD_pl (w : List Nat) (P : Tr.Ps) : (backD w P).plain = true := by
  have := tF_pl P
  simp [backD, D.plain, plainL, this]
/-- one turn -/
theorem turn_ok {ns : List Int} {a : Int} {z : List D} {j : Nat} {R x3 x4 x5 x6 : Option D} {Q : Fl → Pm.Env → Prop} (hj : j < 5) (hl : ns.length ≤ 63) (hp : Pen ns a (.node true .lst z)) (ha : a + 5000 ≤ 1000000)
    (h : ∀ z' x3 x4 x5 x6, Pen ns (a + 2000) (.node true .lst z') → Q .nx [R, some (.node true .lst z'), some (.int (j : Int)), x3, x4, x5, x6]) :
    Wp b_olaw_1 [R, some (.node true .lst z), some (.int (j : Int)), x3, x4, x5, x6] Q := by
  obtain ⟨r1, z1, e1, a1, b1, p1⟩ := dr hS (m := 4) hl hp (by omega) (by decide) (by decide)
  obtain ⟨r2, z2, e2, a2, b2, p2⟩ := dr hS (m := 12) hl p1 (by omega) (by decide) (by decide)
  obtain ⟨r3, z3, e3, a3, b3, p3⟩ := dr hS (m := 60) hl p2 (by omega) (by decide) (by decide)
  obtain ⟨r4, z4, e4, a4, b4, p4⟩ := dr hS (m := 2) hl p3 (by omega) (by decide) (by decide)
  obtain ⟨r5, hr5, hr5b⟩ : ∃ r5 : Nat, atI [D.int 200, .int 20] r4 = some (.int (r5 : Int)) ∧ r5 ≤ 200 := by
    have : r4 = 0 ∨ r4 = 1 := by omega
    rcases this with rfl | rfl
    · exact ⟨200, rfl, by omega⟩
    · exact ⟨20, rfl, by omega⟩
  obtain ⟨n, hn, hnb⟩ : ∃ n : Nat, atI [D.int r1, .int r2, .int 1, .int r3, .int (r5 : Int)] (j : Int) = some (.int (n : Int)) ∧ n ≤ 200 := by
    have : j = 0 ∨ j = 1 ∨ j = 2 ∨ j = 3 ∨ j = 4 := by omega
    rcases this with rfl | rfl | rfl | rfl | rfl
    · exact ⟨r1.toNat, by show some (D.int r1) = _; congr 2; omega, by omega⟩
    · exact ⟨r2.toNat, by show some (D.int r2) = _; congr 2; omega, by omega⟩
    · exact ⟨1, rfl, by omega⟩
    · exact ⟨r3.toNat, by show some (D.int r3) = _; congr 2; omega, by omega⟩
    · exact ⟨r5, rfl, by omega⟩
  obtain ⟨z5, P, t, e5, hP, hR, hz, p5⟩ := Gr.tree_ok hS (n := n) hl p4 (by omega) (by omega)
  rw [← e_tree] at e5
  obtain ⟨z6, w, e6, hw, hwc, p6⟩ := Gr.word_ok hS (n := n) hl p5 (by omega) (by omega)
  rw [← e_word] at e6
  have hch : ∀ c ∈ w, 97 ≤ c ∧ c ≤ 122 := fun c hc => by
    have := hwc c hc
    unfold ABC at this
    simp only [List.mem_cons, List.not_mem_nil, or_false] at this
    omega
  subst hP
  have e7 := lwritten_ok hw (by omega) hR hz hch
  have e8 := Gr.show_ok hw rfl (by omega) hR hz
  rw [← e_show] at e8
  have e9 := read_back hw hnb hR hz hch
  have hlen := Tr.txt_len w t
  rw [show t.lab = _ from hR, List.length_range'] at hlen
  have htc := Tr.txt_ch (w := w) (T := t) (by rw [hw]; exact hR) hch
  have hPb : ∀ o ∈ P, ∀ r, o = some r → r ≤ 1000 := fun o ho r hr => by
    subst hr
    obtain ⟨k, hk⟩ := List.mem_iff_getElem?.mp ho
    have hkl := (List.getElem?_eq_some_iff.mp hk).1
    have := Tr.anc_none (P := P) hR hz hkl
    rw [hk] at this
    have hm : r ∈ Tr.anc t k := by
      have h2 := (Option.some.inj this).symm
      cases hc : Tr.anc t k with
      | nil => rw [hc] at h2; cases h2
      | cons q qs => rw [hc] at h2; cases h2; exact List.mem_cons_self
    have := Tr.anc_in hR hm
    omega
  obtain ⟨s1, q1⟩ := two_low (d := .str (T (txt w t))) (text_low htc) (by rw [text_mass]; omega)
  have bm := back_mass (w := w) (P := P)
  obtain ⟨s2, q2⟩ := two_low (d := backD w P) (back_low (fun c hc => by have := hch c hc; omega) hPb) (by omega)
  have n1 := ne_str s1
  have n2 := ne_str s2
  have tp := tF_pl P
  have tf := D.frz_of_plain _ tp
  have bp := backD_pl w P
  have bf := D.frz_of_plain _ bp
  have fin := h z6 (some (.int (P.length : Int))) (some (tF P)) (some (.str (T w))) (some (.str (T (txt w t)))) (p6.mono (by omega))
  unfold b_olaw_1
  refine wp_nx [R, some (.node true .lst z4), some (.int (j : Int)), some (.int (P.length : Int)), x4, x5, x6] ?_ ?_
  · clear fin e5 e6 e7 e8 e9 q1 q2 n1 n2 tp tf bp bf bm h
    unfold d_olaw_1
    generalize S__law_draw = SD at *
    simp [mkF, reFrz, seq, Pm.ite, rtn, mov, asg, drp, sNx, bnd, Pm.bin, Pm.un, app, aCons, aNil, idx, loc, con, Pm.ret, peek1, peeks, itemOf, on2I, iAdd, iSub, iGt, iGe, iLt, iLe, iDiv, iMod, use1, useL, gI, gN, tst, andT, orT, notT, andE, orE, notE, ifE, ixN, D.frz, D.plain, plainL, argsBack, opLen, opAbs, opInt1, opNeg, disp, cap, callF, takes, puts, selA, sel, aApp, par, gT, gsC, gs0, appF, opDivmod, frzL, plainL, e1, e2, e3, e4, hr5, hn]
  refine wp_nx [R, some (.node true .lst z6), some (.int (j : Int)), some (.int (P.length : Int)), some (tF P), some (.str (T w)), x6] ?_ ?_
  · clear fin e1 e2 e3 e4 e7 e8 e9 q1 q2 n1 n2 bp bf bm h
    generalize S__law_tree_of = ST at *
    generalize S__law_word = SW at *
    generalize tF P = TD at *
    generalize T w = TW at *
    simp [mkF, reFrz, seq, Pm.ite, rtn, mov, asg, drp, sNx, bnd, Pm.bin, Pm.un, app, aCons, aNil, idx, loc, con, Pm.ret, peek1, peeks, itemOf, on2I, iAdd, iSub, iGt, iGe, iLt, iLe, iDiv, iMod, use1, useL, gI, gN, tst, andT, orT, notT, andE, orE, notE, ifE, ixN, D.frz, D.plain, plainL, argsBack, opLen, opAbs, opInt1, opNeg, disp, cap, callF, takes, puts, selA, sel, aApp, par, gT, gsC, gs0, appF, opDivmod, frzL, plainL, e5, e6, tp, tf]
  refine wp_nx [R, some (.node true .lst z6), some (.int (j : Int)), some (.int (P.length : Int)), some (tF P), some (.str (T w)), some (.str (T (txt w t)))] ?_ ?_
  · clear fin e1 e2 e3 e4 e5 e6 e8 e9 q1 q2 n1 n2 bp bf bm h
    generalize S__law_written = SW at *
    generalize tF P = TD at *
    generalize T w = TW at *
    generalize T (txt w t) = TX at *
    simp [mkF, reFrz, seq, Pm.ite, rtn, mov, asg, drp, sNx, bnd, Pm.bin, Pm.un, app, aCons, aNil, idx, loc, con, Pm.ret, peek1, peeks, itemOf, on2I, iAdd, iSub, iGt, iGe, iLt, iLe, iDiv, iMod, use1, useL, gI, gN, tst, andT, orT, notT, andE, orE, notE, ifE, ixN, D.frz, D.plain, plainL, argsBack, opLen, opAbs, opInt1, opNeg, disp, cap, callF, takes, puts, selA, sel, aApp, par, gT, gsC, gs0, appF, opDivmod, frzL, plainL, e7, tp, tf]
  refine wp_nx [R, some (.node true .lst z6), some (.int (j : Int)), some (.int (P.length : Int)), some (tF P), some (.str (T w)), some (.str (T (txt w t)))] ?_ ?_
  · clear fin e1 e2 e3 e4 e5 e6 e7 e9 q2 n2 bp bf bm h
    generalize S_show_tree = SW at *
    generalize tF P = TD at *
    generalize T w = TW at *
    generalize T (txt w t) = TX at *
    generalize opReprA = OR at *
    generalize opNe = ON at *
    simp [mkF, reFrz, seq, Pm.ite, rtn, mov, asg, drp, sNx, bnd, Pm.bin, Pm.un, app, aCons, aNil, idx, loc, con, Pm.ret, peek1, peeks, itemOf, on2I, iAdd, iSub, iGt, iGe, iLt, iLe, iDiv, iMod, use1, useL, gI, gN, tst, andT, orT, notT, andE, orE, notE, ifE, ixN, D.frz, D.plain, plainL, argsBack, opLen, opAbs, opInt1, opNeg, disp, cap, callF, takes, puts, selA, sel, aApp, par, gT, gsC, gs0, appF, opDivmod, frzL, plainL, e8, tp, tf, q1, n1]
  clear e1 e2 e3 e4 e5 e6 e7 e8 q1 n1 bm h
  have q2' : opReprA [.node true .lst [.node false .tup [.str (T w), tF P], .node false .tup [.str (T w), tF P]]] = some (.str s2) := q2
  generalize backD w P = BD at *
  generalize S_read_tree = SW at *
  generalize tF P = TD at *
  generalize T w = TW at *
  generalize T (txt w t) = TX at *
  generalize opReprA = OR at *
  generalize opNe = ON at *
  refine wp_end fun K k1 k2 k3 k4 => ?_
  refine Wp.of (a := .nx) (ρ' := [R, some (.node true .lst z6), some (.int (j : Int)), some (.int (P.length : Int)), some TD, some (.str TW), some (.str TX)]) ?_ (k1 _ fin)
  simp [mkF, reFrz, seq, Pm.ite, rtn, mov, asg, drp, sNx, bnd, Pm.bin, Pm.un, app, aCons, aNil, idx, loc, con, Pm.ret, peek1, peeks, itemOf, on2I, iAdd, iSub, iGt, iGe, iLt, iLe, iDiv, iMod, use1, useL, gI, gN, tst, andT, orT, notT, andE, orE, notE, ifE, ixN, D.frz, D.plain, plainL, argsBack, opLen, opAbs, opInt1, opNeg, disp, cap, callF, takes, puts, selA, sel, aApp, par, gT, gsC, gs0, appF, opDivmod, frzL, plainL, e9, bp, bf, tp, tf, q2, q2', n2]
theorem law_ok (ns : List Int) (hl : ns.length ≤ 63) : ∃ as, S_law [.scr (ns.map D.int)] = .ret (.bl true) as := by
  obtain ⟨d0, ep, p0⟩ := pen_ok hl
  obtain ⟨z0, rfl⟩ := p0.owned
  have hw : Wf S_law [.scr (ns.map D.int)] fun d as => d = .bl true := by
    unfold S_law
    refine wf_mkF ?_
    rw [bq_law]
    show Wp _ [some (.scr (ns.map D.int)), none, none, none, none, none, none] _
    have pl := plain_ints ns
    refine wp_seq fun K k1 k2 k3 k4 => ?_
    simp [Wp, mkF, reFrz, seq, Pm.ite, rtn, mov, asg, drp, sNx, bnd, Pm.bin, Pm.un, app, aCons, aNil, idx, loc, con, Pm.ret, peek1, peeks, itemOf, on2I, iAdd, iSub, iGt, iGe, iLt, iLe, iDiv, iMod, use1, useL, gI, gN, tst, andT, orT, notT, andE, orE, notE, ifE, ixN, D.frz, D.plain, plainL, argsBack, opLen, opAbs, opInt1, opNeg, disp, cap, callF, takes, puts, selA, sel, aApp, par, gT, gsC, gs0, appF, opDivmod, frzL, plainL, e_pen, ep, pl]
    refine k1 _ ?_
    clear k1 k2 k3 k4 K
    refine wp_seq fun K0 j1 j2 j3 j4 => ?_
    have hsrc : srcR1 (aCons (con (.int 5)) aNil) [some (.scr (ns.map D.int)), some (.node true .lst z0), none, none, none, none, none] = .ok (rangeD 0 5) [some (.scr (ns.map D.int)), some (.node true .lst z0), none, none, none, none, none] := src_r1 (es := [.val (.int 5)]) (n := 5) rfl rfl (by decide)
    refine wp_for hsrc (fun j ρ => ∃ (z : List D) (x2 x3 x4 x5 x6 : Option D), ρ = [some (.scr (ns.map D.int)), some (.node true .lst z), x2, x3, x4, x5, x6] ∧ Pen ns (0 + 2000 * j) (.node true .lst z)) ⟨z0, none, none, none, none, none, rfl, p0.mono (by omega)⟩ ?_ ?_
    · rintro j d ρ hd ⟨z, x2, x3, x4, x5, x6, rfl, hp⟩
      obtain ⟨hj, rfl⟩ := range_get hd
      refine ⟨_, rfl, ?_⟩
      rw [Int.zero_add]
      exact turn_ok hj hl hp (by omega) fun z' x3 x4 x5 x6 p' => ⟨z', _, x3, x4, x5, x6, rfl, p'.mono (by omega)⟩
    · rintro ρ ⟨z, x2, x3, x4, x5, x6, rfl, -⟩
      refine j1 _ ?_
      clear j1 j2 j3 j4 K0 hsrc
      have f1 := Gr.show_ok (P := []) (w := []) (TT := .leaf) (n := 0) rfl rfl (by omega) rfl trivial
      rw [← e_show] at f1
      have f2 := read_back (P := []) (w := []) (t := .leaf) rfl (by simp) rfl trivial (fun c hc => by cases hc)
      have t1 : txt [] .leaf = [46] := rfl
      rw [t1] at f1 f2
      have q1 : opEq [.str (T [46]), .str (T [46])] = some (.bl true) := by rw [eq_ss]; simp
      have q2 : opEq [backD [] [], .node false .tup [.str (T []), .node false .tup []]] = some (.bl true) := by
        have hs : PyData.strOk (T []) = true := Pg.strOk_T fun c hc => by cases hc
        have a : shp 60 (backD [] []) = true := by
          show ([.str (T []), tF []].all (shp 59)) = true
          have : shp 59 (.str (T [])) = true := by simpa [shp] using hs
          rw [List.all_cons, this]; rfl
        show (if (shp 60 (backD [] []) && shp 60 (backD [] [])) = true then some (D.bl (deq (backD [] []) (backD [] []))) else none) = _
        rw [a, Pg.deq_refl 60 _ a]; rfl
      have l0 : (("" : String) : Str) = T [] := lit rfl
      have l1 : (("." : String) : Str) = T [46] := lit rfl
      have t0 : tF [] = .node false .tup [] := rfl
      rw [t0] at f1
      rw [l0, l1]
      refine wp_end fun K k1 k2 k3 k4 => ?_
      refine Wp.of (a := .rt (.bl true)) (ρ' := [some (.scr (ns.map D.int)), some (.node true .lst z), x2, x3, x4, x5, x6]) ?_ (k2 _ _ ⟨[.scr (ns.map D.int)], by simp [argsBack, reFrz, D.plain, pl], rfl⟩)
      have bp := backD_pl [] []
      generalize backD [] [] = BD at *
      generalize S_read_tree = SR at *
      generalize S_show_tree = SS at *
      generalize opEq = OE at *
      generalize T [46] = S2 at *
      generalize T [] = S3 at *
      simp [mkF, reFrz, seq, Pm.ite, rtn, mov, asg, drp, sNx, bnd, Pm.bin, Pm.un, app, aCons, aNil, idx, loc, con, Pm.ret, peek1, peeks, itemOf, on2I, iAdd, iSub, iGt, iGe, iLt, iLe, iDiv, iMod, use1, useL, gI, gN, tst, andT, orT, notT, andE, orE, notE, ifE, ixN, D.frz, D.plain, plainL, argsBack, opLen, opAbs, opInt1, opNeg, disp, cap, callF, takes, puts, selA, sel, aApp, par, gT, gsC, gs0, appF, opDivmod, frzL, plainL, f1, f2, q1, q2, frzL, plainL, bp]
  obtain ⟨d, as, e, rfl⟩ := hw
  exact ⟨as, e⟩
end Pk79
open PySem PySem.W PyProof.Rows
set_option maxHeartbeats 0 in
theorem PySem.Challenge.cw_wearbinds_k79_trees_as_texts_holds : PySem.Challenge.rw_wearbinds_k79_trees_as_texts.Holds := by
  w_on; o_law; k_head; (case hw => w_witness2)
  k_fill
  refine Pm.walkT (l := PySem.Challenge.rw_wearbinds_k79_trees_as_texts) (n := 63) (k := 6) (x := "_law_script") (g := Pk79.S_law) rfl (by decide) rfl ⟨rfl, by decide, by decide⟩ (by intro w h Y; first | exact PySem.W.kIn_of Y | exact PySem.W.km_in_of Y) (fun w => by kernel_rfl) ?F Pk79.law_ok
  case F =>
    intro w mg fa h KX G hmg
    refine' Pk79.all_mk KX G hmg ?aK_Growing ?pg_Growing ?hd_Growing ?po_Growing ?sa_Growing ?mk_Growing ?kc_Growing ?aK_Scanner ?pg_Scanner ?hd_Scanner ?po_Scanner ?sa_Scanner ?mk_Scanner ?kc_Scanner ?nf_Growing_above ?nf_Growing_parts ?nf_Growing_signs ?nf_Scanner_source ?nf_Scanner_spot ?a0 ?l0 ?c0 ?k0 ?a1 ?l1 ?c1 ?k1 ?a2 ?l2 ?c2 ?k2 ?a3 ?l3 ?c3 ?k3 ?a4 ?l4 ?c4 ?k4 ?a5 ?l5 ?c5 ?k5 ?a6 ?l6 ?c6 ?k6 ?a7 ?i7 ?l7 ?c7 ?k7 ?a8 ?i8 ?l8 ?c8 ?k8 ?a9 ?i9 ?l9 ?c9 ?k9 ?a10 ?i10 ?l10 ?c10 ?k10 ?a11 ?i11 ?l11 ?c11 ?k11 ?a12 ?i12 ?l12 ?c12 ?k12 ?a13 ?i13 ?l13 ?c13 ?k13 ?a14 ?i14 ?l14 ?c14 ?k14 ?a15 ?i15 ?l15 ?c15 ?k15 ?a16 ?i16 ?l16 ?c16 ?k16 ?a17 ?i17 ?l17 ?c17 ?k17 ?a18 ?l18 ?c18 ?k18 ?a19 ?l19 ?c19 ?k19 ?z_abs ?z_int ?z_isinstance ?z_len ?z_list ?z_max ?z_min ?z_range ?z_repr ?z_str ?z_tuple ?z_zip ?g_LETTERS ?g_MOST_OPERATORS ?aC_InvalidText ?ga_InvalidText ?gg_InvalidText ?eC_InvalidText ?hC_InvalidText ?ca_InvalidText ?mo_InvalidText ?tC_InvalidText ?aC_WearError ?ga_WearError ?gg_WearError ?eC_WearError ?hC_WearError ?ca_WearError ?mo_WearError ?tC_WearError ?spX ?tkX ?xL_InvalidText ?sa_InvalidText ?kC_InvalidText ?no_InvalidText ?iC_InvalidText ?tI_InvalidText ?il_InvalidText ?ic_InvalidText ?ik_InvalidText
    (case aK_Growing => k_is); (case pg_Growing => k_is); (case hd_Growing => k_is); (case po_Growing => k_is); (case sa_Growing => k_is); (case mk_Growing => k_is); (case kc_Growing => k_is); (case aK_Scanner => k_is); (case pg_Scanner => k_is); (case hd_Scanner => k_is); (case po_Scanner => k_is); (case sa_Scanner => k_is); (case mk_Scanner => k_is); (case kc_Scanner => k_is); (case nf_Growing_above => k_is); (case nf_Growing_parts => k_is); (case nf_Growing_signs => k_is); (case nf_Scanner_source => k_is); (case nf_Scanner_spot => k_is); (case a0 => k_is); (case l0 => k_is); (case c0 => k_is); (case k0 => k_is); (case a1 => k_is); (case l1 => k_is); (case c1 => k_is); (case k1 => k_is); (case a2 => k_is); (case l2 => k_is); (case c2 => k_is); (case k2 => k_is); (case a3 => k_is); (case l3 => k_is); (case c3 => k_is); (case k3 => k_is); (case a4 => k_is); (case l4 => k_is); (case c4 => k_is); (case k4 => k_is); (case a5 => k_is); (case l5 => k_is); (case c5 => k_is); (case k5 => k_is); (case a6 => k_is); (case l6 => k_is); (case c6 => k_is); (case k6 => k_is); (case a7 => k_is); (case i7 => k_is); (case l7 => k_is); (case c7 => k_is); (case k7 => k_is); (case a8 => k_is); (case i8 => k_is); (case l8 => k_is); (case c8 => k_is); (case k8 => k_is); (case a9 => k_is); (case i9 => k_is); (case l9 => k_is); (case c9 => k_is); (case k9 => k_is); (case a10 => k_is); (case i10 => k_is); (case l10 => k_is); (case c10 => k_is); (case k10 => k_is); (case a11 => k_is); (case i11 => k_is); (case l11 => k_is); (case c11 => k_is); (case k11 => k_is); (case a12 => k_is); (case i12 => k_is); (case l12 => k_is); (case c12 => k_is); (case k12 => k_is); (case a13 => k_is); (case i13 => k_is); (case l13 => k_is); (case c13 => k_is); (case k13 => k_is); (case a14 => k_is); (case i14 => k_is); (case l14 => k_is); (case c14 => k_is); (case k14 => k_is); (case a15 => k_is); (case i15 => k_is); (case l15 => k_is); (case c15 => k_is); (case k15 => k_is); (case a16 => k_is); (case i16 => k_is); (case l16 => k_is); (case c16 => k_is); (case k16 => k_is); (case a17 => k_is); (case i17 => k_is); (case l17 => k_is); (case c17 => k_is); (case k17 => k_is); (case a18 => k_is); (case l18 => k_is); (case c18 => k_is); (case k18 => k_is); (case a19 => k_is); (case l19 => k_is); (case c19 => k_is); (case k19 => k_is); (case z_abs => k_is); (case z_int => k_is); (case z_isinstance => k_is); (case z_len => k_is); (case z_list => k_is); (case z_max => k_is); (case z_min => k_is); (case z_range => k_is); (case z_repr => k_is); (case z_str => k_is); (case z_tuple => k_is); (case z_zip => k_is); (case g_LETTERS => k_is); (case g_MOST_OPERATORS => k_is); (case aC_InvalidText => first | k_is | rfl); (case ga_InvalidText => first | k_is | rfl); (case gg_InvalidText => first | k_is | rfl); (case eC_InvalidText => first | k_is | rfl); (case hC_InvalidText => first | k_is | rfl); (case ca_InvalidText => first | k_is | rfl); (case mo_InvalidText => first | k_is | rfl); (case tC_InvalidText => first | k_is | rfl); (case aC_WearError => first | k_is | rfl); (case ga_WearError => first | k_is | rfl); (case gg_WearError => first | k_is | rfl); (case eC_WearError => first | k_is | rfl); (case hC_WearError => first | k_is | rfl); (case ca_WearError => first | k_is | rfl); (case mo_WearError => first | k_is | rfl); (case tC_WearError => first | k_is | rfl); (case spX => first | k_is | rfl); (case tkX => first | k_is | rfl); (case xL_InvalidText => first | k_is | rfl); (case sa_InvalidText => first | k_is | rfl); (case kC_InvalidText => first | k_is | rfl); (case no_InvalidText => first | k_is | rfl); (case iC_InvalidText => first | k_is | rfl); (case tI_InvalidText => first | k_is | rfl); (case il_InvalidText => first | k_is | rfl); (case ic_InvalidText => first | k_is | rfl); (case ik_InvalidText => first | k_is | rfl)

import PyProof.Rows.All
import Wide.All
import OpenK.AllK
import Wide.FinOn
import HandS.ForMost
import HandS.Exc
import HandS.ExcOwn
import HandS.Wide
import HandS.IsInst
import HandS.TupAny
import HandS.SortInts
import HandS.Zip
import HandS.Flow
import HandS.Style
import HandS.Star
import HandS.Set
import HandS.SetFor
import HandS.Strs
import HandS.Replace
import HandS.ReplaceLit
import HandS.Iter
import HandS.Text
import HandS.Lambda
import KE.KNest
import PyProof.EqKinds
import PyProof.FactsAll.dict_1
import PyProof.EqAt
import PyProof.TupleCall
import HandS.ExcInit
import PyProof.ExcBaseAll.OverflowError
import PyProof.ExcBaseAll.IndexError
import PyProof.ExcBaseAll.LookupError
import PyProof.ExcBaseAll.ValueError
import HandS.Words
import HandS.ExcValue
import HandS.ExcField
import KE.KExcIs
import HandS.More
import HandS.ReplaceList
import HandS.TupMul
import HandS.Conv
import PyProof.ListStr
import HandS.Zip0
import PyProof.EnumMake
import PyProof.Draws
import HandS.FStr
import HandS.ExcIs
import KE.IntTextLaws
import HandS.EndTab
import KE.KNestM
import KE.KTupSum
import HandS.TupLe
import HandS.DictTup
import HandS.SortRule
import HandS.TryOnly
import HandS.DictComp
import HandS.Property
import OpenK.KMore
import KE.IntTextText
import HandS.ClsMeth
import PySem.Challenge.RW_wearbinds_k52_blocks_that_are_refused
set_option Elab.async false
set_option linter.all false
set_option maxRecDepth 100000
namespace Pm
open PySem PySem.Spec PyProof.Rows L2
abbrev Sl := List (Option V)
/-- no table of code objects -/
def NT (o : HO) : Prop := ∀ ps, o ≠ .tbl ps
theorem nt_lst {ys : List V} : NT (.lst ys) := fun _ e => nomatch e
theorem nt_tup {ys : List V} : NT (.tup ys) := fun _ e => nomatch e
theorem nt_frz {o : Obj} {u : HO} : NT (.frz o u) := fun _ e => nomatch e
theorem nt_dK {es : List (Key × V)} : NT (.dK es) := fun _ e => nomatch e
theorem nt_xd {es : List (Str × V)} : NT (.xd es) := fun _ e => nomatch e
theorem nt_ins {C dx : Addr} {fs : List (Str × V)} : NT (.ins C dx fs) := fun _ e => nomatch e
theorem nt_ext {p : Heap → Prop} : NT (.ext p) := fun _ e => by cases e
/-- what may be owned -/
def NW (o : HO) : Prop := NT o ∧ ∀ φ, o ≠ .ext φ
theorem nt_or (o : HO) : (∃ ps, o = .tbl ps) ∨ NT o := by
  by_cases h : ∃ ps, o = .tbl ps
  · exact .inl h
  · exact .inr fun ps e => h ⟨ps, e⟩
/-- all that is known stays, tables apart -/
structure Sam (Z H : Hp) : Prop where
  get : ∀ a o, Z a = some o → NT o → H a = some o
theorem _root_.L2.Same.sam {Z H : Hp} (h : L2.Same Z H) : Sam Z H := ⟨fun a o e _ => h a o e⟩
instance {Z H : Hp} : Coe (L2.Same Z H) (Sam Z H) := ⟨L2.Same.sam⟩
theorem Sam.refl (Z : Hp) : Sam Z Z := ⟨fun _ _ e _ => e⟩
theorem Sam.trans {Z Z1 Z2 : Hp} (a : Sam Z Z1) (b : Sam Z1 Z2) : Sam Z Z2 := ⟨fun x o e n => b.get x o (a.get x o e n) n⟩
theorem Sam.seq {K : PySem.W.Frag} {H H' : Hp} {a : Addr} {xs : List V} (e : Sam H H') (h : SqL K H a xs) : SqL K H' a xs := by
  rcases h with (h | ⟨o, h⟩) | h
  · exact .inl (.inl (e.get _ _ h nt_lst))
  · exact .inl (.inr ⟨o, e.get _ _ h nt_frz⟩)
  · exact .inr h
/-- the kind of a compound thing -/
inductive Kd where
  | tup | lst | scr | dct (ks : List Key) | obj (C : Str) (fs : List Str) | ins (C : Str) (fs : List Str)
  deriving DecidableEq
/-- data: an owned node (true) may be changed in place, a frozen one is shared and stays -/
inductive D where
  | non | bl (b : Bool) | int (i : Int) | str (x : Str) | op (v : V)
  | node (o : Bool) (k : Kd) (xs : List D)
abbrev D.tup (xs : List D) : D := .node false .tup xs
abbrev D.lst (o : Bool) (xs : List D) : D := .node o .lst xs
abbrev D.scr (xs : List D) : D := .node false .scr xs
abbrev D.dct (o : Bool) (ks : List Key) (xs : List D) : D := .node o (.dct ks) xs
mutual
def D.plain : D → Bool
  | .node _ .tup xs => plainL xs
  | .node o _ xs => !o && plainL xs
  | _ => true
def plainL : List D → Bool
  | [] => true
  | d :: ds => d.plain && plainL ds
end
mutual
def D.frz : D → D
  | .node o .tup xs => .node o .tup (frzL xs)
  | .node _ k xs => .node false k (frzL xs)
  | d => d
def frzL : List D → List D
  | [] => []
  | d :: ds => d.frz :: frzL ds
end
theorem frzL_map : ∀ ds : List D, frzL ds = ds.map D.frz
  | [] => rfl
  | d :: ds => by rw [frzL, frzL_map ds, List.map_cons]
mutual
theorem D.frz_of_plain : ∀ d : D, d.plain = true → d.frz = d
  | .non, _ => rfl
  | .bl _, _ => rfl
  | .int _, _ => rfl
  | .str _, _ => rfl
  | .op _, _ => rfl
  | .node o .tup xs, h => by
    rw [D.plain] at h
    rw [D.frz, frzL_of_plain xs h]
  | .node o .lst xs, h => by
    rw [D.plain, Bool.and_eq_true, Bool.not_eq_true'] at h
    · rw [D.frz, frzL_of_plain xs h.2, h.1]; simp
    · simp
  | .node o .scr xs, h => by
    rw [D.plain, Bool.and_eq_true, Bool.not_eq_true'] at h
    · rw [D.frz, frzL_of_plain xs h.2, h.1]; simp
    · simp
  | .node o (.dct _) xs, h => by
    rw [D.plain, Bool.and_eq_true, Bool.not_eq_true'] at h
    · rw [D.frz, frzL_of_plain xs h.2, h.1]; simp
    · simp
  | .node o (.obj _ _) xs, h => by
    rw [D.plain, Bool.and_eq_true, Bool.not_eq_true'] at h
    · rw [D.frz, frzL_of_plain xs h.2, h.1]; simp
    · simp
  | .node o (.ins _ _) xs, h => by
    rw [D.plain, Bool.and_eq_true, Bool.not_eq_true'] at h
    · rw [D.frz, frzL_of_plain xs h.2, h.1]; simp
    · simp
theorem frzL_of_plain : ∀ ds : List D, plainL ds = true → frzL ds = ds
  | [], _ => rfl
  | d :: ds, h => by
    rw [plainL, Bool.and_eq_true] at h
    rw [frzL, D.frz_of_plain d h.1, frzL_of_plain ds h.2]
end
mutual
theorem D.plain_frz : ∀ d : D, d.frz.plain = true
  | .non => rfl
  | .bl _ => rfl
  | .int _ => rfl
  | .str _ => rfl
  | .op _ => rfl
  | .node o .tup xs => by rw [D.frz, D.plain, plainL_frz xs]
  | .node o .lst xs => by simp [D.frz, D.plain, plainL_frz xs]
  | .node o .scr xs => by simp [D.frz, D.plain, plainL_frz xs]
  | .node o (.dct _) xs => by simp [D.frz, D.plain, plainL_frz xs]
  | .node o (.obj _ _) xs => by simp [D.frz, D.plain, plainL_frz xs]
  | .node o (.ins _ _) xs => by simp [D.frz, D.plain, plainL_frz xs]
theorem plainL_frz : ∀ ds : List D, plainL (frzL ds) = true
  | [] => rfl
  | d :: ds => by
    rw [frzL, plainL, D.plain_frz d, plainL_frz ds]
    rfl
end
abbrev Fp := Addr → Prop
abbrev Fp0 : Fp := fun _ => False
/-- the class of a name of the module -/
def reg (K : PySem.W.Frag) (n : Str) : Option Addr := match PySem.W.nsIn K PySem.mainGlobals n with
  | some (some (.ref C)) => some C
  | _ => none
theorem reg_of {K : PySem.W.Frag} {n : Str} {C : Addr} (h : PySem.W.nsIn K PySem.mainGlobals n = some (some (.ref C))) : reg K n = some C := by
  unfold reg
  rw [h]
/-- a thing at its address, as tracked -/
def Cell (K : PySem.W.Frag) (H : Hp) (a : Addr) (ys : List V) : Kd → Prop
  | .tup => H a = some (.tup ys)
  | .lst => H a = some (.lst ys)
  | .scr => False
  | .dct ks => ks.length = ys.length ∧ H a = some (.dK (ks.zip ys))
  | .obj _ _ => False
  | .ins n fs => ∃ C dx : Addr, reg K n = some C ∧ fs.length = ys.length ∧ H a = some (.ins C dx (fs.zip ys))
/-- at a: an exception of the class at C, its dict at dd -/
def XoP (a C : Addr) (dd : Option Addr) : Heap → Prop := fun h => ∃ (oe : Obj) (vs : Array Value), h.get? a = some oe ∧ oe.cls = .ref C ∧ oe.dict = dd ∧ oe.data = .fields vs
/-- an exception that was caught: its class by name, its fields -/
def ObjAt (K : PySem.W.Frag) (Z : Hp) (a : Addr) (ys : List V) (n : Str) (fs : List Str) : Prop :=
  ∃ (C : Addr) (dd : Option Addr), reg K n = some C ∧ Z a = some (.ext (XoP a C dd)) ∧ ((dd = none ∧ fs = [] ∧ ys = []) ∨ ∃ d, dd = some d ∧ fs.length = ys.length ∧ Z d = some (.xd (fs.zip ys)))
/-- it has no dict of its own -/
def DN (K : PySem.W.Frag) (Z : Hp) (a : Addr) : Prop := (∃ o u, o.dict = none ∧ Z a = some (.frz o u)) ∨ ∃ o, K.lookup a = some o ∧ o.dict = none
theorem DN.sam {K : PySem.W.Frag} {Z Z' : Hp} {a : Addr} (h : DN K Z a) (e : Sam Z Z') : DN K Z' a := by
  rcases h with ⟨o, u, h1, h2⟩ | h
  · exact .inl ⟨o, u, h1, e.get _ _ h2 nt_frz⟩
  · exact .inr h
theorem DN.same {K : PySem.W.Frag} {Z Z' : Hp} {a : Addr} (h : DN K Z a) (e : L2.Same Z Z') : DN K Z' a := h.sam e.sam
/-- a frozen thing as it is read -/
def Frd (K : PySem.W.Frag) (Z : Hp) (a : Addr) (ys : List V) : Kd → Prop
  | .tup => SqT K Z a ys
  | .scr => SqL K Z a ys
  | .obj n fs => ObjAt K Z a ys n fs
  | k => Cell K Z a ys k
mutual
def Rep (K : PySem.W.Frag) (Z H : Hp) : D → V → Fp → Prop
  | .non, v, _ => v = .non
  | .bl b, v, _ => v = .bl b
  | .int i, v, _ => v = .int i
  | .str x, v, _ => v = .str x
  | .op u, v, _ => v = u
  | .node false k ds, v, S => ∃ a ys, v = .ref a ∧ Frd K Z a ys k ∧ RepL K Z H ds ys S
  | .node true .tup ds, v, S => ∃ a ys, v = .ref a ∧ (SqT K Z a ys ∧ DN K Z a) ∧ RepL K Z H ds ys S
  | .node true k ds, v, S => ∃ a ys S', v = .ref a ∧ Cell K H a ys k ∧ S a ∧ ¬ S' a ∧ (∀ b, S' b → S b) ∧ RepL K Z H ds ys S'
def RepL (K : PySem.W.Frag) (Z H : Hp) : List D → List V → Fp → Prop
  | [], [], _ => True
  | d :: ds, v :: vs, S => ∃ S1 S2 : Fp, (∀ a, S1 a → S a) ∧ (∀ a, S2 a → S a) ∧ (∀ a, S1 a → S2 a → False) ∧ Rep K Z H d v S1 ∧ RepL K Z H ds vs S2
  | _, _, _ => False
end
section
variable {K : PySem.W.Frag} {Z Z' H H' : Hp} {S S' : Fp}
theorem Cell.sam {a : Addr} {ys : List V} {k : Kd} (h : Cell K H a ys k) (e : ∀ o, H a = some o → NT o → H' a = some o) : Cell K H' a ys k := by
  cases k with
  | tup => exact e _ h nt_tup
  | lst => exact e _ h nt_lst
  | scr => exact h
  | dct ks => exact ⟨h.1, e _ h.2 nt_dK⟩
  | obj C fs => exact h
  | ins n fs => obtain ⟨C, dx, h1, h2, h3⟩ := h; exact ⟨C, dx, h1, h2, e _ h3 nt_ins⟩
theorem SqT.sam {a : Addr} {ys : List V} (h : SqT K Z a ys) (e : Sam Z Z') : SqT K Z' a ys := by
  rcases h with (h | ⟨o, h⟩) | h
  · exact .inl (.inl (e.get _ _ h nt_tup))
  · exact .inl (.inr ⟨o, e.get _ _ h nt_frz⟩)
  · exact .inr h
theorem Frd.sam {a : Addr} {ys : List V} {k : Kd} (h : Frd K Z a ys k) (e : Sam Z Z') : Frd K Z' a ys k := by
  cases k with
  | tup => exact SqT.sam h e
  | lst => exact e.get _ _ h nt_lst
  | scr => exact Sam.seq e h
  | dct ks => exact ⟨h.1, e.get _ _ h.2 nt_dK⟩
  | obj n fs =>
    obtain ⟨C, dd, h1, h2, h3⟩ := h
    refine ⟨C, dd, h1, e.get _ _ h2 nt_ext, ?_⟩
    rcases h3 with h3 | ⟨d, r1, r2, r3⟩
    · exact .inl h3
    · exact .inr ⟨d, r1, r2, e.get _ _ r3 nt_xd⟩
  | ins n fs => obtain ⟨C, dx, h1, h2, h3⟩ := h; exact ⟨C, dx, h1, h2, e.get _ _ h3 nt_ins⟩
theorem Cell.same {a : Addr} {ys : List V} {k : Kd} (h : Cell K H a ys k) (e : ∀ o, H a = some o → H' a = some o) : Cell K H' a ys k := by
  cases k with
  | tup => exact e _ h
  | lst => exact e _ h
  | scr => exact h
  | dct ks => exact ⟨h.1, e _ h.2⟩
  | obj C fs => exact h
  | ins n fs => obtain ⟨C, dx, h1, h2, h3⟩ := h; exact ⟨C, dx, h1, h2, e _ h3⟩
theorem SqT.same {a : Addr} {ys : List V} (h : SqT K Z a ys) (e : Same Z Z') : SqT K Z' a ys := by
  rcases h with (h | ⟨o, h⟩) | h
  · exact .inl (.inl (e _ _ h))
  · exact .inl (.inr ⟨o, e _ _ h⟩)
  · exact .inr h
theorem Frd.same {a : Addr} {ys : List V} {k : Kd} (h : Frd K Z a ys k) (e : Same Z Z') : Frd K Z' a ys k := by
  cases k with
  | tup => exact SqT.same h e
  | lst => exact e _ _ h
  | scr => exact Same.seq e h
  | dct ks => exact ⟨h.1, e _ _ h.2⟩
  | obj n fs =>
    obtain ⟨C, dd, h1, h2, h3⟩ := h
    refine ⟨C, dd, h1, e _ _ h2, ?_⟩
    rcases h3 with h3 | ⟨d, r1, r2, r3⟩
    · exact .inl h3
    · exact .inr ⟨d, r1, r2, e _ _ r3⟩
  | ins n fs => obtain ⟨C, dx, h1, h2, h3⟩ := h; exact ⟨C, dx, h1, h2, e _ _ h3⟩
theorem rep_own {k : Kd} {ds : List D} {v : V} (hk : k ≠ .tup) : Rep K Z H (.node true k ds) v S = (∃ a ys S', v = .ref a ∧ Cell K H a ys k ∧ S a ∧ ¬ S' a ∧ (∀ b, S' b → S b) ∧ RepL K Z H ds ys S') := by
  cases k <;> first | exact absurd rfl hk | rfl
theorem plain_own {k : Kd} {ds : List D} (hk : k ≠ .tup) : D.plain (.node true k ds) = false := by
  cases k <;> first | exact absurd rfl hk | rfl
theorem plain_shr {k : Kd} {ds : List D} : D.plain (.node false k ds) = plainL ds := by
  cases k <;> simp [D.plain]
theorem frz_own {o : Bool} {k : Kd} {ds : List D} (hk : k ≠ .tup) : D.frz (.node o k ds) = .node false k (frzL ds) := by
  cases k <;> first | exact absurd rfl hk | rfl
theorem frz_shr {k : Kd} {ds : List D} : D.frz (.node false k ds) = .node false k (frzL ds) := by
  cases k <;> rfl
theorem Cell.frd {a : Addr} {ys : List V} {k : Kd} (h : Cell K Z a ys k) : Frd K Z a ys k := by
  cases k with
  | tup => exact SqT.of h
  | lst => exact h
  | scr => exact h.elim
  | dct ks => exact h
  | obj C fs => exact h.elim
  | ins n fs => exact h
mutual
/-- the data stay where what they lean on stays -/
theorem Rep.mv : ∀ {d : D} {v : V} {S S' : Fp}, Rep K Z H d v S → Same Z Z' → (∀ a o, S a → H a = some o → NT o → H' a = some o) → (∀ a, S a → S' a) → Rep K Z' H' d v S'
  | .non, _, _, _, h, _, _, _ => h
  | .bl _, _, _, _, h, _, _, _ => h
  | .int _, _, _, _, h, _, _, _ => h
  | .str _, _, _, _, h, _, _, _ => h
  | .op _, _, _, _, h, _, _, _ => h
  | .node false k ds, v, S, S', h, z, k1, m => by
    obtain ⟨a, ys, e, c, r⟩ := h
    exact ⟨a, ys, e, c.same z, RepL.mv r z k1 m⟩
  | .node true k ds, v, S, S', h, z, k1, m => by
    by_cases hk : k = .tup
    · subst hk
      obtain ⟨a, ys, e, c, r⟩ := h
      exact ⟨a, ys, e, ⟨Pm.SqT.same c.1 z, c.2.same z⟩, RepL.mv r z k1 m⟩
    rw [rep_own hk] at h ⊢
    obtain ⟨a, ys, T, e, c, sa, na, sub, r⟩ := h
    exact ⟨a, ys, T, e, c.sam fun o q => k1 a o sa q, m a sa, na, fun b hb => m b (sub b hb), RepL.mv r z (fun b o hb => k1 b o (sub b hb)) fun _ x => x⟩
theorem RepL.mv : ∀ {ds : List D} {vs : List V} {S S' : Fp}, RepL K Z H ds vs S → Same Z Z' → (∀ a o, S a → H a = some o → NT o → H' a = some o) → (∀ a, S a → S' a) → RepL K Z' H' ds vs S'
  | [], [], _, _, _, _, _, _ => trivial
  | [], _ :: _, _, _, h, _, _, _ => h.elim
  | _ :: _, [], _, _, h, _, _, _ => h.elim
  | d :: ds, v :: vs, S, S', h, z, k1, m => by
    obtain ⟨S1, S2, s1, s2, dj, r, q⟩ := h
    exact ⟨S1, S2, fun b hb => m b (s1 b hb), fun b hb => m b (s2 b hb), dj, Rep.mv r z (fun b o hb => k1 b o (s1 b hb)) fun _ x => x, RepL.mv q z (fun b o hb => k1 b o (s2 b hb)) fun _ x => x⟩
end
theorem Rep.move {d : D} {v : V} {S S' : Fp} (h : Rep K Z H d v S) (z : Same Z Z') (k : ∀ a o, S a → H a = some o → H' a = some o) (m : ∀ a, S a → S' a) : Rep K Z' H' d v S' := Rep.mv h z (fun a o s e _ => k a o s e) m
theorem RepL.move {ds : List D} {vs : List V} {S S' : Fp} (h : RepL K Z H ds vs S) (z : Same Z Z') (k : ∀ a o, S a → H a = some o → H' a = some o) (m : ∀ a, S a → S' a) : RepL K Z' H' ds vs S' := RepL.mv h z (fun a o s e _ => k a o s e) m
mutual
theorem Rep.plain : ∀ {d : D} {v : V} {S : Fp}, Rep K Z H d v S → d.plain = true → Rep K Z H' d v Fp0
  | .non, _, _, h, _ => h
  | .bl _, _, _, h, _ => h
  | .int _, _, _, h, _ => h
  | .str _, _, _, h, _ => h
  | .op _, _, _, h, _ => h
  | .node false k ds, v, S, h, p => by
    obtain ⟨a, ys, e, c, r⟩ := h
    rw [plain_shr] at p
    exact ⟨a, ys, e, c, RepL.plain r p⟩
  | .node true k ds, v, S, h, p => by
    by_cases hk : k = .tup
    · subst hk
      obtain ⟨a, ys, e, c, r⟩ := h
      rw [D.plain] at p
      exact ⟨a, ys, e, c, RepL.plain r p⟩
    rw [plain_own hk] at p
    exact absurd p (by decide)
theorem RepL.plain : ∀ {ds : List D} {vs : List V} {S : Fp}, RepL K Z H ds vs S → plainL ds = true → RepL K Z H' ds vs Fp0
  | [], [], _, _, _ => trivial
  | [], _ :: _, _, h, _ => h.elim
  | _ :: _, [], _, h, _ => h.elim
  | d :: ds, v :: vs, S, h, p => by
    obtain ⟨S1, S2, s1, s2, dj, r, q⟩ := h
    rw [plainL, Bool.and_eq_true] at p
    exact ⟨Fp0, Fp0, fun _ x => x, fun _ x => x, fun _ x _ => x, Rep.plain r p.1, RepL.plain q p.2⟩
end
/-- Z with what stands at S -/
noncomputable def thaw (Z H : Hp) (S : Fp) : Hp := fun a => open Classical in if S a then H a else Z a
theorem thaw_in {a : Addr} (h : S a) : thaw Z H S a = H a := by unfold thaw; rw [if_pos h]
theorem thaw_out {a : Addr} (h : ¬ S a) : thaw Z H S a = Z a := by unfold thaw; rw [if_neg h]
theorem thaw_same (sep : ∀ a, S a → Z a = none) : Same Z (thaw Z H S) := fun a o e => by
  by_cases h : S a
  · rw [sep a h] at e; cases e
  · rw [thaw_out h]; exact e
theorem thaw_le (s : Sam Z H) : Sam (thaw Z H S) H := ⟨fun a o e n => by
  by_cases h : S a
  · rw [thaw_in h] at e; exact e
  · rw [thaw_out h] at e; exact s.get _ _ e n⟩
mutual
theorem Rep.frz : ∀ {d : D} {v : V} {T : Fp}, Rep K Z H d v T → (∀ a, S a → Z a = none) → (∀ a, T a → S a) → Rep K (thaw Z H S) H' d.frz v Fp0
  | .non, _, _, h, _, _ => h
  | .bl _, _, _, h, _, _ => h
  | .int _, _, _, h, _, _ => h
  | .str _, _, _, h, _, _ => h
  | .op _, _, _, h, _, _ => h
  | .node false k ds, v, T, h, sep, m => by
    obtain ⟨a, ys, e, c, r⟩ := h
    rw [frz_shr]
    exact ⟨a, ys, e, c.same (thaw_same sep), RepL.frz r sep m⟩
  | .node true k ds, v, T, h, sep, m => by
    by_cases hk : k = .tup
    · subst hk
      obtain ⟨a, ys, e, c, r⟩ := h
      rw [D.frz]
      exact ⟨a, ys, e, ⟨Pm.SqT.same c.1 (thaw_same sep), c.2.same (thaw_same sep)⟩, RepL.frz r sep m⟩
    rw [rep_own hk] at h
    rw [frz_own hk]
    obtain ⟨a, ys, T', e, c, sa, na, sub, r⟩ := h
    exact ⟨a, ys, e, (c.same fun o q => by rw [thaw_in (m a sa)]; exact q).frd, RepL.frz r sep fun b hb => m b (sub b hb)⟩
theorem RepL.frz : ∀ {ds : List D} {vs : List V} {T : Fp}, RepL K Z H ds vs T → (∀ a, S a → Z a = none) → (∀ a, T a → S a) → RepL K (thaw Z H S) H' (frzL ds) vs Fp0
  | [], [], _, _, _, _ => trivial
  | [], _ :: _, _, h, _, _ => h.elim
  | _ :: _, [], _, h, _, _ => h.elim
  | d :: ds, v :: vs, T, h, sep, m => by
    obtain ⟨S1, S2, s1, s2, dj, r, q⟩ := h
    exact ⟨Fp0, Fp0, fun _ x => x, fun _ x => x, fun _ x _ => x, Rep.frz r sep fun b hb => m b (s1 b hb), RepL.frz q sep fun b hb => m b (s2 b hb)⟩
end
theorem rep_frd {b : Bool} {k : Kd} {ds : List D} {v : V} (h : Rep K Z H (D.frz (.node b k ds)) v S) : ∃ a ys, v = .ref a ∧ Frd K Z a ys k ∧ RepL K Z H (frzL ds) ys S := by
  by_cases hk : k = .tup
  · subst hk
    cases b with
    | false => exact h
    | true =>
      obtain ⟨a, ys, e, c, r⟩ := h
      exact ⟨a, ys, e, c.1, r⟩
  · rw [frz_own hk] at h
    exact h
/-- a tuple, no matter what is known of it -/
theorem rep_wk {b : Bool} {ds : List D} {v : V} (h : Rep K Z H (.node b .tup ds) v S) : Rep K Z H (.tup ds) v S := by
  cases b with
  | false => exact h
  | true =>
    obtain ⟨a, ys, e, c, r⟩ := h
    exact ⟨a, ys, e, c.1, r⟩
theorem rep_ref {b : Bool} {k : Kd} {ds : List D} {v : V} (h : Rep K Z H (.node b k ds) v S) : ∃ a, v = .ref a := by
  cases b with
  | false => obtain ⟨a, _, e, _⟩ := h; exact ⟨a, e⟩
  | true =>
    by_cases hk : k = .tup
    · subst hk
      obtain ⟨a, _, e, _⟩ := h; exact ⟨a, e⟩
    · rw [rep_own hk] at h
      obtain ⟨a, _, _, e, _⟩ := h; exact ⟨a, e⟩
theorem RepL.length : ∀ {ds : List D} {vs : List V} {S : Fp}, RepL K Z H ds vs S → ds.length = vs.length
  | [], [], _, _ => rfl
  | [], _ :: _, _, h => h.elim
  | _ :: _, [], _, h => h.elim
  | _ :: ds, _ :: vs, _, ⟨_, _, _, _, _, _, q⟩ => by rw [List.length_cons, List.length_cons, RepL.length q]
theorem RepL.get : ∀ {ds : List D} {vs : List V} {S : Fp} {i : Nat} {d : D}, RepL K Z H ds vs S → ds[i]? = some d → ∃ v, vs[i]? = some v ∧ Rep K Z H d v S
  | [], _, _, _, _, _, e => by simp at e
  | _ :: _, [], _, _, _, h, _ => h.elim
  | d :: ds, v :: vs, S, 0, d', h, e => by
    obtain ⟨S1, S2, s1, s2, dj, r, q⟩ := h
    simp only [List.getElem?_cons_zero, Option.some.injEq] at e
    subst e
    exact ⟨v, rfl, Rep.move r (Same.refl Z) (fun _ _ _ x => x) s1⟩
  | d :: ds, v :: vs, S, i + 1, d', h, e => by
    obtain ⟨S1, S2, s1, s2, dj, r, q⟩ := h
    simp only [List.getElem?_cons_succ] at e
    obtain ⟨u, hu, ru⟩ := RepL.get q e
    exact ⟨u, by simpa using hu, Rep.move ru (Same.refl Z) (fun _ _ _ x => x) s2⟩
theorem RepL.none_of {ds : List D} {vs : List V} {i : Nat} (h : RepL K Z H ds vs S) (e : ds[i]? = none) : vs[i]? = none := by
  rw [List.getElem?_eq_none_iff] at e ⊢
  rw [← h.length]; exact e
theorem RepL.append : ∀ {ds es : List D} {vs ws : List V} {S1 S2 T : Fp}, RepL K Z H ds vs S1 → RepL K Z H es ws S2 → (∀ a, S1 a → T a) → (∀ a, S2 a → T a) → (∀ a, S1 a → S2 a → False) → RepL K Z H (ds ++ es) (vs ++ ws) T
  | [], es, [], ws, S1, S2, T, _, h2, _, m2, _ => RepL.move h2 (Same.refl Z) (fun _ _ _ x => x) m2
  | [], _, _ :: _, _, _, _, _, h, _, _, _, _ => h.elim
  | _ :: _, _, [], _, _, _, _, h, _, _, _, _ => h.elim
  | d :: ds, es, v :: vs, ws, S1, S2, T, h, h2, m1, m2, dj => by
    obtain ⟨T1, T2, t1, t2, tj, r, q⟩ := h
    refine ⟨T1, fun a => T2 a ∨ S2 a, fun a x => m1 a (t1 a x), fun a x => x.elim (fun y => m1 a (t2 a y)) (m2 a), fun a x y => y.elim (tj a x) (dj a (t1 a x)), r, ?_⟩
    exact RepL.append (T := fun a => T2 a ∨ S2 a) q h2 (fun a x => Or.inl x) (fun a x => Or.inr x) fun a x y => dj a (t2 a x) y
/-- one item taken out of its place (an int stands there), the rest apart from it -/
theorem RepL.take : ∀ {ds : List D} {vs : List V} {S : Fp} {i : Nat} {d : D}, RepL K Z H ds vs S → ds[i]? = some d →
    ∃ v, ∃ S1 S2 : Fp, vs[i]? = some v ∧ (∀ a, S1 a → S a) ∧ (∀ a, S2 a → S a) ∧ (∀ a, S1 a → S2 a → False) ∧ Rep K Z H d v S1 ∧
      ∀ (Z' H' : Hp) (e : D) (w : V) (T1 T : Fp), Same Z Z' → (∀ a o, S2 a → H a = some o → H' a = some o) → Rep K Z' H' e w T1 → (∀ a, T1 a → T a) → (∀ a, S2 a → T a) → (∀ a, T1 a → S2 a → False) → RepL K Z' H' (ds.set i e) (vs.set i w) T
  | [], _, _, _, _, _, e => by simp at e
  | _ :: _, [], _, _, _, h, _ => h.elim
  | d :: ds, v :: vs, S, 0, d', h, e => by
    obtain ⟨S1, S2, s1, s2, dj, r, q⟩ := h
    simp only [List.getElem?_cons_zero, Option.some.injEq] at e
    subst e
    exact ⟨v, S1, S2, rfl, s1, s2, dj, r, fun Z' H' e w T1 T z k r' m1 m2 dj' => ⟨T1, S2, m1, m2, dj', r', RepL.move q z k fun _ x => x⟩⟩
  | d :: ds, v :: vs, S, i + 1, d', h, e => by
    obtain ⟨S1, S2, s1, s2, dj, r, q⟩ := h
    simp only [List.getElem?_cons_succ] at e
    obtain ⟨u, U1, U2, hu, u1, u2, uj, ru, f⟩ := RepL.take q e
    refine ⟨u, U1, fun a => S1 a ∨ U2 a, by simpa using hu, fun a x => s2 a (u1 a x), fun a x => x.elim (s1 a) fun y => s2 a (u2 a y), fun a x y => y.elim (fun z => dj a z (u1 a x)) (uj a x), ru, ?_⟩
    intro Z' H' e w T1 T z k r' m1 m2 dj'
    refine ⟨S1, fun a => T1 a ∨ U2 a, fun a x => m2 a (.inl x), fun a x => x.elim (m1 a) fun y => m2 a (.inr y), fun a x y => y.elim (fun t => dj' a t (.inl x)) fun t => dj a x (u2 a t), Rep.move r z (fun a o x => k a o (.inl x)) fun _ x => x, ?_⟩
    exact f Z' H' e w T1 _ z (fun a o x => k a o (.inr x)) r' (fun a x => .inl x) (fun a x => .inr x) fun a x y => dj' a x (.inr y)
end
/-- the mark that a table of code objects of the name q stands somewhere -/
def mark (q : Str) : HO := .tbl #[.str q 0]
theorem mark_inj {q q' : Str} (h : mark q = mark q') : q = q' := by
  unfold mark at h
  simpa using h
/-- the names of the module that K tells -/
def topNames (K : PySem.W.Frag) : List Str := match K.lookup mainGlobals with
  | some ⟨_, _, .dict es _, _⟩ => es.toList.filterMap fun e => match e.key with
    | .str s _ => some s
    | _ => none
  | _ => []
/-- defs with their code objects and the tables of these -/
def tabN (K : PySem.W.Frag) (x : Str) : Option (Addr × Addr) := match PySem.W.tabIn K x with
  | some cp => if (K.lookup cp.2).isNone then some cp else none
  | none => none
theorem tabN_in {K : PySem.W.Frag} {x : Str} {cp : Addr × Addr} (h : tabN K x = some cp) : PySem.W.tabIn K x = some cp := by
  unfold tabN at h
  split at h
  · rename_i e
    split at h
    · cases h
      exact e
    · cases h
  · cases h
def tabsK (K : PySem.W.Frag) : List (Str × Addr × Addr) := (topNames K).filterMap fun x => (tabN K x).map fun cp => (x, cp.1, cp.2)
def lamName (x : Str) : Str := (x ++ ".<locals>.") ++ "<lambda>"
/-- the tables are marked -/
def Marks (K : PySem.W.Frag) (Z : Hp) : Prop := ∀ t ∈ tabsK K, Z t.2.2 = some (mark (lamName t.1))
theorem Marks.same {K : PySem.W.Frag} {Z Z' : Hp} (m : Marks K Z) (s : Same Z Z') : Marks K Z' := fun t ht => s _ _ (m t ht)
abbrev Env := List (Option D)
def EnvR (K : PySem.W.Frag) (Z H : Hp) : Env → Sl → Fp → Prop
  | [], [], _ => Marks K Z
  | none :: ρ, _ :: σ, S => EnvR K Z H ρ σ S
  | some d :: ρ, some v :: σ, S => ∃ S1 S2 : Fp, (∀ a, S1 a → S a) ∧ (∀ a, S2 a → S a) ∧ (∀ a, S1 a → S2 a → False) ∧ Rep K Z H d v S1 ∧ EnvR K Z H ρ σ S2
  | _, _, _ => False
section
variable {K : PySem.W.Frag} {Z Z' H H' : Hp} {S S' : Fp}
theorem EnvR.marks : ∀ {ρ : Env} {σ : Sl} {S : Fp}, EnvR K Z H ρ σ S → Marks K Z
  | [], [], _, h => h
  | [], _ :: _, _, h => h.elim
  | none :: _, [], _, h => h.elim
  | some _ :: _, [], _, h => h.elim
  | none :: ρ, _ :: σ, S, h => EnvR.marks (ρ := ρ) (σ := σ) h
  | some _ :: ρ, none :: σ, S, h => h.elim
  | some _ :: ρ, some _ :: σ, S, ⟨_, _, _, _, _, _, q⟩ => q.marks
theorem EnvR.length : ∀ {ρ : Env} {σ : Sl} {S : Fp}, EnvR K Z H ρ σ S → ρ.length = σ.length
  | [], [], _, _ => rfl
  | [], _ :: _, _, h => h.elim
  | none :: _, [], _, h => h.elim
  | some _ :: _, [], _, h => h.elim
  | none :: ρ, _ :: σ, S, h => by rw [List.length_cons, List.length_cons, EnvR.length (ρ := ρ) (σ := σ) h]
  | some _ :: ρ, none :: σ, S, h => h.elim
  | some _ :: ρ, some _ :: σ, S, ⟨_, _, _, _, _, _, q⟩ => by rw [List.length_cons, List.length_cons, EnvR.length q]
theorem EnvR.mv : ∀ {ρ : Env} {σ : Sl} {S S' : Fp}, EnvR K Z H ρ σ S → Same Z Z' → (∀ a o, S a → H a = some o → NT o → H' a = some o) → (∀ a, S a → S' a) → EnvR K Z' H' ρ σ S'
  | [], [], _, _, h, z, _, _ => h.same z
  | [], _ :: _, _, _, h, _, _, _ => h.elim
  | none :: _, [], _, _, h, _, _, _ => h.elim
  | some _ :: _, [], _, _, h, _, _, _ => h.elim
  | none :: ρ, _ :: σ, S, S', h, z, k, m => EnvR.mv (ρ := ρ) (σ := σ) h z k m
  | some _ :: _, none :: _, _, _, h, _, _, _ => h.elim
  | some d :: ρ, some v :: σ, S, S', h, z, k, m => by
    obtain ⟨S1, S2, s1, s2, dj, r, q⟩ := h
    exact ⟨S1, S2, fun b hb => m b (s1 b hb), fun b hb => m b (s2 b hb), dj, Rep.mv r z (fun b o hb => k b o (s1 b hb)) fun _ x => x, EnvR.mv q z (fun b o hb => k b o (s2 b hb)) fun _ x => x⟩
theorem EnvR.move {ρ : Env} {σ : Sl} {S S' : Fp} (h : EnvR K Z H ρ σ S) (z : Same Z Z') (k : ∀ a o, S a → H a = some o → H' a = some o) (m : ∀ a, S a → S' a) : EnvR K Z' H' ρ σ S' := EnvR.mv h z (fun a o s e _ => k a o s e) m
/-- a slot is taken -/
theorem EnvR.take : ∀ {ρ : Env} {σ : Sl} {S : Fp} {i : Nat} {d : D}, EnvR K Z H ρ σ S → ρ[i]? = some (some d) →
    ∃ v, ∃ S1 S2 : Fp, σ[i]? = some (some v) ∧ (∀ a, S1 a → S a) ∧ (∀ a, S2 a → S a) ∧ (∀ a, S1 a → S2 a → False) ∧ Rep K Z H d v S1 ∧ EnvR K Z H (ρ.set i none) σ S2
  | [], _, _, _, _, _, e => by simp at e
  | none :: _, [], _, _, _, h, _ => h.elim
  | some _ :: _, [], _, _, _, h, _ => h.elim
  | none :: ρ, y :: σ, S, 0, d, h, e => by simp at e
  | none :: ρ, y :: σ, S, i + 1, d, h, e => by
    simp only [List.getElem?_cons_succ] at e
    obtain ⟨v, S1, S2, hv, s1, s2, dj, r, q⟩ := EnvR.take (ρ := ρ) (σ := σ) h e
    exact ⟨v, S1, S2, by simpa using hv, s1, s2, dj, r, q⟩
  | some _ :: _, none :: _, _, _, _, h, _ => h.elim
  | some d' :: ρ, some v :: σ, S, 0, d, h, e => by
    obtain ⟨S1, S2, s1, s2, dj, r, q⟩ := h
    simp only [List.getElem?_cons_zero, Option.some.injEq] at e
    subst e
    exact ⟨v, S1, S2, rfl, s1, s2, dj, r, q⟩
  | some d' :: ρ, some v' :: σ, S, i + 1, d, h, e => by
    obtain ⟨T1, T2, t1, t2, tj, tr, tq⟩ := h
    simp only [List.getElem?_cons_succ] at e
    obtain ⟨v, S1, S2, hv, s1, s2, dj, r, q⟩ := EnvR.take tq e
    refine ⟨v, S1, fun a => T1 a ∨ S2 a, by simpa using hv, fun a x => t2 a (s1 a x), fun a x => x.elim (t1 a) fun y => t2 a (s2 a y), fun a x y => y.elim (fun z => tj a z (s1 a x)) (dj a x), r, ?_⟩
    exact ⟨T1, S2, fun a x => .inl x, fun a x => .inr x, fun a x y => tj a x (s2 a y), tr, q⟩
/-- a slot is filled -/
theorem EnvR.put : ∀ {ρ : Env} {σ : Sl} {S1 S2 S : Fp} {i : Nat} {d : D} {v : V}, EnvR K Z H (ρ.set i none) σ S2 → i < ρ.length → Rep K Z H d v S1 → (∀ a, S1 a → S a) → (∀ a, S2 a → S a) → (∀ a, S1 a → S2 a → False) →
    EnvR K Z H (ρ.set i (some d)) (σ.set i (some v)) S
  | [], _, _, _, _, _, _, _, _, l, _, _, _, _ => by simp at l
  | _ :: _, [], _, _, _, 0, _, _, h, _, _, _, _, _ => h.elim
  | none :: _, [], _, _, _, _ + 1, _, _, h, _, _, _, _, _ => h.elim
  | some _ :: _, [], _, _, _, _ + 1, _, _, h, _, _, _, _, _ => h.elim
  | x :: ρ, y :: σ, S1, S2, S, 0, d, v, h, _, r, m1, m2, dj => ⟨S1, S2, m1, m2, dj, r, h⟩
  | none :: ρ, y :: σ, S1, S2, S, i + 1, d, v, h, l, r, m1, m2, dj => EnvR.put (ρ := ρ) (σ := σ) h (by simpa using l) r m1 m2 dj
  | some _ :: _, none :: _, _, _, _, _ + 1, _, _, h, _, _, _, _, _ => h.elim
  | some d' :: ρ, some v' :: σ, S1, S2, S, i + 1, d, v, h, l, r, m1, m2, dj => by
    obtain ⟨T1, T2, t1, t2, tj, tr, tq⟩ := h
    refine ⟨T1, fun a => S1 a ∨ T2 a, fun a x => m2 a (t1 a x), fun a x => x.elim (m1 a) fun y => m2 a (t2 a y), fun a x y => y.elim (fun z => dj a z (t1 a x)) (tj a x), tr, ?_⟩
    exact EnvR.put tq (by simpa using l) r (fun a x => .inl x) (fun a x => .inr x) fun a x y => dj a x (t2 a y)
/-- a slot forgotten -/
theorem EnvR.drop : ∀ {ρ : Env} {σ : Sl} {S : Fp} (i : Nat), EnvR K Z H ρ σ S → EnvR K Z H (ρ.set i none) σ S
  | [], [], _, _, h => h
  | [], _ :: _, _, _, h => h.elim
  | none :: _, [], _, _, h => h.elim
  | some _ :: _, [], _, _, h => h.elim
  | none :: ρ, _ :: σ, S, 0, h => h
  | none :: ρ, _ :: σ, S, i + 1, h => EnvR.drop (ρ := ρ) (σ := σ) i h
  | some _ :: _, none :: _, _, _, h => h.elim
  | some d :: ρ, some v :: σ, S, 0, ⟨S1, S2, s1, s2, dj, r, q⟩ => EnvR.move q (Same.refl Z) (fun _ _ _ x => x) s2
  | some d :: ρ, some v :: σ, S, i + 1, ⟨S1, S2, s1, s2, dj, r, q⟩ => ⟨S1, S2, s1, s2, dj, r, EnvR.drop i q⟩
/-- what stands in a slot that is not known does not matter -/
theorem EnvR.any : ∀ {ρ : Env} {σ : Sl} {S : Fp} {i : Nat} (y : Option V), EnvR K Z H ρ σ S → ρ[i]? = some none → EnvR K Z H ρ (σ.set i y) S
  | [], _, _, _, _, _, e => by simp at e
  | none :: _, [], _, _, _, h, _ => h.elim
  | some _ :: _, [], _, _, _, h, _ => h.elim
  | none :: ρ, _ :: σ, S, 0, y, h, _ => h
  | none :: ρ, _ :: σ, S, i + 1, y, h, e => EnvR.any (ρ := ρ) (σ := σ) (i := i) y h (by simpa using e)
  | some _ :: _, none :: _, _, _, _, h, _ => h.elim
  | some d :: ρ, some v :: σ, S, 0, y, h, e => by simp at e
  | some d :: ρ, some v :: σ, S, i + 1, y, ⟨S1, S2, s1, s2, dj, r, q⟩, e => ⟨S1, S2, s1, s2, dj, r, EnvR.any y q (by simpa using e)⟩
end
/-- the tables that Z marks are tables in H; each code object that they tell bears its name -/
def Tb (Z H : Hp) : Prop := ∃ L : List (Addr × Str), (∀ P ps, Z P = some (.tbl ps) → ∃ q, HO.tbl ps = mark q ∧ (P, q) ∈ L) ∧ ∀ p ∈ L, Z p.1 = some (mark p.2) ∧ LamX.TabS H p.1 p.2
structure Wd (Z H : Hp) (S : Fp) : Prop where
  same : Sam Z H
  sep : ∀ a, S a → Z a = none
  own : ∀ a, S a → ∃ o, H a = some o ∧ NW o
  tabs : Tb Z H
theorem Wd.dom {Z H : Hp} {S : Fp} (w : Wd Z H S) (a : Addr) (x : S a) : H a ≠ none := by
  obtain ⟨o, e, _⟩ := w.own a x
  rw [e]
  exact fun q => nomatch q
/-- nothing but a table may stand there -/
def Fre (H : Hp) (a : Addr) : Prop := ∀ o, H a = some o → ¬ NT o
theorem Fre.of {H : Hp} {a : Addr} (n : H a = none) : Fre H a := fun o e => by rw [n] at e; cases e
theorem Wd.live {Z H : Hp} {S : Fp} (w : Wd Z H S) (a : Addr) (x : S a) : ¬ Fre H a := fun f => by
  obtain ⟨o, e, n⟩ := w.own a x
  exact f o e n.1
structure Step (Z H : Hp) (S : Fp) (Z' H' : Hp) (S' : Fp) : Prop where
  wd : Wd Z' H' S'
  zz : Same Z Z'
  fr : ∀ a o, ¬ S a → H a = some o → NT o → H' a = some o
  new : ∀ a, S' a → S a ∨ Fre H a
  znew : ∀ a o, Z' a = some o → Z a = some o ∨ S a ∨ Fre H a
section
variable {Z Z1 Z2 H H1 H2 : Hp} {S S1 S2 T : Fp}
theorem Step.free (a : Step Z H S Z1 H1 S1) {x : Addr} (n : ¬ S x) (e : Fre H1 x) : Fre H x := fun o q t => e o (a.fr x o n q t) t
theorem Tb.isT {P : Addr} {ps : Array Value} (t : Tb Z H) (e : Z P = some (.tbl ps)) : ∃ ps', H P = some (.tbl ps') := by
  obtain ⟨L, h1, h2⟩ := t
  obtain ⟨q, _, m⟩ := h1 P ps e
  obtain ⟨_, ps', e2, _⟩ := h2 _ m
  exact ⟨ps', e2⟩
theorem Tb.ext (t : Tb Z H) (z1 : ∀ P ps, Z1 P = some (.tbl ps) → Z P = some (.tbl ps)) (z2 : Same Z Z1) (k : ∀ b o, H b = some o → ((∃ ps, o = .tbl ps) ∨ ∃ φ, o = .ext φ) → H1 b = some o) : Tb Z1 H1 := by
  obtain ⟨L, h1, h2⟩ := t
  refine ⟨L, fun P ps e => h1 P ps (z1 P ps e), fun p hp => ?_⟩
  obtain ⟨e1, ps, e2, e3, e4⟩ := h2 p hp
  refine ⟨z2 _ _ e1, ps, k _ _ e2 (.inl ⟨ps, rfl⟩), e3, fun pos cv hc => ?_⟩
  obtain ⟨c, r1, r2⟩ := e4 pos cv hc
  exact ⟨c, r1, k _ _ r2 (.inr ⟨_, rfl⟩)⟩
theorem Step.refl (w : Wd Z H S) : Step Z H S Z H S := ⟨w, Same.refl Z, fun _ _ _ e _ => e, fun _ x => .inl x, fun _ _ e => .inl e⟩
theorem Step.trans (a : Step Z H S Z1 H1 S1) (b : Step Z1 H1 S1 Z2 H2 S2) : Step Z H S Z2 H2 S2 where
  wd := b.wd
  zz := a.zz.trans b.zz
  fr := fun x o n e t => b.fr x o (fun q => (a.new x q).elim n fun z => z o e t) (a.fr x o n e t) t
  new := fun x q => by
    rcases b.new x q with h | h
    · exact a.new x h
    · by_cases hs : S x
      · exact .inl hs
      · exact .inr (a.free hs h)
  znew := fun x o q => by
    rcases b.znew x o q with h | h | h
    · exact a.znew x o h
    · rcases a.new x h with h | h
      · exact .inr (.inl h)
      · exact .inr (.inr h)
    · by_cases hs : S x
      · exact .inr (.inl hs)
      · exact .inr (.inr (a.free hs h))
theorem Wd.less (w : Wd Z H S) (m : ∀ a, S1 a → S a) : Wd Z H S1 := ⟨w.same, fun a x => w.sep a (m a x), fun a x => w.own a (m a x), w.tabs⟩
/-- a part of what is owned is put aside -/
theorem Step.less (a : Step Z H S Z1 H1 S1) (m : ∀ a, S2 a → S1 a) : Step Z H S Z1 H1 S2 := ⟨a.wd.less m, a.zz, a.fr, fun x q => a.new x (m x q), a.znew⟩
/-- a step of a part is a step of the whole: T is put aside -/
theorem Step.frame (a : Step Z H S Z1 H1 S1) (w : Wd Z H (fun x => S x ∨ T x)) (dj : ∀ x, S x → T x → False) : Step Z H (fun x => S x ∨ T x) Z1 H1 (fun x => S1 x ∨ T x) where
  wd := ⟨a.wd.same, fun x q => q.elim (a.wd.sep x) fun t => by
      cases e : Z1 x with
      | none => rfl
      | some o =>
        rcases a.znew x o e with h | h | h
        · rw [w.sep x (.inr t)] at h; cases h
        · exact (dj x h t).elim
        · exact (w.live x (.inr t) h).elim, fun x q => q.elim (a.wd.own x) fun t => by
      obtain ⟨o, e, n⟩ := w.own x (.inr t)
      exact ⟨o, a.fr x o (fun h => dj x h t) e n.1, n⟩, a.wd.tabs⟩
  zz := a.zz
  fr := fun x o n e => a.fr x o (fun q => n (.inl q)) e
  new := fun x q => q.elim (fun h => (a.new x h).elim (fun z => .inl (.inl z)) .inr) fun t => .inl (.inr t)
  znew := fun x o e => (a.znew x o e).elim .inl fun h => h.elim (fun z => .inr (.inl (.inl z))) fun z => .inr (.inr z)
theorem Step.apart (a : Step Z H S Z1 H1 S1) (w : ∀ x, T x → ¬ Fre H x) (dj : ∀ x, S x → T x → False) : ∀ x, S1 x → T x → False := fun x q t => (a.new x q).elim (fun h => dj x h t) fun h => w x t h
/-- what is put aside stays -/
theorem Step.stay {K : PySem.W.Frag} {d : D} {v : V} (a : Step Z H S Z1 H1 S1) (dj : ∀ x, S x → T x → False) (r : Rep K Z H d v T) : Rep K Z1 H1 d v T := r.mv a.zz (fun x o t e n => a.fr x o (fun h => dj x h t) e n) fun _ x => x
theorem Step.stayL {K : PySem.W.Frag} {ds : List D} {vs : List V} (a : Step Z H S Z1 H1 S1) (dj : ∀ x, S x → T x → False) (r : RepL K Z H ds vs T) : RepL K Z1 H1 ds vs T := r.mv a.zz (fun x o t e n => a.fr x o (fun h => dj x h t) e n) fun _ x => x
theorem Step.stayE {K : PySem.W.Frag} {ρ : Env} {σ : Sl} (a : Step Z H S Z1 H1 S1) (dj : ∀ x, S x → T x → False) (r : EnvR K Z H ρ σ T) : EnvR K Z1 H1 ρ σ T := r.mv a.zz (fun x o t e n => a.fr x o (fun h => dj x h t) e n) fun _ x => x
/-- a new object, owned -/
theorem Step.alloc {p : Addr} {o : HO} (w : Wd Z H S) (n : H p = none) (hn : NW o := by constructor <;> (intro ps e; cases e)) : Step Z H S Z (upd H p o) (fun a => S a ∨ a = p) where
  wd := ⟨⟨fun a u e t => by rw [upd_ne (ne_of_none (w.same.get a u e t) n)]; exact w.same.get a u e t⟩, fun a q => q.elim (w.sep a) fun e => by
      subst e
      cases e : Z a with
      | none => rfl
      | some u =>
        rcases nt_or u with ⟨ps, rfl⟩ | t
        · obtain ⟨ps', h1⟩ := w.tabs.isT e
          rw [n] at h1
          cases h1
        · exact absurd ((w.same.get a u e t).symm.trans n) (fun z => nomatch z), fun a q => by
      by_cases h : a = p
      · subst h; exact ⟨o, upd_same, hn⟩
      · obtain ⟨u, e, t⟩ := w.own a (q.resolve_right h)
        exact ⟨u, by rw [upd_ne h]; exact e, t⟩, w.tabs.ext (fun _ _ e => e) (Same.refl Z) fun b u e _ => by rw [upd_ne (ne_of_none e n)]; exact e⟩
  zz := Same.refl Z
  fr := fun a u _ e _ => by rw [upd_ne (ne_of_none e n)]; exact e
  new := fun a q => q.elim .inl fun h => by subst h; exact .inr (Fre.of n)
  znew := fun _ _ e => .inl e
theorem Wd.zfree {p : Addr} (w : Wd Z H S) (n : H p = none) : Z p = none := by
  cases e : Z p with
  | none => rfl
  | some u =>
    rcases nt_or u with ⟨ps, rfl⟩ | t
    · obtain ⟨ps', h1⟩ := w.tabs.isT e
      rw [n] at h1
      cases h1
    · exact absurd ((w.same.get p u e t).symm.trans n) (fun z => nomatch z)
/-- a new object, frozen -/
theorem Step.allocZ {p : Addr} {o : HO} (w : Wd Z H S) (n : H p = none) (hn : NT o := by intro ps e; cases e) : Step Z H S (upd Z p o) (upd H p o) S := by
  have nz : Z p = none := w.zfree n
  exact {
    wd := ⟨⟨fun a u e t => by
      by_cases h : a = p
      · subst h; rw [upd_same] at e ⊢; exact e
      · rw [upd_ne h] at e ⊢; exact w.same.get a u e t⟩, fun a s => by
      have h : a ≠ p := fun h => by subst h; exact w.dom _ s n
      rw [upd_ne h]; exact w.sep a s, fun a s => by
      have h : a ≠ p := fun h => by subst h; exact w.dom _ s n
      rw [upd_ne h]; exact w.own a s, w.tabs.ext (fun P ps e => by
      by_cases h : P = p
      · subst h; rw [upd_same] at e; cases e; exact absurd rfl (hn ps)
      · rw [upd_ne h] at e; exact e) (fun a u e => by rw [upd_ne (ne_of_none e nz)]; exact e) fun b u e _ => by rw [upd_ne (ne_of_none e n)]; exact e⟩
    zz := fun a u e => by rw [upd_ne (ne_of_none e nz)]; exact e
    fr := fun a u _ e _ => by rw [upd_ne (ne_of_none e n)]; exact e
    new := fun a q => .inl q
    znew := fun a u e => by
      by_cases h : a = p
      · subst h; exact .inr (.inr (Fre.of n))
      · rw [upd_ne h] at e; exact .inl e }
/-- an owned object is written -/
theorem Step.write {p : Addr} {o : HO} (w : Wd Z H S) (s : S p) (hn : NW o := by constructor <;> (intro ps e; cases e)) : Step Z H S Z (upd H p o) S where
  wd := ⟨⟨fun a u e t => by
      have h : a ≠ p := fun h => by subst h; rw [w.sep _ s] at e; cases e
      rw [upd_ne h]; exact w.same.get a u e t⟩, w.sep, fun a s' => by
      by_cases h : a = p
      · subst h; exact ⟨o, upd_same, hn⟩
      · rw [upd_ne h]; exact w.own a s', w.tabs.ext (fun _ _ e => e) (Same.refl Z) fun b u e hu => by
      have h : b ≠ p := fun h => by
        subst h
        obtain ⟨o', e', n1, n2⟩ := w.own b s
        rw [e] at e'
        cases e'
        rcases hu with ⟨ps, rfl⟩ | ⟨φ, rfl⟩
        · exact n1 ps rfl
        · exact n2 φ rfl
      rw [upd_ne h]; exact e⟩
  zz := Same.refl Z
  fr := fun a u n e _ => by rw [upd_ne fun h => n (by subst h; exact s)]; exact e
  new := fun a q => .inl q
  znew := fun _ _ e => .inl e
/-- a part is frozen -/
theorem Step.freeze (w : Wd Z H S) (m : ∀ a, T a → S a) (m2 : ∀ a, S1 a → S a) (dj : ∀ a, S1 a → T a → False) : Step Z H S (thaw Z H T) H S1 where
  wd := ⟨thaw_le w.same, fun a s => by rw [thaw_out fun t => dj a s t]; exact w.sep a (m2 a s), fun a s => w.own a (m2 a s), w.tabs.ext (fun P ps e => by
      by_cases h : T P
      · rw [thaw_in h] at e
        obtain ⟨o, e2, n⟩ := w.own P (m P h)
        rw [e] at e2
        cases e2
        exact absurd rfl (n.1 ps)
      · rw [thaw_out h] at e; exact e) (thaw_same fun a t => w.sep a (m a t)) fun _ _ e _ => e⟩
  zz := thaw_same fun a t => w.sep a (m a t)
  fr := fun _ _ _ e _ => e
  new := fun a s => .inl (m2 a s)
  znew := fun a o e => by
    by_cases h : T a
    · exact .inr (.inl (m a h))
    · rw [thaw_out h] at e; exact .inl e
end
end Pm
namespace Pm
open PySem PySem.Spec PyProof.Rows L2
structure XD where
  cls : Str
  fs : List (Str × D)
inductive Res (α : Type) where
  | stuck | ok (a : α) (ρ : Env) | exc (x : XD) (ρ : Env)
abbrev M (α : Type) := Env → Res α
/-- what an expression gives: data of its own, or what stands in a slot -/
inductive EV where
  | val (d : D) | ref (i : Nat)
inductive Fl where
  | nx | bk | ct | rt (d : D)
def ret {α : Type} (a : α) : M α := fun ρ => .ok a ρ
def bnd {α β : Type} (m : M α) (f : α → M β) : M β := fun ρ => match m ρ with
  | .stuck => .stuck
  | .ok a ρ' => f a ρ'
  | .exc x ρ' => .exc x ρ'
def peek1 (ρ : Env) : EV → Option D
  | .val d => some d
  | .ref i => ρ.getD i none
def peeks (ρ : Env) : List EV → Option (List D)
  | [] => some []
  | e :: es => match peek1 ρ e, peeks ρ es with
    | some d, some ds => some (d :: ds)
    | _, _ => none
/-- to take what an expression gave for keeps -/
def use1 : EV → M D
  | .val d => fun ρ => .ok d ρ
  | .ref i => fun ρ => match ρ.getD i none with
    | some d => .ok d.frz (ρ.set i (some d.frz))
    | none => .stuck
def useL : List EV → M (List D)
  | [] => ret []
  | e :: es => bnd (use1 e) fun d => bnd (useL es) fun ds => ret (d :: ds)
section
variable (K : PySem.W.Frag) (mg : Str → Option Value)
def EVR (Z H : Hp) (σ : Sl) : EV → V → Fp → Prop
  | .val d, v, S => Rep K Z H d v S
  | .ref i, v, _ => σ[i]? = some (some v)
def EVsR (Z H : Hp) (σ : Sl) : List EV → List V → Fp → Prop
  | [], [], _ => True
  | e :: es, v :: vs, S => ∃ S1 S2 : Fp, (∀ a, S1 a → S a) ∧ (∀ a, S2 a → S a) ∧ (∀ a, S1 a → S2 a → False) ∧ EVR K Z H σ e v S1 ∧ EVsR Z H σ es vs S2
  | _, _, _ => False
def ExcR (Z : Hp) (x : XD) (cls : Value) (dd : Option Addr) : Prop :=
  ∃ C, mg x.cls = some (.ref C) ∧ reg K x.cls = some C ∧ cls = .ref C ∧ ((dd = none ∧ x.fs = []) ∨ ∃ d vs, dd = some d ∧ Z d = some (.xd ((x.fs.map (·.1)).zip vs)) ∧ RepL K Z Z (x.fs.map (·.2)) vs Fp0)
/-- what is asked of an exception -/
def XOut (W : WX) (Z H : Hp) (S : Fp) (σ : Sl) (x : XD) (ρ' : Env) : Prop :=
  ∀ cls dd Z' H' S', Step Z H S Z' H' S' → EnvR K Z' H' ρ' σ S' → ExcR K mg Z' x cls dd → W cls dd σ H'
def OutA (W : WX) (Z H : Hp) (S : Fp) (σ : Sl) (Q : List V → Hp → Prop) : Res (List EV) → Prop
  | .stuck => False
  | .ok es ρ' => ∀ vs Z' H' S' Sd, Step Z H S Z' H' (fun a => S' a ∨ Sd a) → (∀ a, S' a → Sd a → False) → EnvR K Z' H' ρ' σ S' → EVsR K Z' H' σ es vs Sd → Q vs H'
  | .exc x ρ' => XOut K mg W Z H S σ x ρ'
def OutE (W : WX) (Z H : Hp) (S : Fp) (σ : Sl) (Q : VK) : Res EV → Prop
  | .stuck => False
  | .ok e ρ' => ∀ v Z' H' S' Sd, Step Z H S Z' H' (fun a => S' a ∨ Sd a) → (∀ a, S' a → Sd a → False) → EnvR K Z' H' ρ' σ S' → EVR K Z' H' σ e v Sd → Q v H'
  | .exc x ρ' => XOut K mg W Z H S σ x ρ'
def OutT (W : WX) (Z H : Hp) (S : Fp) (σ : Sl) (Q : Bool → Hp → Prop) : Res Bool → Prop
  | .stuck => False
  | .ok b ρ' => ∀ Z' H' S', Step Z H S Z' H' S' → EnvR K Z' H' ρ' σ S' → Q b H'
  | .exc x ρ' => XOut K mg W Z H S σ x ρ'
def FlR (Z H : Hp) : Fl → V → Fp → Prop
  | .rt d, v, S => Rep K Z H d v S
  | _, _, _ => True
def FlGo (D : Ends) (σ : Sl) (v : V) (H : Hp) : Fl → Prop
  | .nx => D.nx σ H
  | .bk => D.bk σ H
  | .ct => D.ct σ H
  | .rt _ => D.rt v H
/-- slots that are not stored (A tells which may be) -/
def Keep (A : Nat → Bool) (σ σ' : Sl) : Prop := (∀ j : Nat, A j = false → σ'[j]? = σ[j]?) ∧ σ'.length = σ.length
def OutS (W : WX) (A : Nat → Bool) (σ : Sl) (Z H : Hp) (S : Fp) (D : Ends) : Res Fl → Prop
  | .stuck => False
  | .ok fl ρ' => ∀ σ' v Z' H' S' Sd, Keep A σ σ' → Step Z H S Z' H' (fun a => S' a ∨ Sd a) → (∀ a, S' a → Sd a → False) → EnvR K Z' H' ρ' σ' S' → FlR K Z' H' fl v Sd → FlGo D σ' v H' fl
  | .exc x ρ' => ∀ σ', Keep A σ σ' → XOut K mg W Z H S σ' x ρ'
def tE (W : WX) (f : M EV) : TE := fun σ H Q => ∃ Z ρ S, Wd Z H S ∧ EnvR K Z H ρ σ S ∧ OutE K mg W Z H S σ Q (f ρ)
def tA (W : WX) (f : M (List EV)) : TA := fun σ H Q => ∃ Z ρ S, Wd Z H S ∧ EnvR K Z H ρ σ S ∧ OutA K mg W Z H S σ Q (f ρ)
def tT (W : WX) (f : M Bool) : TT := fun σ H Q => ∃ Z ρ S, Wd Z H S ∧ EnvR K Z H ρ σ S ∧ OutT K mg W Z H S σ Q (f ρ)
def tS (W : WX) (A : Nat → Bool) (f : M Fl) : TS := fun D σ H => ∃ Z ρ S, Wd Z H S ∧ EnvR K Z H ρ σ S ∧ OutS K mg W A σ Z H S D (f ρ)
end
theorem Keep.refl {A : Nat → Bool} (σ : Sl) : Keep A σ σ := ⟨fun _ _ => rfl, rfl⟩
theorem Keep.trans {A : Nat → Bool} {σ σ1 σ2 : Sl} (a : Keep A σ σ1) (b : Keep A σ1 σ2) : Keep A σ σ2 := ⟨fun j h => (b.1 j h).trans (a.1 j h), b.2.trans a.2⟩
section
variable {X : Cx} {e : Expr} {es : List Expr} {st : Stmt} {sts : List Stmt}
theorem PE.of {t t' : TE} (h : PE X e t) (i : ∀ σ H Q, t' σ H Q → t σ H Q) : PE X e t' := ⟨fun p s σ H Q I q => h.run p s σ H Q I (i σ H Q q)⟩
theorem PA.of {t t' : TA} (h : PA X es t) (i : ∀ σ H Q, t' σ H Q → t σ H Q) : PA X es t' := ⟨fun o p s σ H Q I q => h.run o p s σ H Q I (i σ H Q q)⟩
theorem PT.of {t t' : TT} (h : PT X e t) (i : ∀ σ H Q, t' σ H Q → t σ H Q) : PT X e t' := ⟨fun p s σ H Q I q => h.run p s σ H Q I (i σ H Q q)⟩
theorem PW.of {t t' : TT} (h : PW X e t) (i : ∀ σ H Q, t' σ H Q → t σ H Q) : PW X e t' := ⟨fun o p s σ H Q I q => h.run o p s σ H Q I (i σ H Q q)⟩
theorem PS.of {t t' : TS} (h : PS X st t) (i : ∀ D σ H, t' D σ H → t D σ H) : PS X st t' := ⟨fun p s σ H D I q => h.run p s σ H D I (i D σ H q)⟩
theorem PSs.of {t t' : TS} (h : PSs X sts t) (i : ∀ D σ H, t' D σ H → t D σ H) : PSs X sts t' := ⟨fun p s σ H D I q => h.run p s σ H D I (i D σ H q)⟩
end
section
variable {K : PySem.W.Frag} {mg : Str → Option Value} {W : WX} {Z H : Hp} {S : Fp} {σ : Sl}
theorem XOut.behind {Z1 H1 : Hp} {S1 Sa : Fp} {x : XD} {ρ' : Env} (st : Step Z H S Z1 H1 (fun a => S1 a ∨ Sa a)) (dj : ∀ a, S1 a → Sa a → False) (h : XOut K mg W Z H S σ x ρ') : XOut K mg W Z1 H1 S1 σ x ρ' :=
  fun cls dd Z' H' S' st' er xr => h cls dd Z' H' S' ((st.trans (st'.frame st.wd dj)).less fun a s => .inl s) er xr
def aNil : M (List EV) := ret []
def aCons (f : M EV) (fs : M (List EV)) : M (List EV) := bnd f fun e => bnd fs fun es => ret (e :: es)
theorem EVR.stay {Z' H' : Hp} {S1 Sa : Fp} {e : EV} {v : V} (h : EVR K Z H σ e v Sa) (st : Step Z H S1 Z' H' S) (dj : ∀ a, S1 a → Sa a → False) : EVR K Z' H' σ e v Sa := by
  cases e with
  | val d => exact st.stay dj h
  | ref i => exact h
theorem EVR.more {Sa Sb : Fp} {e : EV} {v : V} (h : EVR K Z H σ e v Sa) (m : ∀ a, Sa a → Sb a) : EVR K Z H σ e v Sb := by
  cases e with
  | val d => exact h.move (Same.refl Z) (fun _ _ _ x => x) m
  | ref i => exact h
theorem Wd.nil {Z H : Hp} {S : Fp} (w : Wd Z H S) : Step Z H S Z H (fun a => S a ∨ Fp0 a) := (Step.refl w).less fun a x => x.elim id False.elim
theorem tA_nil {Q : List V → Hp → Prop} (h : tA K mg W aNil σ H Q) : tNil σ H Q := by
  obtain ⟨Z, ρ, S, w, er, o⟩ := h
  exact o [] Z H S Fp0 w.nil (fun _ _ x => x) er trivial
theorem tA_cons {f : M EV} {fs : M (List EV)} {Q : List V → Hp → Prop} (h : tA K mg W (aCons f fs) σ H Q) : tCons (tE K mg W f) (tA K mg W fs) σ H Q := by
  obtain ⟨Z, ρ, S, w, er, o⟩ := h
  refine ⟨Z, ρ, S, w, er, ?_⟩
  simp only [aCons, bnd] at o
  cases e1 : f ρ with
  | stuck => rw [e1] at o; exact o
  | exc x ρ1 => rw [e1] at o; exact o
  | ok ev ρ1 =>
    rw [e1] at o
    intro v Z1 H1 S1 Sa st1 dj1 er1 r1
    refine ⟨Z1, ρ1, S1, st1.wd.less fun a x => .inl x, er1, ?_⟩
    cases e2 : fs ρ1 with
    | stuck => simp only [e2] at o; exact o
    | exc x ρ2 => simp only [e2] at o; exact o.behind st1 dj1
    | ok es ρ2 =>
      simp only [e2, ret] at o
      intro vs Z2 H2 S2 Sb st2 dj2 er2 r2
      have ap := st2.apart (T := Sa) (fun a x => st1.wd.live a (.inr x)) dj1
      refine o (v :: vs) Z2 H2 S2 (fun a => Sa a ∨ Sb a) ((st1.trans (st2.frame st1.wd dj1)).less fun a x => ?_) (fun a x y => y.elim (ap a (.inl x)) (dj2 a x)) er2 ?_
      · rcases x with x | x | x
        · exact .inl (.inl x)
        · exact .inr x
        · exact .inl (.inr x)
      · exact ⟨Sa, Sb, fun a x => .inl x, fun a x => .inr x, fun a x y => ap a (.inr y) x, r1.stay st2 dj1, r2⟩
theorem pa_n {X : Cx} : PA X [] (tA X.K X.mg W aNil) := PA.of pa_nil fun _ _ _ => tA_nil
theorem pa_c {X : Cx} {e : Expr} {es : List Expr} {f : M EV} {fs : M (List EV)} (h : PE X e (tE X.K X.mg W f)) (hs : PA X es (tA X.K X.mg W fs)) (st : starEach (e :: es) X.env = (false, eval e X.env) :: starEach es X.env) :
    PA X (e :: es) (tA X.K X.mg W (aCons f fs)) := PA.of (pa_cons h hs st) fun _ _ _ => tA_cons
theorem peek1_rep {ρ : Env} {e : EV} {v : V} {d : D} {Sa : Fp} (er : EnvR K Z H ρ σ S) (r : EVR K Z H σ e v Sa) (p : peek1 ρ e = some d) : Rep K Z H d v (fun a => S a ∨ Sa a) := by
  cases e with
  | val d' =>
    simp only [peek1, Option.some.injEq] at p
    subst p
    exact Rep.move r (Same.refl Z) (fun _ _ _ x => x) fun a x => .inr x
  | ref i =>
    have q : ρ[i]? = some (some d) := by
      simp only [peek1, List.getD_eq_getElem?_getD] at p
      cases h : ρ[i]? with
      | none => rw [h] at p; cases p
      | some o => rw [h] at p; simpa using p
    obtain ⟨u, S1, S2, hu, s1, s2, dj, ru, _⟩ := er.take q
    have e : v = u := by
      have r' : σ[i]? = some (some v) := r
      rw [hu] at r'
      simpa using r'.symm
    subst e
    exact ru.move (Same.refl Z) (fun _ _ _ x => x) fun a x => .inl (s1 a x)
/-- data borne one by one, all within S -/
def RepB (K : PySem.W.Frag) (Z H : Hp) (S : Fp) : List D → List V → Prop
  | [], [] => True
  | d :: ds, v :: vs => Rep K Z H d v S ∧ RepB K Z H S ds vs
  | _, _ => False
theorem RepB.more {S' : Fp} (m : ∀ a, S a → S' a) : ∀ {ds : List D} {vs : List V}, RepB K Z H S ds vs → RepB K Z H S' ds vs
  | [], [], _ => trivial
  | [], _ :: _, h => h.elim
  | _ :: _, [], h => h.elim
  | _ :: _, _ :: _, h => ⟨h.1.move (Same.refl Z) (fun _ _ _ x => x) m, RepB.more m h.2⟩
theorem peeks_rep {ρ : Env} (er : EnvR K Z H ρ σ S) : ∀ {es : List EV} {vs : List V} {ds : List D} {Sa : Fp}, EVsR K Z H σ es vs Sa → peeks ρ es = some ds → RepB K Z H (fun a => S a ∨ Sa a) ds vs
  | [], [], ds, _, _, p => by
    simp only [peeks, Option.some.injEq] at p
    subst p
    trivial
  | [], _ :: _, _, _, h, _ => h.elim
  | _ :: _, [], _, _, h, _ => h.elim
  | e :: es, v :: vs, ds, Sa, h, p => by
    obtain ⟨S1, S2, s1, s2, dj, r, q⟩ := h
    simp only [peeks] at p
    split at p
    · rename_i d ds' h1 h2
      simp only [Option.some.injEq] at p
      subst p
      refine ⟨(peek1_rep er r h1).move (Same.refl Z) (fun _ _ _ x => x) fun a x => x.elim .inl fun y => .inr (s1 a y), ?_⟩
      exact (peeks_rep er q h2).more fun a x => x.elim .inl fun y => .inr (s2 a y)
    · cases p
/-- an operation upon values and the function of data that it is -/
def Snd (X : Cx) (r : List V → Hp → VK → Prop) (g : List D → Option D) : Prop :=
  ∀ (Z H : Hp) (S : Fp) (ds : List D) (vs : List V) (d : D) (Q : VK), Wd Z H S → RepB X.K Z H S ds vs → g ds = some d →
    (∀ v Z' H' Sd, Step Z H S Z' H' (fun a => S a ∨ Sd a) → Same H H' → (∀ a, S a → Sd a → False) → Rep X.K Z' H' d v Sd → Q v H') → r vs H Q
def app (g : List D → Option D) (fs : M (List EV)) : M EV := bnd fs fun es => fun ρ => match peeks ρ es with
  | some ds => match g ds with
    | some d => .ok (.val d) ρ
    | none => .stuck
  | none => .stuck
theorem tE_app {X : Cx} {r : List V → Hp → VK → Prop} {g : List D → Option D} {fs : M (List EV)} {Q : VK} (hs : Snd X r g) (h : tE X.K X.mg W (app g fs) σ H Q) : tA X.K X.mg W fs σ H fun vs H1 => r vs H1 Q := by
  obtain ⟨Z, ρ, S, w, er, o⟩ := h
  refine ⟨Z, ρ, S, w, er, ?_⟩
  simp only [app, bnd] at o
  cases e1 : fs ρ with
  | stuck => rw [e1] at o; exact o
  | exc x ρ1 => rw [e1] at o; exact o
  | ok es ρ1 =>
    simp only [e1] at o
    intro vs Z1 H1 S1 Sa st1 dj1 er1 r1
    cases e2 : peeks ρ1 es with
    | none => simp only [e2] at o; exact o.elim
    | some ds =>
      cases e3 : g ds with
      | none => simp only [e2, e3] at o; exact o.elim
      | some d =>
        simp only [e2, e3] at o
        refine hs Z1 H1 _ ds vs d Q st1.wd (peeks_rep er1 r1 e2) e3 fun v Z2 H2 Sd st2 sm dj2 rd => ?_
        exact o v Z2 H2 S1 Sd ((st1.trans st2).less fun a x => x.elim (fun y => .inl (.inl y)) .inr) (fun a x y => dj2 a (.inl x) y) (er1.move st2.zz (fun a ob _ e => sm a ob e) fun _ x => x) rd
def loc (i : Nat) : M EV := fun ρ => match ρ.getD i none with
  | some _ => .ok (.ref i) ρ
  | none => .stuck
def con (d : D) : M EV := ret (.val d)
theorem getD_some {ρ : Env} {i : Nat} {d : D} (h : ρ.getD i none = some d) : ρ[i]? = some (some d) := by
  rw [List.getD_eq_getElem?_getD] at h
  cases e : ρ[i]? with
  | none => rw [e] at h; cases h
  | some o => rw [e] at h; simpa using h
theorem tE_loc {i : Nat} {Q : VK} (h : tE K mg W (loc i) σ H Q) : tVar i σ H Q := by
  obtain ⟨Z, ρ, S, w, er, o⟩ := h
  simp only [loc] at o
  cases e : ρ.getD i none with
  | none => simp only [e] at o; exact o.elim
  | some d =>
    simp only [e] at o
    obtain ⟨v, S1, S2, hv, _⟩ := er.take (getD_some e)
    exact ⟨v, hv, o v Z H S Fp0 w.nil (fun _ _ x => x) er hv⟩
theorem pe_loc {X : Cx} {i : Nat} {x : Str} {pos : Pos} (hN : X.N[i]? = some x) (hv : Vis X.env.scope x) (hd : (x == ("__debug__" : Str)) = false) (hcd : (x == ("__classdict__" : Str)) = false) : PE X (.Name x pos) (tE X.K X.mg W (loc i)) :=
  PE.of (pe_var hN hv hd hcd) fun _ _ _ => tE_loc
theorem tE_con {d : D} {v : V} {Q : VK} (r : ∀ Z H : Hp, Rep K Z H d v Fp0) (h : tE K mg W (con d) σ H Q) : tC v σ H Q := by
  obtain ⟨Z, ρ, S, w, er, o⟩ := h
  exact o v Z H S Fp0 w.nil (fun _ _ x => x) er (r Z H)
theorem use1_ok {ρ ρ' : Env} {e : EV} {v : V} {d : D} {Sa T : Fp} (w : Wd Z H (fun a => (S a ∨ Sa a) ∨ T a)) (dj : ∀ a, S a → Sa a → False) (djT : ∀ a, S a ∨ Sa a → T a → False) (er : EnvR K Z H ρ σ S) (r : EVR K Z H σ e v Sa) (u : use1 e ρ = .ok d ρ') :
    ∃ Z' S', Step Z H (fun a => (S a ∨ Sa a) ∨ T a) Z' H (fun a => (S' a ∨ Sa a) ∨ T a) ∧ (∀ a, S' a → S a) ∧ EnvR K Z' H ρ' σ S' ∧ Rep K Z' H d v Sa := by
  cases e with
  | val d' =>
    simp only [use1, Res.ok.injEq] at u
    obtain ⟨rfl, rfl⟩ := u
    exact ⟨Z, S, Step.refl w, fun _ x => x, er, r⟩
  | ref i =>
    simp only [use1] at u
    cases e : ρ.getD i none with
    | none => rw [e] at u; cases u
    | some d0 =>
      rw [e] at u
      simp only [Res.ok.injEq] at u
      obtain ⟨rfl, rfl⟩ := u
      obtain ⟨v0, S1, S2, hv, s1, s2, dj2, r0, er0⟩ := er.take (getD_some e)
      have ev : v0 = v := by
        have r' : σ[i]? = some (some v) := r
        rw [hv] at r'
        simpa using r'
      subst ev
      have stp : Step Z H (fun a => (S a ∨ Sa a) ∨ T a) (thaw Z H S1) H (fun a => (S2 a ∨ Sa a) ∨ T a) := Step.freeze w (fun a x => .inl (.inl (s1 a x))) (fun a x => x.elim (fun y => .inl (y.elim (fun z => .inl (s2 a z)) .inr)) .inr) fun a x y => x.elim (fun z => z.elim (fun t => dj2 a y t) (fun t => dj a (s1 a y) t)) fun t => djT a (.inl (s1 a y)) t
      have rf : Rep K (thaw Z H S1) H d0.frz v0 Fp0 := Rep.frz r0 (fun a x => w.sep a (.inl (.inl (s1 a x)))) fun _ x => x
      refine ⟨thaw Z H S1, S2, stp, s2, ?_, rf.move (Same.refl _) (fun _ _ _ x => x) fun _ x => x.elim⟩
      have hi : i < ρ.length := (List.getElem?_eq_some_iff.mp (getD_some e)).1
      have q := EnvR.put (S := S2) (S1 := Fp0) (v := v0) (er0.move stp.zz (fun _ _ _ x => x) fun _ x => x) hi rf (fun _ x => x.elim) (fun _ x => x) (fun _ x _ => x)
      have es : σ.set i (some v0) = σ := by
        obtain ⟨hl, e1⟩ := List.getElem?_eq_some_iff.mp hv
        rw [← e1, List.set_getElem_self]
      rw [es] at q
      exact q
theorem EVsR.more : ∀ {es : List EV} {vs : List V} {B C : Fp}, EVsR K Z H σ es vs B → (∀ a, B a → C a) → EVsR K Z H σ es vs C
  | [], [], _, _, _, _ => trivial
  | [], _ :: _, _, _, h, _ => h.elim
  | _ :: _, [], _, _, h, _ => h.elim
  | _ :: _, _ :: _, _, _, ⟨B1, B2, b1, b2, bj, r, q⟩, m => ⟨B1, B2, fun a x => m a (b1 a x), fun a x => m a (b2 a x), bj, r, q⟩
theorem useL_ok : ∀ {es : List EV} {vs : List V} {ds : List D} {ρ ρ' : Env} {Z : Hp} {S Sa T : Fp}, Wd Z H (fun a => (S a ∨ Sa a) ∨ T a) → (∀ a, S a → Sa a → False) → (∀ a, S a ∨ Sa a → T a → False) → EnvR K Z H ρ σ S → EVsR K Z H σ es vs Sa → useL es ρ = .ok ds ρ' →
    ∃ Z' S', Step Z H (fun a => (S a ∨ Sa a) ∨ T a) Z' H (fun a => (S' a ∨ Sa a) ∨ T a) ∧ (∀ a, S' a → S a) ∧ EnvR K Z' H ρ' σ S' ∧ RepL K Z' H ds vs Sa
  | [], [], ds, ρ, ρ', Z, S, Sa, T, w, _, _, er, _, u => by
    simp only [useL, ret, Res.ok.injEq] at u
    obtain ⟨rfl, rfl⟩ := u
    exact ⟨Z, S, Step.refl w, fun _ x => x, er, trivial⟩
  | [], _ :: _, _, _, _, _, _, _, _, _, _, _, _, h, _ => h.elim
  | _ :: _, [], _, _, _, _, _, _, _, _, _, _, _, h, _ => h.elim
  | e :: es, v :: vs, ds, ρ, ρ', Z, S, Sa, T, w, dj, djT, er, h, u => by
    obtain ⟨A1, A0, a1, a0, aj0, r, q0⟩ := h
    obtain ⟨A2, hA2⟩ : ∃ A2 : Fp, A2 = fun a => Sa a ∧ ¬ A1 a := ⟨_, rfl⟩
    have q : EVsR K Z H σ es vs A2 := q0.more fun a x => by rw [hA2]; exact ⟨a0 a x, fun y => aj0 a y x⟩
    have a2 : ∀ a, A2 a → Sa a := fun a x => by rw [hA2] at x; exact x.1
    have aj : ∀ a, A1 a → A2 a → False := fun a x y => by rw [hA2] at y; exact y.2 x
    have a12 : ∀ a, Sa a → A1 a ∨ A2 a := fun a x => by
      by_cases h : A1 a
      · exact .inl h
      · exact .inr (by rw [hA2]; exact ⟨x, h⟩)
    simp only [useL, bnd] at u
    cases u1 : use1 e ρ with
    | stuck => rw [u1] at u; cases u
    | exc x ρ1 => rw [u1] at u; cases u
    | ok d ρ1 =>
      simp only [u1] at u
      cases u2 : useL es ρ1 with
      | stuck => rw [u2] at u; cases u
      | exc x ρ2 => rw [u2] at u; cases u
      | ok ds' ρ2 =>
        simp only [u2, ret, Res.ok.injEq] at u
        obtain ⟨rfl, rfl⟩ := u
        have w1 : Wd Z H (fun a => (S a ∨ A1 a) ∨ (A2 a ∨ T a)) := w.less fun a x => x.elim (fun y => .inl (y.elim .inl fun z => .inr (a1 a z))) fun y => y.elim (fun z => .inl (.inr (a2 a z))) .inr
        obtain ⟨Z1, S1, st1, m1, er1, r1⟩ := use1_ok w1 (fun a x y => dj a x (a1 a y)) (fun a x y => y.elim (fun z => x.elim (fun t => dj a t (a2 a z)) fun t => aj a t z) fun z => djT a (x.elim .inl fun t => .inr (a1 a t)) z) er r u1
        have w2 : Wd Z1 H (fun a => (S1 a ∨ A2 a) ∨ (A1 a ∨ T a)) := st1.wd.less fun a x => x.elim (fun y => y.elim (fun z => .inl (.inl z)) fun z => .inr (.inl z)) fun y => y.elim (fun z => .inl (.inr z)) fun z => .inr (.inr z)
        have q1 : EVsR K Z1 H σ es vs A2 := by
          have stay : ∀ {es : List EV} {vs : List V} {B : Fp}, EVsR K Z H σ es vs B → EVsR K Z1 H σ es vs B := by
            intro es
            induction es with
            | nil => intro vs B h; cases vs with
              | nil => trivial
              | cons => exact h.elim
            | cons e es ih => intro vs B h; cases vs with
              | nil => exact h.elim
              | cons v vs =>
                obtain ⟨B1, B2, b1, b2, bj, r, q⟩ := h
                refine ⟨B1, B2, b1, b2, bj, ?_, ih q⟩
                cases e with
                | val d => exact Rep.move r st1.zz (fun _ _ _ x => x) fun _ x => x
                | ref i => exact r
          exact stay q
        obtain ⟨Z2, S2, st2, m2, er2, r2⟩ := useL_ok w2 (fun a x y => dj a (m1 a x) (a2 a y)) (fun a x y => y.elim (fun z => x.elim (fun t => dj a (m1 a t) (a1 a z)) fun t => aj a z t) fun z => djT a (x.elim (fun t => .inl (m1 a t)) fun t => .inr (a2 a t)) z) er1 q1 u2
        refine ⟨Z2, S2, ?_, fun a x => m1 a (m2 a x), er2, A1, A2, a1, a2, aj, r1.move st2.zz (fun _ _ _ x => x) fun _ x => x, r2⟩
        have st1' : Step Z H (fun a => (S a ∨ Sa a) ∨ T a) Z1 H (fun a => (S1 a ∨ A2 a) ∨ (A1 a ∨ T a)) := by
          have sub : ∀ a, ((S a ∨ A1 a) ∨ A2 a ∨ T a) → ((S a ∨ Sa a) ∨ T a) := fun a x => x.elim (fun y => .inl (y.elim .inl fun z => .inr (a1 a z))) fun y => y.elim (fun z => .inl (.inr (a2 a z))) .inr
          refine ⟨w2, st1.zz, fun a o n e => st1.fr a o (fun x => n (sub a x)) e, fun a x => (st1.new a ?_).elim (fun y => .inl ?_) .inr, fun a o e => (st1.znew a o e).elim .inl fun y => .inr (y.elim (fun z => .inl ?_) .inr)⟩
          · exact x.elim (fun y => y.elim (fun z => .inl (.inl z)) fun z => .inr (.inl z)) fun y => y.elim (fun z => .inl (.inr z)) fun z => .inr (.inr z)
          · exact y.elim (fun y => .inl (y.elim .inl fun z => .inr (a1 a z))) fun y => y.elim (fun z => .inl (.inr (a2 a z))) .inr
          · exact z.elim (fun y => .inl (y.elim .inl fun z => .inr (a1 a z))) fun y => y.elim (fun z => .inl (.inr (a2 a z))) .inr
        exact (st1'.trans st2).less fun a x => x.elim (fun y => y.elim (fun z => .inl (.inl z)) fun z => (a12 a z).elim (fun t => .inr (.inl t)) fun t => .inl (.inr t)) fun z => .inr (.inr z)
end
end Pm
namespace Pm
open PySem PySem.Spec PyProof.Rows L2
section
variable {K : PySem.W.Frag} {mg : Str → Option Value} {W : WX} {Z H : Hp} {S : Fp} {σ : Sl} {X : Cx} {A : Nat → Bool}
/-- lists and tuples have at most so many items -/
abbrev cap : Nat := 1000000
theorem cap_le {n : Nat} (h : n ≤ cap) : n ≤ sizeLine := Nat.le_trans h (by rw [sizeLine_eq]; decide)
def cellOf (vs : List V) : Kd → HO
  | .tup => .tup vs
  | _ => .lst vs
/-- a display -/
def disp (o : Bool) (k : Kd) (fs : M (List EV)) : M EV := bnd fs fun es => bnd (useL es) fun ds => fun ρ => if ds.length ≤ cap then .ok (.val (.node o k ds)) ρ else .stuck
theorem disp_of {o : Bool} {k : Kd} {fs : M (List EV)} {Q : VK} (h : tE K mg W (disp o k fs) σ H Q)
    (f : ∀ (vs : List V) (Z1 H1 : Hp) (S1 Sd : Fp) (ds : List D), Wd Z1 H1 (fun a => S1 a ∨ Sd a) → (∀ a, S1 a → Sd a → False) → RepL K Z1 H1 ds vs Sd → ds.length ≤ cap → ∀ p, H1 p = none →
      ∃ Z2 H2 Sp, Step Z1 H1 (fun a => S1 a ∨ Sd a) Z2 H2 (fun a => S1 a ∨ Sp a) ∧ (∀ a, S1 a → Sp a → False) ∧ (∀ a o, H1 a = some o → H2 a = some o) ∧ Rep K Z2 H2 (.node o k ds) (.ref p) Sp ∧ H2 = upd H1 p (cellOf vs k)) :
    tA K mg W fs σ H fun vs H1 => vs.length ≤ sizeLine ∧ ∀ p, H1 p = none → Q (.ref p) (upd H1 p (cellOf vs k)) := by
  obtain ⟨Z, ρ, S, w, er, o⟩ := h
  refine ⟨Z, ρ, S, w, er, ?_⟩
  simp only [disp, bnd] at o
  cases e1 : fs ρ with
  | stuck => rw [e1] at o; exact o
  | exc x ρ1 => rw [e1] at o; exact o
  | ok es ρ1 =>
    simp only [e1] at o
    intro vs Z1 H1 S1 Sa st1 dj1 er1 r1
    cases e2 : useL es ρ1 with
    | stuck => rw [e2] at o; exact o.elim
    | exc x ρ2 =>
      exfalso
      have no : ∀ (es : List EV) (ρ ρ2 : Env) (x : XD), useL es ρ ≠ .exc x ρ2 := by
        intro es
        induction es with
        | nil => intro ρ ρ2 x q; cases q
        | cons e es ih =>
          intro ρ ρ2 x q
          simp only [useL, bnd] at q
          cases u1 : use1 e ρ with
          | stuck => rw [u1] at q; cases q
          | exc y ρ3 =>
            cases e with
            | val d => simp only [use1] at u1; cases u1
            | ref i =>
              simp only [use1] at u1
              split at u1 <;> cases u1
          | ok d ρ3 =>
            simp only [u1] at q
            cases u2 : useL es ρ3 with
            | stuck => rw [u2] at q; cases q
            | exc y ρ4 => exact ih _ _ _ u2
            | ok ds ρ4 => simp only [u2, ret] at q; cases q
      exact no _ _ _ _ e2
    | ok ds ρ2 =>
      simp only [e2] at o
      by_cases hl : ds.length ≤ cap
      · rw [if_pos hl] at o
        have w1 : Wd Z1 H1 (fun a => (S1 a ∨ Sa a) ∨ Fp0 a) := st1.wd.less fun a x => x.elim id False.elim
        obtain ⟨Z2, S2, st2, m2, er2, r2⟩ := useL_ok w1 dj1 (fun _ _ x => x) er1 r1 e2
        have len := r2.length
        refine ⟨by rw [← len]; exact cap_le hl, fun p hp => ?_⟩
        have w2 : Wd Z2 H1 (fun a => S2 a ∨ Sa a) := st2.wd.less fun a x => .inl x
        obtain ⟨Z3, H3, Sp, st3, dj3, k3, r3, e3⟩ := f vs Z2 H1 S2 Sa ds w2 (fun a x y => dj1 a (m2 a x) y) r2 hl p hp
        rw [← e3]
        refine o (.ref p) Z3 H3 S2 Sp ?_ dj3 (er2.move st3.zz (fun a ob _ e => k3 a ob e) fun _ x => x) r3
        have st2' : Step Z1 H1 (fun a => S1 a ∨ Sa a) Z2 H1 (fun a => S2 a ∨ Sa a) := ⟨w2, st2.zz, fun a o n e _ => e, fun a x => .inl (x.elim (fun y => .inl (m2 a y)) .inr), fun a o e => (st2.znew a o e).elim .inl fun y => .inr (y.elim (fun z => z.elim .inl False.elim) .inr)⟩
        exact (st1.trans st2').trans st3
      · rw [if_neg hl] at o
        exact o.elim
theorem pe_T {es : List Expr} {fs : M (List EV)} {x1 : Nat} {pos : Pos} (h : PA X es (tA X.K X.mg W fs)) : PE X (.Tuple es x1 pos) (tE X.K X.mg W (disp false .tup fs)) :=
  PE.of (pe_tup h) fun σ H Q q => disp_of q fun vs Z1 H1 S1 Sd ds w dj r hl p hp =>
    ⟨upd Z1 p (.tup vs), upd H1 p (.tup vs), Sd, Step.allocZ w hp, dj, fun a o e => by rw [upd_ne (ne_of_none e hp)]; exact e,
      ⟨p, vs, rfl, SqT.of upd_same, r.move (Step.allocZ (o := .tup vs) w hp).zz (fun a o _ e => by rw [upd_ne (ne_of_none e hp)]; exact e) fun _ x => x⟩, rfl⟩
theorem pe_L {es : List Expr} {fs : M (List EV)} {pos : Pos} (h : PA X es (tA X.K X.mg W fs)) : PE X (.List es pos) (tE X.K X.mg W (disp true .lst fs)) :=
  PE.of (pe_lst h) fun σ H Q q => disp_of q fun vs Z1 H1 S1 Sd ds w dj r hl p hp =>
    ⟨Z1, upd H1 p (.lst vs), fun a => Sd a ∨ a = p, (Step.alloc w hp).less fun a x => x.elim (fun y => .inl (.inl y)) fun y => y.elim (fun z => .inl (.inr z)) .inr,
      fun a x y => y.elim (dj a x) fun z => w.dom a (.inl x) (by rw [z]; exact hp), fun a o e => by rw [upd_ne (ne_of_none e hp)]; exact e,
      ⟨p, vs, Sd, rfl, upd_same, .inr rfl, fun x => w.dom p (.inr x) hp, fun a x => .inl x, r.move (Same.refl Z1) (fun a o _ e => by rw [upd_ne (ne_of_none e hp)]; exact e) fun _ x => x⟩, rfl⟩
def tst (f : M EV) : M Bool := bnd f fun e => fun ρ => match peek1 ρ e with
  | some (.bl b) => .ok b ρ
  | _ => .stuck
theorem tT_tst {f : M EV} {Q : Bool → Hp → Prop} (h : tT K mg W (tst f) σ H Q) : tE K mg W f σ H fun x H1 => ∃ c, x = .bl c ∧ Q c H1 := by
  obtain ⟨Z, ρ, S, w, er, o⟩ := h
  refine ⟨Z, ρ, S, w, er, ?_⟩
  simp only [tst, bnd] at o
  cases e1 : f ρ with
  | stuck => rw [e1] at o; exact o
  | exc x ρ1 => rw [e1] at o; exact o
  | ok ev ρ1 =>
    simp only [e1] at o
    intro v Z1 H1 S1 Sa st1 dj1 er1 r1
    split at o
    · rename_i b hb
      have r := peek1_rep er1 r1 hb
      exact ⟨b, r, o Z1 H1 S1 (st1.less fun a x => .inl x) er1⟩
    · exact o.elim
theorem pt_v {e : Expr} {f : M EV} (h : PE X e (tE X.K X.mg W f)) (he : ∀ whole, isTrue e X.env whole = (do let v ← whole; standAt e.pos; holding [v] (truthy v))) : PT X e (tT X.K X.mg W (tst f)) :=
  PT.of (pt_val h he) fun _ _ _ q => tT_tst q
def andT (a b : M Bool) : M Bool := bnd a fun c => if c = true then b else ret false
def orT (a b : M Bool) : M Bool := bnd a fun c => if c = true then ret true else b
def notT (a : M Bool) : M Bool := bnd a fun c => ret (!c)
theorem tT_bnd {α : Type} {a : M Bool} {k : Bool → M α} {R : Env → Prop} {Q : Bool → Hp → Prop} {ρ : Env} (w : Wd Z H S) (er : EnvR K Z H ρ σ S)
    (hx : ∀ x ρ1, a ρ = .exc x ρ1 → XOut K mg W Z H S σ x ρ1) (hs : a ρ ≠ .stuck)
    (hk : ∀ c ρ1 Z1 H1 S1, a ρ = .ok c ρ1 → Step Z H S Z1 H1 S1 → EnvR K Z1 H1 ρ1 σ S1 → Q c H1) : tT K mg W a σ H Q := by
  refine ⟨Z, ρ, S, w, er, ?_⟩
  cases e : a ρ with
  | stuck => exact absurd e hs
  | exc x ρ1 => exact hx x ρ1 e
  | ok c ρ1 => exact fun Z1 H1 S1 st er1 => hk c ρ1 Z1 H1 S1 e st er1
theorem XOut.after {Z1 H1 : Hp} {S1 : Fp} {x : XD} {ρ' : Env} (st : Step Z H S Z1 H1 S1) (h : XOut K mg W Z H S σ x ρ') : XOut K mg W Z1 H1 S1 σ x ρ' := fun cls dd Z' H' S' st' er xr => h cls dd Z' H' S' (st.trans st') er xr
theorem OutT.after {Z1 H1 : Hp} {S1 : Fp} {r : Res Bool} {Q : Bool → Hp → Prop} (st : Step Z H S Z1 H1 S1) (h : OutT K mg W Z H S σ Q r) : OutT K mg W Z1 H1 S1 σ Q r := by
  cases r with
  | stuck => exact h
  | exc x ρ => exact XOut.after st h
  | ok b ρ => exact fun Z' H' S' st' er => h Z' H' S' (st.trans st') er
theorem OutE.after {Z1 H1 : Hp} {S1 : Fp} {r : Res EV} {Q : VK} (st : Step Z H S Z1 H1 S1) (h : OutE K mg W Z H S σ Q r) : OutE K mg W Z1 H1 S1 σ Q r := by
  cases r with
  | stuck => exact h
  | exc x ρ => exact XOut.after st h
  | ok b ρ => exact fun v Z' H' S' Sd st' dj er r => h v Z' H' S' Sd (st.trans st') dj er r
theorem OutS.next {Z1 H1 : Hp} {S1 : Fp} {r : Res Fl} {D : Ends} {σ1 : Sl} (kp : Keep A σ σ1) (st : Step Z H S Z1 H1 S1) (h : OutS K mg W A σ Z H S D r) : OutS K mg W A σ1 Z1 H1 S1 D r := by
  cases r with
  | stuck => exact h
  | exc x ρ => exact fun σ' k => XOut.after st (h σ' (kp.trans k))
  | ok b ρ => exact fun σ' v Z' H' S' Sd k st' dj er r => h σ' v Z' H' S' Sd (kp.trans k) (st.trans st') dj er r
theorem OutS.after {Z1 H1 : Hp} {S1 : Fp} {r : Res Fl} {D : Ends} (st : Step Z H S Z1 H1 S1) (h : OutS K mg W A σ Z H S D r) : OutS K mg W A σ Z1 H1 S1 D r := h.next (Keep.refl σ) st
theorem tT_and {a b : M Bool} {Q : Bool → Hp → Prop} (h : tT K mg W (andT a b) σ H Q) : tAnd (tT K mg W a) (tT K mg W b) σ H Q := by
  obtain ⟨Z, ρ, S, w, er, o⟩ := h
  simp only [andT, bnd] at o
  refine tT_bnd (k := fun _ => a) (R := fun _ => True) w er (fun x ρ1 e => by rw [e] at o; exact o) (fun e => by rw [e] at o; exact o) fun c ρ1 Z1 H1 S1 e st er1 => ?_
  simp only [e] at o
  cases c with
  | true => exact ⟨Z1, ρ1, S1, st.wd, er1, by simpa using OutT.after st o⟩
  | false => exact OutT.after (r := .ok false ρ1) st (by simpa [ret] using o) Z1 H1 S1 (Step.refl st.wd) er1
theorem tT_or {a b : M Bool} {Q : Bool → Hp → Prop} (h : tT K mg W (orT a b) σ H Q) : tOr (tT K mg W a) (tT K mg W b) σ H Q := by
  obtain ⟨Z, ρ, S, w, er, o⟩ := h
  simp only [orT, bnd] at o
  refine tT_bnd (k := fun _ => a) (R := fun _ => True) w er (fun x ρ1 e => by rw [e] at o; exact o) (fun e => by rw [e] at o; exact o) fun c ρ1 Z1 H1 S1 e st er1 => ?_
  simp only [e] at o
  cases c with
  | false => exact ⟨Z1, ρ1, S1, st.wd, er1, by simpa using OutT.after st o⟩
  | true => exact OutT.after (r := .ok true ρ1) st (by simpa [ret] using o) Z1 H1 S1 (Step.refl st.wd) er1
theorem tT_not {a : M Bool} {Q : Bool → Hp → Prop} (h : tT K mg W (notT a) σ H Q) : tNot (tT K mg W a) σ H Q := by
  obtain ⟨Z, ρ, S, w, er, o⟩ := h
  simp only [notT, bnd] at o
  refine tT_bnd (k := fun _ => a) (R := fun _ => True) w er (fun x ρ1 e => by rw [e] at o; exact o) (fun e => by rw [e] at o; exact o) fun c ρ1 Z1 H1 S1 e st er1 => ?_
  simp only [e, ret] at o
  exact o Z1 H1 S1 st er1
/-- and, or with bools ahead: values -/
def andE (a b : M EV) : M EV := bnd (tst a) fun c => if c = true then b else ret (.val (.bl false))
def orE (a b : M EV) : M EV := bnd (tst a) fun c => if c = true then ret (.val (.bl true)) else b
def notE (a : M EV) : M EV := bnd (tst a) fun c => ret (.val (.bl (!c)))
def ifE (c : M Bool) (a b : M EV) : M EV := bnd c fun t => if t = true then a else b
theorem tst_bnd {f : M EV} {R : V → Hp → Prop} {ρ : Env} (w : Wd Z H S) (er : EnvR K Z H ρ σ S)
    (hx : ∀ x ρ1, tst f ρ = .exc x ρ1 → XOut K mg W Z H S σ x ρ1) (hs : tst f ρ ≠ .stuck)
    (hk : ∀ c ρ1 Z1 H1 S1, tst f ρ = .ok c ρ1 → Step Z H S Z1 H1 S1 → EnvR K Z1 H1 ρ1 σ S1 → R (.bl c) H1) : tE K mg W f σ H R := by
  refine ⟨Z, ρ, S, w, er, ?_⟩
  simp only [tst, bnd] at hx hs hk
  cases e : f ρ with
  | stuck => simp only [e] at hs; exact absurd rfl hs
  | exc x ρ1 => simp only [e] at hx; exact hx x ρ1 rfl
  | ok ev ρ1 =>
    intro v Z1 H1 S1 Sa st dj er1 r1
    simp only [e] at hs hk
    split at hs
    · rename_i b hb
      simp only [hb] at hk
      have r : v = .bl b := peek1_rep er1 r1 hb
      subst r
      exact hk b ρ1 Z1 H1 S1 rfl (st.less fun a x => .inl x) er1
    · exact absurd rfl hs
theorem tE_and {a b : M EV} {Q : VK} (h : tE K mg W (andE a b) σ H Q) : tAndV (tE K mg W a) (tE K mg W b) σ H Q := by
  obtain ⟨Z, ρ, S, w, er, o⟩ := h
  simp only [andE, bnd] at o
  refine tst_bnd w er (fun x ρ1 e => by rw [e] at o; exact o) (fun e => by rw [e] at o; exact o) fun c ρ1 Z1 H1 S1 e st er1 => ?_
  simp only [e] at o
  refine ⟨c, rfl, ?_⟩
  cases c with
  | true => exact ⟨Z1, ρ1, S1, st.wd, er1, by simpa using OutE.after st o⟩
  | false => exact OutE.after (r := .ok (.val (.bl false)) ρ1) st (by simpa [ret] using o) (.bl false) Z1 H1 S1 Fp0 st.wd.nil (fun _ _ x => x) er1 rfl
theorem tE_not {a : M EV} {Q : VK} (h : tE K mg W (notE a) σ H Q) : tNotV (tE K mg W a) σ H Q := by
  obtain ⟨Z, ρ, S, w, er, o⟩ := h
  simp only [notE, bnd] at o
  refine tst_bnd w er (fun x ρ1 e => by rw [e] at o; exact o) (fun e => by rw [e] at o; exact o) fun c ρ1 Z1 H1 S1 e st er1 => ?_
  simp only [e, ret] at o
  exact ⟨c, rfl, o (.bl (!c)) Z1 H1 S1 Fp0 (st.trans st.wd.nil) (fun _ _ x => x) er1 rfl⟩
def sNx : M Fl := ret .nx
def seq (a b : M Fl) : M Fl := bnd a fun f => match f with
  | .nx => b
  | f => ret f
def ite (c : M Bool) (a b : M Fl) : M Fl := bnd c fun t => if t = true then a else b
def rtn (f : M EV) : M Fl := bnd f fun e => bnd (use1 e) fun d => ret (.rt d)
def drp (f : M EV) : M Fl := bnd f fun _ => ret .nx
theorem tS_nx {D : Ends} (h : tS K mg W A sNx D σ H) : tNext D σ H := by
  obtain ⟨Z, ρ, S, w, er, o⟩ := h
  exact o σ .non Z H S Fp0 (Keep.refl σ) w.nil (fun _ _ x => x) er trivial
theorem tS_seq {a b : M Fl} {D : Ends} (h : tS K mg W A (seq a b) D σ H) : tSeq (tS K mg W A a) (tS K mg W A b) D σ H := by
  obtain ⟨Z, ρ, S, w, er, o⟩ := h
  refine ⟨Z, ρ, S, w, er, ?_⟩
  simp only [seq, bnd] at o
  cases e1 : a ρ with
  | stuck => rw [e1] at o; exact o
  | exc x ρ1 => rw [e1] at o; exact o
  | ok f ρ1 =>
    simp only [e1] at o
    intro σ' v Z1 H1 S1 Sd kp st dj er1 r1
    cases f with
    | nx => exact ⟨Z1, ρ1, S1, st.wd.less fun a x => .inl x, er1, OutS.next kp (st.less fun a x => .inl x) o⟩
    | bk => exact o σ' v Z1 H1 S1 Sd kp st dj er1 r1
    | ct => exact o σ' v Z1 H1 S1 Sd kp st dj er1 r1
    | rt d => exact o σ' v Z1 H1 S1 Sd kp st dj er1 r1
theorem tS_if {c : M Bool} {a b : M Fl} {D : Ends} (h : tS K mg W A (ite c a b) D σ H) : tIfS (tT K mg W c) (tS K mg W A a) (tS K mg W A b) D σ H := by
  obtain ⟨Z, ρ, S, w, er, o⟩ := h
  simp only [ite, bnd] at o
  refine tT_bnd (k := fun _ => c) (R := fun _ => True) w er (fun x ρ1 e => by rw [e] at o; exact o σ (Keep.refl σ)) (fun e => by rw [e] at o; exact o) fun t ρ1 Z1 H1 S1 e st er1 => ?_
  simp only [e] at o
  cases t with
  | true => exact ⟨Z1, ρ1, S1, st.wd, er1, by simpa using OutS.after st o⟩
  | false => exact ⟨Z1, ρ1, S1, st.wd, er1, by simpa using OutS.after st o⟩
theorem use1_noexc {e : EV} {ρ ρ' : Env} {x : XD} : use1 e ρ ≠ .exc x ρ' := by
  cases e with
  | val d => exact fun q => nomatch q
  | ref i =>
    intro q
    simp only [use1] at q
    split at q <;> cases q
/-- an expression's data for keeps, then what follows -/
theorem keep_of {f : M EV} {k : D → M Fl} {D' : Ends} {R : V → Hp → Prop} {ρ : Env} (w : Wd Z H S) (er : EnvR K Z H ρ σ S) (o : OutS K mg W A σ Z H S D' (bnd f (fun e => bnd (use1 e) k) ρ))
    (hk : ∀ v d ρ1 Z1 H1 S1 Sd, Step Z H S Z1 H1 (fun a => S1 a ∨ Sd a) → (∀ a, S1 a → Sd a → False) → EnvR K Z1 H1 ρ1 σ S1 → Rep K Z1 H1 d v Sd → OutS K mg W A σ Z H S D' (k d ρ1) → R v H1) : tE K mg W f σ H R := by
  refine ⟨Z, ρ, S, w, er, ?_⟩
  simp only [bnd] at o
  cases e1 : f ρ with
  | stuck => rw [e1] at o; exact o
  | exc x ρ1 => rw [e1] at o; exact o σ (Keep.refl σ)
  | ok ev ρ1 =>
    simp only [e1] at o
    intro v Z1 H1 S1 Sa st dj er1 r1
    cases e2 : use1 ev ρ1 with
    | stuck => rw [e2] at o; exact o.elim
    | exc x ρ2 => exact absurd e2 use1_noexc
    | ok d ρ2 =>
      simp only [e2] at o
      have w1 : Wd Z1 H1 (fun a => (S1 a ∨ Sa a) ∨ Fp0 a) := st.wd.less fun a x => x.elim id False.elim
      obtain ⟨Z2, S2, st2, m2, er2, r2⟩ := use1_ok w1 dj (fun _ _ x => x) er1 r1 e2
      have st2' : Step Z1 H1 (fun a => S1 a ∨ Sa a) Z2 H1 (fun a => S2 a ∨ Sa a) := ⟨st2.wd.less fun a x => .inl x, st2.zz, fun a o n e _ => e, fun a x => .inl (x.elim (fun y => .inl (m2 a y)) .inr), fun a o e => (st2.znew a o e).elim .inl fun y => .inr (y.elim (fun z => z.elim .inl False.elim) .inr)⟩
      exact hk v d ρ2 Z2 H1 S2 Sa (st.trans st2') (fun a x y => dj a (m2 a x) y) er2 r2 o
theorem tS_rtn {f : M EV} {D : Ends} (h : tS K mg W A (rtn f) D σ H) : tRet (tE K mg W f) D σ H := by
  obtain ⟨Z, ρ, S, w, er, o⟩ := h
  exact keep_of w er o fun v d ρ1 Z1 H1 S1 Sd st dj er1 r1 o1 => o1 σ v Z1 H1 S1 Sd (Keep.refl σ) st dj er1 r1
theorem tS_drp {f : M EV} {D : Ends} (h : tS K mg W A (drp f) D σ H) : tDrop (tE K mg W f) D σ H := by
  obtain ⟨Z, ρ, S, w, er, o⟩ := h
  refine ⟨Z, ρ, S, w, er, ?_⟩
  simp only [drp, bnd] at o
  cases e1 : f ρ with
  | stuck => rw [e1] at o; exact o
  | exc x ρ1 => rw [e1] at o; exact o σ (Keep.refl σ)
  | ok ev ρ1 =>
    simp only [e1, ret] at o
    exact fun v Z1 H1 S1 Sa st dj er1 r1 => o σ .non Z1 H1 S1 Fp0 (Keep.refl σ) (st.less fun a x => x.elim .inl False.elim) (fun _ _ x => x) er1 trivial
/-- a local name is returned: it is the def's own -/
def mov (i : Nat) : M EV := fun ρ => match ρ.getD i none with
  | some d => .ok (.val d) (ρ.set i none)
  | none => .stuck
theorem tE_mov {i : Nat} {Q : VK} (h : tE K mg W (mov i) σ H Q) : tVar i σ H Q := by
  obtain ⟨Z, ρ, S, w, er, o⟩ := h
  simp only [mov] at o
  cases e : ρ.getD i none with
  | none => simp only [e] at o; exact o.elim
  | some d =>
    simp only [e] at o
    obtain ⟨v, S1, S2, hv, s1, s2, dj, r, er2⟩ := er.take (getD_some e)
    exact ⟨v, hv, o v Z H S2 S1 ((Step.refl w).less fun a x => x.elim (s2 a) (s1 a)) (fun a x y => dj a y x) er2 r⟩
abbrev Tg := D → M Unit
def tG (K : PySem.W.Frag) (A : Nat → Bool) (g : Tg) : TG := fun v σ H Q => ∃ Z ρ S Sd d, Wd Z H (fun a => S a ∨ Sd a) ∧ (∀ a, S a → Sd a → False) ∧ EnvR K Z H ρ σ S ∧ Rep K Z H d v Sd ∧
  match g d ρ with
  | .ok _ ρ' => ∀ σ' Z' H' S', Keep A σ σ' → Step Z H (fun a => S a ∨ Sd a) Z' H' S' → EnvR K Z' H' ρ' σ' S' → Q σ' H'
  | _ => False
def tGs (K : PySem.W.Frag) (A : Nat → Bool) (g : List D → M Unit) : TGs := fun vs σ H Q => ∃ Z ρ S Sd ds, Wd Z H (fun a => S a ∨ Sd a) ∧ (∀ a, S a → Sd a → False) ∧ EnvR K Z H ρ σ S ∧ RepL K Z H ds vs Sd ∧
  match g ds ρ with
  | .ok _ ρ' => ∀ σ' Z' H' S', Keep A σ σ' → Step Z H (fun a => S a ∨ Sd a) Z' H' S' → EnvR K Z' H' ρ' σ' S' → Q σ' H'
  | _ => False
theorem PG.of {tg : Expr} {t t' : TG} (h : PG X tg t) (i : ∀ v σ H Q, t' v σ H Q → t v σ H Q) : PG X tg t' := ⟨fun p s σ H v u Q I r q => h.run p s σ H v u Q I r (i v σ H Q q)⟩
theorem PGs.of {tg : List Expr} {t t' : TGs} (h : PGs X tg t) (i : ∀ v σ H Q, t' v σ H Q → t v σ H Q) : PGs X tg t' := ⟨fun p s σ H v u Q I r q => h.run p s σ H v u Q I r (i v σ H Q q)⟩
def gN (i : Nat) : Tg := fun d ρ => if i < ρ.length then .ok () (ρ.set i (some d)) else .stuck
theorem tG_N {i : Nat} {v : V} {Q : Sl → Hp → Prop} (hA : A i = true) (h : tG K A (gN i) v σ H Q) : gName i v σ H Q := by
  obtain ⟨Z, ρ, S, Sd, d, w, dj, er, r, o⟩ := h
  simp only [gN] at o
  by_cases hi : i < ρ.length
  · rw [if_pos hi] at o
    exact o _ Z H (fun a => S a ∨ Sd a) ⟨fun j hj => List.getElem?_set_ne (fun e => by rw [← e, hA] at hj; cases hj), List.length_set⟩ (Step.refl w) (EnvR.put (er.drop i) hi r (fun a x => .inr x) (fun a x => .inl x) fun a x y => dj a y x)
  · rw [if_neg hi] at o
    exact o.elim
def gs0 : List D → M Unit := fun ds ρ => match ds with
  | [] => .ok () ρ
  | _ => .stuck
def gsC (g : Tg) (gs : List D → M Unit) : List D → M Unit := fun ds => match ds with
  | d :: ds => bnd (g d) fun _ => gs ds
  | [] => fun _ => .stuck
def gT (gs : List D → M Unit) (n : Nat) : Tg := fun d => match d with
  | .node _ .tup ds => if ds.length = n then gs ds else fun _ => .stuck
  | _ => fun _ => .stuck
theorem tGs_0 {vs : List V} {Q : Sl → Hp → Prop} (h : tGs K A gs0 vs σ H Q) : gNil vs σ H Q := by
  obtain ⟨Z, ρ, S, Sd, ds, w, dj, er, r, o⟩ := h
  cases ds with
  | cons d ds => simp only [gs0] at o
  | nil =>
    cases vs with
    | cons v vs => exact r.elim
    | nil => exact ⟨rfl, by simp only [gs0] at o; exact o σ Z H S (Keep.refl σ) ((Step.refl w).less fun a x => .inl x) er⟩
theorem tGs_C {g : Tg} {gs : List D → M Unit} {vs : List V} {Q : Sl → Hp → Prop} (h : tGs K A (gsC g gs) vs σ H Q) : gCons (tG K A g) (tGs K A gs) vs σ H Q := by
  obtain ⟨Z, ρ, S, Sd, ds, w, dj, er, r, o⟩ := h
  cases ds with
  | nil => simp only [gsC] at o
  | cons d ds =>
    cases vs with
    | nil => exact r.elim
    | cons v vs =>
      obtain ⟨A1, A2, a1, a2, aj, r1, r2⟩ := r
      simp only [gsC, bnd] at o
      refine ⟨v, vs, rfl, Z, ρ, S, A1, d, w.less fun a x => x.elim .inl fun y => .inr (a1 a y), fun a x y => dj a x (a1 a y), er, r1, ?_⟩
      cases e1 : g d ρ with
      | stuck => simp only [e1] at o
      | exc x ρ1 => simp only [e1] at o
      | ok u ρ1 =>
        simp only [e1] at o
        intro σ1 Z1 H1 S1 kp st er1
        have w' : Wd Z H (fun a => (S a ∨ A1 a) ∨ A2 a) := w.less fun a x => x.elim (fun y => y.elim .inl fun z => .inr (a1 a z)) fun y => .inr (a2 a y)
        have d1 : ∀ a, (S a ∨ A1 a) → A2 a → False := fun a x y => x.elim (fun z => dj a z (a2 a y)) fun z => aj a z y
        have st' := st.frame w' d1
        refine ⟨Z1, ρ1, S1, A2, ds, st'.wd, st.apart (fun a x => w'.live a (.inr x)) d1, er1, st.stayL d1 r2, ?_⟩
        cases e2 : gs ds ρ1 with
        | stuck => rw [e2] at o; exact o
        | exc x ρ2 => rw [e2] at o; exact o
        | ok u2 ρ2 =>
          rw [e2] at o
          intro σ2 Z2 H2 S2 kp2 st2 er2
          refine o σ2 Z2 H2 S2 (kp.trans kp2) ?_ er2
          have st0 : Step Z H (fun a => S a ∨ Sd a) Z1 H1 (fun a => S1 a ∨ A2 a) := ⟨st'.wd, st'.zz, fun a o n e => st'.fr a o (fun x => n (x.elim (fun y => y.elim .inl fun z => .inr (a1 a z)) fun y => .inr (a2 a y))) e,
            fun a x => (st'.new a x).elim (fun y => .inl (y.elim (fun y => y.elim .inl fun z => .inr (a1 a z)) fun y => .inr (a2 a y))) .inr, fun a o e => (st'.znew a o e).elim .inl fun y => .inr (y.elim (fun y => .inl (y.elim (fun y => y.elim .inl fun z => .inr (a1 a z)) fun y => .inr (a2 a y))) .inr)⟩
          exact st0.trans st2
theorem tG_T {gs : List D → M Unit} {n : Nat} {v : V} {Q : Sl → Hp → Prop} (h : tG K A (gT gs n) v σ H Q) : gTup K n (tGs K A gs) v σ H Q := by
  obtain ⟨Z, ρ, S, Sd, d, w, dj, er, r, o⟩ := h
  cases d with
  | node b k ds =>
    cases k with
    | tup =>
      simp only [gT] at o
      by_cases hn : ds.length = n
      · rw [if_pos hn] at o
        cases b with
        | false =>
          obtain ⟨a, ys, rfl, c, rl⟩ := r
          exact ⟨a, ys, rfl, SqT.sam c w.same, by rw [← rl.length]; exact hn, Z, ρ, S, Sd, ds, w, dj, er, rl, o⟩
        | true =>
          obtain ⟨a, ys, rfl, c, rl⟩ := r
          exact ⟨a, ys, rfl, SqT.sam c.1 w.same, by rw [← rl.length]; exact hn, Z, ρ, S, Sd, ds, w, dj, er, rl, o⟩
      · rw [if_neg hn] at o
        simp only at o
    | _ => simp only [gT] at o
  | _ => simp only [gT] at o
def asg (f : M EV) (g : Tg) : M Fl := bnd f fun e => bnd (use1 e) fun d => fun ρ => match g d ρ with
  | .ok _ ρ' => .ok .nx ρ'
  | _ => .stuck
theorem tS_asg {f : M EV} {g : Tg} {D : Ends} (h : tS K mg W A (asg f g) D σ H) : tAsg (tE K mg W f) (tG K A g) D σ H := by
  obtain ⟨Z, ρ, S, w, er, o⟩ := h
  refine keep_of w er o fun v d ρ1 Z1 H1 S1 Sd st dj er1 r1 o1 => ?_
  refine ⟨Z1, ρ1, S1, Sd, d, st.wd, dj, er1, r1, ?_⟩
  cases e1 : g d ρ1 with
  | stuck => simp only [e1] at o1; exact o1
  | exc x ρ2 => simp only [e1] at o1; exact o1
  | ok u ρ2 =>
    simp only [e1] at o1
    exact fun σ' Z' H' S' kp st' er' => o1 σ' .non Z' H' S' Fp0 kp (st.trans (st'.less fun a x => x.elim id False.elim)) (fun _ _ x => x) er' trivial
end
end Pm
namespace Pm
open PySem PySem.Spec PyProof.Rows L2
section
variable {K : PySem.W.Frag} {mg : Str → Option Value} {W : WX} {Z H : Hp} {S : Fp} {σ : Sl} {X : Cx} {A : Nat → Bool}
def wIt (c : M Bool) (b : M Fl) : Nat → Env → Option (Res Fl)
  | 0, _ => none
  | n + 1, ρ => match c ρ with
    | .stuck => some .stuck
    | .exc x ρ1 => some (.exc x ρ1)
    | .ok false ρ1 => some (.ok .nx ρ1)
    | .ok true ρ1 => match b ρ1 with
      | .stuck => some .stuck
      | .exc x ρ2 => some (.exc x ρ2)
      | .ok (.rt d) ρ2 => some (.ok (.rt d) ρ2)
      | .ok .bk ρ2 => some (.ok .nx ρ2)
      | .ok .nx ρ2 => wIt c b n ρ2
      | .ok .ct ρ2 => wIt c b n ρ2
noncomputable def whl (c : M Bool) (b : M Fl) : M Fl := fun ρ => open Classical in if h : ∃ n r, wIt c b n ρ = some r then Classical.choose (Classical.choose_spec h) else .stuck
theorem wIt_more {c : M Bool} {b : M Fl} : ∀ {n : Nat} {ρ : Env} {r : Res Fl}, wIt c b n ρ = some r → ∀ k, wIt c b (n + k) ρ = some r
  | 0, _, _, h, _ => nomatch h
  | n + 1, ρ, r, h, k => by
    rw [show n + 1 + k = (n + k) + 1 by omega]
    simp only [wIt] at h ⊢
    split at h
    · exact h
    · exact h
    · exact h
    · split at h
      · exact h
      · exact h
      · exact h
      · exact h
      · exact wIt_more h k
      · exact wIt_more h k
theorem wIt_one {c : M Bool} {b : M Fl} {n m : Nat} {ρ : Env} {r r' : Res Fl} (h : wIt c b n ρ = some r) (h' : wIt c b m ρ = some r') : r = r' := by
  have a := wIt_more h m
  have b' := wIt_more h' n
  rw [Nat.add_comm m n, a] at b'
  exact Option.some.inj b'
theorem whl_of {c : M Bool} {b : M Fl} {n : Nat} {ρ : Env} {r : Res Fl} (h : wIt c b n ρ = some r) : whl c b ρ = r := by
  have q : ∃ n r, wIt c b n ρ = some r := ⟨n, r, h⟩
  unfold whl
  rw [dif_pos q]
  exact wIt_one (Classical.choose_spec (Classical.choose_spec q)) h
/-- one turn of a while -/
theorem whl_eq {c : M Bool} {b : M Fl} {ρ : Env} : whl c b ρ = match c ρ with
    | .stuck => .stuck
    | .exc x ρ1 => .exc x ρ1
    | .ok false ρ1 => .ok .nx ρ1
    | .ok true ρ1 => match b ρ1 with
      | .stuck => .stuck
      | .exc x ρ2 => .exc x ρ2
      | .ok (.rt d) ρ2 => .ok (.rt d) ρ2
      | .ok .bk ρ2 => .ok .nx ρ2
      | .ok .nx ρ2 => whl c b ρ2
      | .ok .ct ρ2 => whl c b ρ2 := by
  have go : ∀ {ρ2 : Env}, (∀ n, wIt c b (n + 1) ρ = wIt c b n ρ2) → whl c b ρ = whl c b ρ2 := fun {ρ2} f => by
    by_cases q : ∃ n r, wIt c b n ρ2 = some r
    · obtain ⟨n, r, e⟩ := q
      rw [whl_of e]
      exact whl_of (n := n + 1) (by rw [f]; exact e)
    · have q2 : ¬ ∃ n r, wIt c b n ρ = some r := fun ⟨n, r, e⟩ => by
        cases n with
        | zero => cases e
        | succ n => exact q ⟨n, r, by rw [← f]; exact e⟩
      unfold whl
      rw [dif_neg q, dif_neg q2]
  cases e1 : c ρ with
  | stuck => exact whl_of (n := 1) (by simp only [wIt, e1])
  | exc x ρ1 => exact whl_of (n := 1) (by simp only [wIt, e1])
  | ok t ρ1 =>
    cases t with
    | false => exact whl_of (n := 1) (by simp only [wIt, e1])
    | true =>
      simp only
      cases e2 : b ρ1 with
      | stuck => exact whl_of (n := 1) (by simp only [wIt, e1, e2])
      | exc x ρ2 => exact whl_of (n := 1) (by simp only [wIt, e1, e2])
      | ok f ρ2 =>
        cases f with
        | rt d => exact whl_of (n := 1) (by simp only [wIt, e1, e2])
        | bk => exact whl_of (n := 1) (by simp only [wIt, e1, e2])
        | nx => exact go fun n => by simp only [wIt, e1, e2]
        | ct => exact go fun n => by simp only [wIt, e1, e2]
def WalkR (K : PySem.W.Frag) (J : It) (Z : Hp) (ds : List D) : Prop := ∀ (Z' H' : Hp), Same Z Z' → Sam Z' H' → (∀ i, ds.length ≤ i → J.stop i H') ∧
  ∀ i d, ds[i]? = some d → J.go i H' ∧ ∀ x H'' S', Wd Z' H' S' → J.yld i H' x H'' → ∃ Z'', Step Z' H' S' Z'' H'' S' ∧ (∀ a o, H' a = some o → H'' a = some o) ∧ Rep K Z'' H'' d x Fp0
def OutI (K : PySem.W.Frag) (mg : Str → Option Value) (W : WX) (Z H : Hp) (S : Fp) (σ : Sl) (R : It → Hp → Prop) : Res (List D) → Prop
  | .stuck => False
  | .ok ds ρ' => ∀ J Z' H' S', Step Z H S Z' H' S' → EnvR K Z' H' ρ' σ S' → WalkR K J Z' ds → R J H'
  | .exc x ρ' => XOut K mg W Z H S σ x ρ'
def tI (K : PySem.W.Frag) (mg : Str → Option Value) (W : WX) (s : M (List D)) : TI := fun σ H R => ∃ Z ρ S, Wd Z H S ∧ EnvR K Z H ρ σ S ∧ OutI K mg W Z H S σ R (s ρ)
theorem PI.of {tg iter : Expr} {t t' : TI} (h : PI X tg iter t) (i : ∀ σ H Q, t' σ H Q → t σ H Q) : PI X tg iter t' := ⟨fun p s σ H R I q => h.run p s σ H R I (i σ H R q)⟩
def forIt (g : Tg) (b : M Fl) : List D → M Fl
  | [] => ret .nx
  | d :: ds => fun ρ => match g d ρ with
    | .ok _ ρ' => bnd b (fun f => match f with
      | .nx => forIt g b ds
      | .ct => forIt g b ds
      | .bk => ret .nx
      | .rt d => ret (.rt d)) ρ'
    | _ => .stuck
def forS (s : M (List D)) (g : Tg) (b : M Fl) : M Fl := bnd s (forIt g b)
theorem tS_for {s : M (List D)} {g : Tg} {b : M Fl} {D : Ends} (h : tS K mg W A (forS s g b) D σ H) : tFor (tI K mg W s) (tG K A g) (tS K mg W A b) D σ H := by
  obtain ⟨Z, ρ, S, w, er, o⟩ := h
  refine ⟨Z, ρ, S, w, er, ?_⟩
  simp only [forS, bnd] at o
  cases e1 : s ρ with
  | stuck => rw [e1] at o; exact o
  | exc x ρ1 => rw [e1] at o; exact o σ (Keep.refl σ)
  | ok ds ρ1 =>
    simp only [e1] at o
    intro J Z1 H1 S1 st er1 wk
    refine ⟨fun i m σ' H' => ∃ Z' ρ' S', Same Z1 Z' ∧ Wd Z' H' S' ∧ EnvR K Z' H' ρ' σ' S' ∧ i + m = ds.length ∧ OutS K mg W A σ' Z' H' S' D (forIt g b (ds.drop i) ρ'), ⟨ds.length, Z1, ρ1, S1, Same.refl _, st.wd, er1, by omega, OutS.after st o⟩, ?_⟩
    rintro i m σ2 H2 ⟨Z2, ρ2, S2, z2, w2, er2, him, o2⟩
    obtain ⟨w3, w4⟩ := wk Z2 H2 z2 w2.same
    by_cases hi : i < ds.length
    · obtain ⟨go, yl⟩ := w4 i ds[i] (List.getElem?_eq_getElem hi)
      have ed : ds.drop i = ds[i] :: ds.drop (i + 1) := List.drop_eq_getElem_cons hi
      rw [ed] at o2
      refine .inr ⟨go, fun σ' H' => ∃ Z' ρ' S', Same Z1 Z' ∧ Wd Z' H' S' ∧ EnvR K Z' H' ρ' σ' S' ∧ (i + 1) + (m - 1) = ds.length ∧ OutS K mg W A σ' Z' H' S' D (forIt g b (ds.drop (i + 1)) ρ'), fun σ' H' q => ⟨m - 1, by omega, q⟩, fun x H3 y => ?_⟩
      obtain ⟨Z3, st3, k3, r3⟩ := yl x H3 S2 w2 y
      have er3 : EnvR K Z3 H3 ρ2 σ2 S2 := er2.move st3.zz (fun a o _ e => k3 a o e) fun _ x => x
      refine ⟨Z3, ρ2, S2, Fp0, ds[i], st3.wd.less fun a x => x.elim id False.elim, fun _ _ x => x, er3, r3, ?_⟩
      have o3 := OutS.after st3 o2
      simp only [forIt, bnd] at o3
      cases e2 : g ds[i] ρ2 with
      | stuck => simp only [e2] at o3; exact o3
      | exc x ρ3 => simp only [e2] at o3; exact o3
      | ok u ρ3 =>
        simp only [e2] at o3
        intro σ4 Z4 H4 S4 kp4 st4 er4
        have st34 : Step Z3 H3 S2 Z4 H4 S4 := (Step.less (Step.refl st3.wd) (S2 := fun a => S2 a ∨ Fp0 a) (fun a x => x.elim id False.elim)).trans st4
        have zz4 : Same Z1 Z4 := z2.trans (st3.zz.trans st4.zz)
        refine ⟨Z4, ρ3, S4, st4.wd, er4, ?_⟩
        cases e3 : b ρ3 with
        | stuck => simp only [e3] at o3; exact o3
        | exc x ρ4 => simp only [e3] at o3; exact fun σ' k => XOut.after st34 (o3 σ' (kp4.trans k))
        | ok f ρ4 =>
          simp only [e3] at o3
          intro σ5 v Z5 H5 S5 Sd kp5 st5 dj er5 r5
          have again : OutS K mg W A σ2 Z3 H3 S2 D (forIt g b (ds.drop (i + 1)) ρ4) → ∃ Z' ρ' S', Same Z1 Z' ∧ Wd Z' H5 S' ∧ EnvR K Z' H5 ρ' σ5 S' ∧ (i + 1) + (m - 1) = ds.length ∧ OutS K mg W A σ5 Z' H5 S' D (forIt g b (ds.drop (i + 1)) ρ') := fun q =>
            ⟨Z5, ρ4, S5, zz4.trans st5.zz, st5.wd.less fun a x => .inl x, er5, by omega, OutS.next (kp4.trans kp5) ((st34.trans st5).less fun a x => .inl x) q⟩
          cases f with
          | rt d => exact o3 σ5 v Z5 H5 S5 Sd (kp4.trans kp5) (st34.trans st5) dj er5 r5
          | bk => exact o3 σ5 .non Z5 H5 S5 Fp0 (kp4.trans kp5) (st34.trans (st5.less fun a x => x.elim .inl False.elim)) (fun _ _ x => x) er5 trivial
          | nx => exact again o3
          | ct => exact again o3
    · refine .inl ⟨w3 i (by omega), ?_⟩
      rw [List.drop_eq_nil_of_le (by omega)] at o2
      exact o2 σ2 .non Z2 H2 S2 Fp0 (Keep.refl σ2) w2.nil (fun _ _ x => x) er2 trivial
theorem ps_forS {tg iter : Expr} {body : List Stmt} {s : M (List D)} {g : Tg} {b : M Fl} {pos : Pos} (hp : PassesOwn (model X.prog X.w) X.A X.env X.xe) (hc : X.calm = true) (hi : PI X tg iter (tI X.K X.mg W s)) (hg : PG X tg (tG X.K A g))
    (hb : PSs X body (tS X.K X.mg W A b)) (hs : ∀ x, foldedSetIterable iter X.env x = pure x) : PS X (.For tg iter body [] pos) (tS X.K X.mg W A (forS s g b)) :=
  PS.of (ps_for hp hc hi hg hb hs) fun _ _ _ q => tS_for q
/-- a list or a tuple: what it holds is frozen -/
def srcSeq (f : M EV) (k : Kd) : M (List D) := bnd f fun e => bnd (use1 e) fun d => match d with
  | .node _ k' ds => if k' = k then ret (frzL ds) else fun _ => .stuck
  | _ => fun _ => .stuck
theorem srcSeq_of {f : M EV} {k : Kd} {R : It → Hp → Prop} (h : tI K mg W (srcSeq f k) σ H R) (hk : k = .lst ∨ k = .tup) :
    tE K mg W f σ H fun x H1 => ∃ a, x = .ref a ∧ ∃ Z' ys ds, Sam Z' H1 ∧ Frd K Z' a ys k ∧ RepL K Z' H1 ds ys Fp0 ∧ ∀ J, WalkR K J Z' ds → R J H1 := by
  obtain ⟨Z, ρ, S, w, er, o⟩ := h
  refine ⟨Z, ρ, S, w, er, ?_⟩
  simp only [srcSeq, bnd] at o
  cases e1 : f ρ with
  | stuck => rw [e1] at o; exact o
  | exc x ρ1 => rw [e1] at o; exact o
  | ok ev ρ1 =>
    simp only [e1] at o
    intro v Z1 H1 S1 Sa st1 dj1 er1 r1
    cases e2 : use1 ev ρ1 with
    | stuck => rw [e2] at o; exact o.elim
    | exc x ρ2 => exact absurd e2 use1_noexc
    | ok d ρ2 =>
      simp only [e2] at o
      have w1 : Wd Z1 H1 (fun a => (S1 a ∨ Sa a) ∨ Fp0 a) := st1.wd.less fun a x => x.elim id False.elim
      obtain ⟨Z2, S2, st2, m2, er2, r2⟩ := use1_ok w1 dj1 (fun _ _ x => x) er1 r1 e2
      have st2' : Step Z1 H1 (fun a => S1 a ∨ Sa a) Z2 H1 (fun a => S2 a ∨ Sa a) := ⟨st2.wd.less fun a x => .inl x, st2.zz, fun a o n e _ => e, fun a x => .inl (x.elim (fun y => .inl (m2 a y)) .inr), fun a o e => (st2.znew a o e).elim .inl fun y => .inr (y.elim (fun z => z.elim .inl False.elim) .inr)⟩
      cases d with
      | node b k' ds =>
        simp only at o
        by_cases hk' : k' = k
        · subst hk'
          rw [if_pos rfl] at o
          simp only [ret] at o
          have w2 := st2'.wd
          have st3 : Step Z2 H1 (fun a => S2 a ∨ Sa a) (thaw Z2 H1 Sa) H1 S2 := Step.freeze w2 (fun a x => .inr x) (fun a x => .inl x) fun a x y => dj1 a (m2 a x) y
          have r3 := Rep.frz (S := Sa) (H' := H1) r2 (fun a x => w2.sep a (.inr x)) fun _ x => x
          obtain ⟨a, ys, rfl, c, rl⟩ := rep_frd r3
          exact ⟨a, rfl, thaw Z2 H1 Sa, ys, frzL ds, st3.wd.same, c, rl, fun J wk => o J _ H1 S2 ((st1.trans st2').trans st3) (er2.move st3.zz (fun _ _ _ x => x) fun _ x => x) wk⟩
        · rw [if_neg hk'] at o
          exact o.elim
      | _ => exact o.elim
theorem walk_tup {a : Addr} {ys : List V} {ds : List D} {H1 : Hp} (c : SqT K Z a ys) (rl : RepL K Z H1 ds ys Fp0) : WalkR K (Itt K a) Z ds := by
  intro Z' H' z1 z2
  have c' : SqT K H' a ys := SqT.sam (SqT.same c z1) z2
  refine ⟨fun i hi => ⟨ys, c', by rw [← rl.length]; exact hi⟩, fun i d hd => ?_⟩
  obtain ⟨x, hx, rx⟩ := rl.get hd
  refine ⟨⟨ys, x, c', hx⟩, fun y H'' S' w h => ?_⟩
  obtain ⟨rfl, h⟩ := h
  have e := h ys c'
  rw [hx] at e
  cases e
  exact ⟨Z', Step.refl w, fun _ _ e => e, rx.move z1 (fun _ _ x => x.elim) fun _ x => x⟩
theorem walk_lst' {a : Addr} {ys : List V} {ds : List D} {H1 : Hp} (c : SqL K Z a ys) (rl : RepL K Z H1 ds ys Fp0) : WalkR K (Itl K a) Z ds := by
  intro Z' H' z1 z2
  have c' : SqL K H' a ys := Sam.seq z2 (Same.seq z1 c)
  refine ⟨fun i hi => ⟨ys, c', by rw [← rl.length]; exact hi⟩, fun i d hd => ?_⟩
  obtain ⟨x, hx, rx⟩ := rl.get hd
  refine ⟨⟨ys, x, c', hx⟩, fun y H'' S' w h => ?_⟩
  obtain ⟨rfl, h⟩ := h
  have e := h ys c'
  rw [hx] at e
  cases e
  exact ⟨Z', Step.refl w, fun _ _ e => e, rx.move z1 (fun _ _ x => x.elim) fun _ x => x⟩
theorem pi_seqL {tg l : Expr} {f : M EV} (h : PE X l (tE X.K X.mg W f)) : PI X tg l (tI X.K X.mg W (srcSeq f .lst)) :=
  PI.of (pi_list h) fun σ H R q => by
    obtain ⟨Z, ρ, S, w, er, o⟩ := srcSeq_of q (.inl rfl)
    refine ⟨Z, ρ, S, w, er, ?_⟩
    cases e : f ρ with
    | stuck => rw [e] at o; exact o
    | exc x ρ1 => rw [e] at o; exact o
    | ok ev ρ1 =>
      rw [e] at o
      intro v Z1 H1 S1 Sd st dj er1 r1
      obtain ⟨a, rfl, Z', ys, ds, sm, c, rl, k⟩ := o v Z1 H1 S1 Sd st dj er1 r1
      exact ⟨a, rfl, ⟨ys, Sam.seq sm (SqL.of c)⟩, k _ (walk_lst' (SqL.of c) rl)⟩
theorem pi_seqT {tg l : Expr} {f : M EV} (h : PE X l (tE X.K X.mg W f)) : PI X tg l (tI X.K X.mg W (srcSeq f .tup)) :=
  PI.of (pi_tup h) fun σ H R q => by
    obtain ⟨Z, ρ, S, w, er, o⟩ := srcSeq_of q (.inr rfl)
    refine ⟨Z, ρ, S, w, er, ?_⟩
    cases e : f ρ with
    | stuck => rw [e] at o; exact o
    | exc x ρ1 => rw [e] at o; exact o
    | ok ev ρ1 =>
      rw [e] at o
      intro v Z1 H1 S1 Sd st dj er1 r1
      obtain ⟨a, rfl, Z', ys, ds, sm, c, rl, k⟩ := o v Z1 H1 S1 Sd st dj er1 r1
      exact ⟨a, rfl, ⟨ys, SqT.sam c sm⟩, k _ (walk_tup c rl)⟩
end
end Pm
namespace Pm
open PySem PySem.Spec PyProof.Rows L2
/-- what a def makes of its arguments: what it hands back, and the arguments as they lie then -/
inductive FR where
  | stuck | ret (d : D) (as : List D) | exc (x : XD) (as : List D)
abbrev FSem := List D → FR
/-- a def by its body: n parameters, m slots in all; those at reb are stored anew -/
def reFrz (reb : List Nat) : Nat → List D → List D
  | _, [] => []
  | i, d :: ds => (if i ∈ reb then d.frz else d) :: reFrz reb (i + 1) ds
def argsBack (reb : List Nat) (ρ : Env) : Nat → List D → Option (List D)
  | _, [] => some []
  | i, d :: ds => match (if d.plain || decide (i ∈ reb) then some d else ρ.getD i none), argsBack reb ρ (i + 1) ds with
    | some a, some as => some (a :: as)
    | _, _ => none
def mkF (n m : Nat) (reb : List Nat) (b : M Fl) : FSem := fun ds =>
  if ds.length = n ∧ n ≤ m then
    match b ((reFrz reb 0 ds).map some ++ List.replicate (m - n) none) with
    | .stuck => .stuck
    | .ok (.rt d) ρ => match argsBack reb ρ 0 (reFrz reb 0 ds) with
      | some as => .ret d as
      | none => .stuck
    | .ok .nx ρ => match argsBack reb ρ 0 (reFrz reb 0 ds) with
      | some as => .ret .non as
      | none => .stuck
    | .ok _ _ => .stuck
    | .exc x ρ => match argsBack reb ρ 0 (reFrz reb 0 ds) with
      | some as => .exc x as
      | none => .stuck
  else .stuck
section
variable (K : PySem.W.Frag) (mg : Str → Option Value)
def OutF (Z H : Hp) (S : Fp) (vs : List V) (Q : VK) (E : XK) : FR → Prop
  | .stuck => False
  | .ret d as => ∀ v Z' H' S' Sd, Step Z H S Z' H' (fun a => S' a ∨ Sd a) → (∀ a, S' a → Sd a → False) → RepL K Z' H' as vs S' → Rep K Z' H' d v Sd → Q v H'
  | .exc x as => ∀ cls dd Z' H' S', Step Z H S Z' H' S' → RepL K Z' H' as vs S' → ExcR K mg Z' x cls dd → E cls dd H'
def spG (f : FSem) : Sp := fun vs H Q E => ∃ Z S ds, Marks K Z ∧ Wd Z H S ∧ RepL K Z H ds vs S ∧ OutF K mg Z H S vs Q E (f ds)
end
structure FnG (P : Program) (w : World) (K : PySem.W.Frag) (mg : Str → Option Value) (base : Heap) (k : Nat) (f : Addr) (fd : FuncData) (ps : List Str) (g : FSem) : Prop where
  len : ∀ ds, g ds ≠ .stuck → ds.length = ps.length
  run : ∀ (A : Around) (outer : List PySem.Env) (s : Shared) (H : Hp) (args : Args) (us : List Value) (vs : List V) (Q : VK) (E : XK),
    A.guards = some [] → Room k A → Env0 P w K mg base A outer s H → BindsTo s fd args (ps.zip us) → Vals vs us → spG K mg g vs H Q E →
    codeAny (model P w) A (.call (.ref f) args) (CR (L2.CX P w) outer P w H s Q E) s
section
variable {K : PySem.W.Frag} {mg : Str → Option Value} {W : WX} {Z H : Hp} {S : Fp} {σ : Sl} {X : Cx}
theorem spG_len {g : FSem} {n : Nat} {vs : List V} {Q : VK} {E : XK} (l : ∀ ds, g ds ≠ .stuck → ds.length = n) (h : spG K mg g vs H Q E) : vs.length = n := by
  obtain ⟨Z, S, ds, mk, w, r, o⟩ := h
  rw [← r.length]
  exact l ds fun e => by rw [e] at o; exact o
theorem mkF_len {n m : Nat} {reb : List Nat} {b : M Fl} (ds : List D) (h : mkF n m reb b ds ≠ .stuck) : ds.length = n := by
  unfold mkF at h
  by_cases e : ds.length = n ∧ n ≤ m
  · exact e.1
  · rw [if_neg e] at h
    exact absurd rfl h
theorem env_start : ∀ {ds : List D} {vs : List V} {S : Fp} (k : Nat), Marks K Z → RepL K Z H ds vs S → EnvR K Z H (ds.map some ++ List.replicate k none) (vs.map some ++ List.replicate k none) S
  | [], [], S, 0, m, _ => m
  | [], [], S, k + 1, m, h => by
    rw [List.replicate_succ, List.replicate_succ]
    exact env_start (ds := []) (vs := []) (S := S) k m trivial
  | [], _ :: _, _, _, _, h => h.elim
  | _ :: _, [], _, _, _, h => h.elim
  | d :: ds, v :: vs, S, k, m, ⟨S1, S2, s1, s2, dj, r, q⟩ => ⟨S1, S2, s1, s2, dj, r, env_start k m q⟩
theorem reFrz_ok {reb : List Nat} : ∀ {ds : List D} {vs : List V} {i : Nat} {Z : Hp} {S T : Fp}, Wd Z H (fun a => S a ∨ T a) → (∀ a, S a → T a → False) → RepL K Z H ds vs S →
    ∃ Z' S', Step Z H (fun a => S a ∨ T a) Z' H (fun a => S' a ∨ T a) ∧ (∀ a, S' a → S a) ∧ RepL K Z' H (reFrz reb i ds) vs S'
  | [], [], _, Z, S, T, w, _, _ => ⟨Z, S, Step.refl w, fun _ x => x, trivial⟩
  | [], _ :: _, _, _, _, _, _, _, h => h.elim
  | _ :: _, [], _, _, _, _, _, _, h => h.elim
  | d :: ds, v :: vs, i, Z, S, T, w, dj, ⟨S1, S2, s1, s2, sj, r, q⟩ => by
    have w2 : Wd Z H (fun a => S2 a ∨ (S1 a ∨ T a)) := w.less fun a x => x.elim (fun y => .inl (s2 a y)) fun y => y.elim (fun z => .inl (s1 a z)) .inr
    obtain ⟨Z1, S', st, m, r1⟩ := reFrz_ok (reb := reb) (i := i + 1) w2 (fun a x y => y.elim (fun z => sj a z x) fun z => dj a (s2 a x) z) q
    have st0 : Step Z H (fun a => S a ∨ T a) Z1 H (fun a => S' a ∨ (S1 a ∨ T a)) := by
      have sub : ∀ a, (S2 a ∨ (S1 a ∨ T a)) → (S a ∨ T a) := fun a x => x.elim (fun y => .inl (s2 a y)) fun y => y.elim (fun z => .inl (s1 a z)) .inr
      exact ⟨st.wd, st.zz, fun a o n e _ => e, fun a x => (st.new a x).elim (fun y => .inl (sub a y)) .inr, fun a o e => (st.znew a o e).elim .inl fun y => .inr (y.elim (fun z => .inl (sub a z)) .inr)⟩
    unfold reFrz
    by_cases hi : i ∈ reb
    · rw [if_pos hi]
      have st1 : Step Z1 H (fun a => S' a ∨ (S1 a ∨ T a)) (thaw Z1 H S1) H (fun a => S' a ∨ T a) := Step.freeze st.wd (fun a x => .inr (.inl x)) (fun a x => x.elim .inl fun y => .inr (.inr y)) fun a x y => x.elim (fun z => sj a y (m a z)) fun z => dj a (s1 a y) z
      have rf : Rep K (thaw Z1 H S1) H d.frz v Fp0 := Rep.frz (r.move st.zz (fun _ _ _ x => x) fun _ x => x) (fun a x => st.wd.sep a (.inr (.inl x))) fun _ x => x
      exact ⟨_, S', st0.trans st1, fun a x => s2 a (m a x), Fp0, S', fun _ x => x.elim, fun _ x => x, fun _ x _ => x, rf, r1.move st1.zz (fun _ _ _ x => x) fun _ x => x⟩
    · rw [if_neg hi]
      refine ⟨Z1, fun a => S1 a ∨ S' a, st0.less fun a x => x.elim (fun y => y.elim (fun z => .inr (.inl z)) .inl) fun y => .inr (.inr y), fun a x => x.elim (s1 a) fun y => s2 a (m a y), S1, S', fun a x => .inl x, fun a x => .inr x, fun a x y => sj a x (m a y), r.move st.zz (fun _ _ _ x => x) fun _ x => x, r1⟩
/-- the slots of the parameters that are not stored hold the arguments -/
def Held (reb : List Nat) (σ : Sl) : Nat → List V → Prop
  | _, [] => True
  | i, v :: vs => (i ∉ reb → σ[i]? = some (some v)) ∧ Held reb σ (i + 1) vs
theorem reFrz_plain {reb : List Nat} : ∀ {ds : List D} {i j : Nat} {d : D}, (reFrz reb i ds)[j]? = some d → (i + j) ∈ reb → d.plain = true
  | [], _, _, _, h, _ => by simp [reFrz] at h
  | e :: ds, i, 0, d, h, m => by
    simp only [reFrz, List.getElem?_cons_zero, Option.some.injEq] at h
    rw [if_pos (by simpa using m)] at h
    rw [← h]
    exact D.plain_frz e
  | e :: ds, i, j + 1, d, h, m => by
    simp only [reFrz, List.getElem?_cons_succ] at h
    exact reFrz_plain h (by rw [show i + 1 + j = i + (j + 1) by omega]; exact m)
theorem back_ok {reb : List Nat} {ρ : Env} : ∀ {ds : List D} {vs : List V} {as : List D} {i : Nat} {S S0 : Fp} {Z0 H0 : Hp} {ρ1 : Env}, RepL K Z0 H0 ds vs S0 → Same Z0 Z → (∀ j d, ds[j]? = some d → (i + j) ∈ reb → d.plain = true) → Held reb σ i vs → (∀ j, i ≤ j → ρ1[j]? = ρ[j]?) → EnvR K Z H ρ1 σ S → argsBack reb ρ i ds = some as → RepL K Z H as vs S
  | [], [], as, i, S, S0, Z0, H0, ρ1, _, _, _, _, _, _, h => by
    simp only [argsBack, Option.some.injEq] at h
    subst h
    trivial
  | [], _ :: _, _, _, _, _, _, _, _, r, _, _, _, _, _, _ => r.elim
  | _ :: _, [], _, _, _, _, _, _, _, r, _, _, _, _, _, _ => r.elim
  | d :: ds, v :: vs, as, i, S, S0, Z0, H0, ρ1, ⟨S1, S2, s1, s2, sj, r, q⟩, zz, pl, ⟨hv, hh⟩, hρ, er, h => by
    simp only [argsBack] at h
    split at h
    · rename_i a as' h1 h2
      simp only [Option.some.injEq] at h
      subst h
      by_cases hp : (d.plain || decide (i ∈ reb)) = true
      · rw [if_pos hp, Option.some.injEq] at h1
        subst h1
        have hpl : d.plain = true := by
          cases e : d.plain with
          | true => rfl
          | false =>
            rw [e, Bool.false_or, decide_eq_true_eq] at hp
            have := pl 0 d rfl (by simpa using hp)
            rw [e] at this
            exact this
        have rp : Rep K Z H d v Fp0 := (Rep.plain (H' := H0) r hpl).move zz (fun _ _ x => x.elim) fun _ x => x
        exact ⟨Fp0, S, fun _ x => x.elim, fun _ x => x, fun _ x _ => x, rp, back_ok q zz (fun j d' e m => pl (j + 1) d' (by simpa using e) (by rw [show i + (j + 1) = i + 1 + j by omega]; exact m)) hh (fun j hj => hρ j (by omega)) er h2⟩
      · rw [if_neg hp] at h1
        have ni : i ∉ reb := fun m => hp (by rw [decide_eq_true m, Bool.or_true])
        have e1 : ρ1[i]? = some (some a) := by rw [hρ i (Nat.le_refl _)]; exact getD_some h1
        obtain ⟨u, T1, T2, hu, t1, t2, tj, ra, er2⟩ := er.take e1
        have eu : u = v := by
          have := hv ni
          rw [hu] at this
          simpa using this
        subst eu
        refine ⟨T1, T2, t1, t2, tj, ra, ?_⟩
        exact back_ok q zz (fun j d' e m => pl (j + 1) d' (by simpa using e) (by rw [show i + (j + 1) = i + 1 + j by omega]; exact m)) hh (fun j hj => by rw [List.getElem?_set_ne (by omega)]; exact hρ j (by omega)) er2 h2
    · cases h
def parA (n : Nat) (reb : List Nat) (j : Nat) : Bool := decide (j ∈ reb) || decide (n ≤ j)
theorem held_of {reb : List Nat} {n : Nat} : ∀ {vs : List V} {i : Nat} {σ0 : Sl}, Keep (parA n reb) σ0 σ → i + vs.length ≤ n → (∀ j v, vs[j]? = some v → σ0[i + j]? = some (some v)) → Held reb σ i vs
  | [], _, _, _, _, _ => trivial
  | v :: vs, i, σ0, k, l, h => ⟨fun m => by
      rw [k.1 i (by
        rw [List.length_cons] at l
        simp only [parA, Bool.or_eq_false_iff, decide_eq_false_iff_not]
        exact ⟨m, by omega⟩)]
      exact h 0 v rfl, held_of k (by rw [List.length_cons] at l; omega) fun j u e => by
      rw [show i + 1 + j = i + (j + 1) by omega]
      exact h (j + 1) u (by simpa using e)⟩
theorem start_get {N : List Str} {vs : List V} {j : Nat} {v : V} (h : vs[j]? = some v) : (start N vs)[j]? = some (some v) := by
  have hj : j < vs.length := (List.getElem?_eq_some_iff.mp h).1
  unfold L2.start
  rw [List.getElem?_append_left (by simpa using hj), List.getElem?_map, h]
  rfl
/-- a body's reading from what its function makes of the arguments -/
theorem body_in {n m : Nat} {reb : List Nat} {b : M Fl} {N : List Str} {vs : List V} {Q : VK} {E : XK} (hm : N.length = m) (hn : vs.length = n) (h : spG K mg (mkF n m reb b) vs H Q E) :
    tS K mg (fun cls d _ H => E cls d H) (parA n reb) b { nx := fun _ H' => Q .non H', rt := Q } (start N vs) H := by
  obtain ⟨Z, S, ds, mk, w, r, o⟩ := h
  have hd : ds.length = n := r.length.trans hn
  unfold mkF at o
  by_cases hc : ds.length = n ∧ n ≤ m
  · rw [if_pos hc] at o
    have w0 : Wd Z H (fun a => S a ∨ Fp0 a) := w.less fun a x => x.elim id False.elim
    obtain ⟨Z1, S1, st, m1, r1⟩ := reFrz_ok (reb := reb) (i := 0) w0 (fun _ _ x => x) r
    have st' : Step Z H S Z1 H S1 := ⟨st.wd.less fun a x => .inl x, st.zz, fun _ _ _ e _ => e, fun a x => .inl (m1 a x), fun a o e => (st.znew a o e).elim .inl fun y => .inr (y.elim (fun z => z.elim .inl False.elim) .inr)⟩
    have er : EnvR K Z1 H ((reFrz reb 0 ds).map some ++ List.replicate (m - n) none) (start N vs) S1 := by
      have q := env_start (m - n) (mk.same st.zz) r1
      unfold L2.start
      rw [hm, hn]
      exact q
    refine ⟨Z1, _, S1, st'.wd, er, ?_⟩
    have back : ∀ {ρ' : Env} {as : List D} {σ' : Sl} {Z' H' : Hp} {S' : Fp}, Same Z1 Z' → Keep (parA n reb) (start N vs) σ' → EnvR K Z' H' ρ' σ' S' → argsBack reb ρ' 0 (reFrz reb 0 ds) = some as → RepL K Z' H' as vs S' := fun {ρ' as σ' Z' H' S'} zz kp er' ab =>
      back_ok r1 zz (fun j d e mm => reFrz_plain e mm) (held_of kp (by omega) fun j v e => by rw [Nat.zero_add]; exact start_get e) (fun _ _ => rfl) er' ab
    cases e1 : b ((reFrz reb 0 ds).map some ++ List.replicate (m - n) none) with
    | stuck => rw [e1] at o; exact o
    | exc x ρ' =>
      simp only [e1] at o
      cases e2 : argsBack reb ρ' 0 (reFrz reb 0 ds) with
      | none => rw [e2] at o; exact o.elim
      | some as =>
        simp only [e2] at o
        exact fun σ' kp cls dd Z' H' S' st2 er2 xr => o cls dd Z' H' S' (st'.trans st2) (back st2.zz kp er2 e2) xr
    | ok f ρ' =>
      simp only [e1] at o
      intro σ' v Z' H' S' Sd kp st2 dj er2 fr
      cases f with
      | bk => exact o.elim
      | ct => exact o.elim
      | nx =>
        simp only at o
        cases e2 : argsBack reb ρ' 0 (reFrz reb 0 ds) with
        | none => rw [e2] at o; exact o.elim
        | some as =>
          simp only [e2] at o
          exact o .non Z' H' S' Fp0 ((st'.trans st2).less fun a x => x.elim .inl False.elim) (fun _ _ x => x) (back st2.zz kp er2 e2) rfl
      | rt d =>
        simp only at o
        cases e2 : argsBack reb ρ' 0 (reFrz reb 0 ds) with
        | none => rw [e2] at o; exact o.elim
        | some as =>
          simp only [e2] at o
          exact o v Z' H' S' Sd (st'.trans st2) dj (back st2.zz kp er2 e2) fr
  · rw [if_neg hc] at o
    exact o.elim
end
section
variable {P : Program} {w : World} {K : PySem.W.Frag} {mg : Str → Option Value} {base : Heap}
/-- the context in which the body of a def at f runs -/
abbrev cxG (P : Program) (w : World) (K : PySem.W.Frag) (mg : Str → Option Value) (base : Heap) (N : List Str) (qual : Str) (sc : Scope) (f : Addr) (cdv : Value) (A : Around) (outer : List PySem.Env) (s : Shared) (H : Hp) (E : XK) : Cx :=
  cxOf (L2.CX P w) P w K mg base N qual sc f cdv A outer s H E
theorem fnGc {x qual : Str} {st : Stmt} {f : Addr} {fd : FuncData} {N ps : List Str} {k m : Nat} {reb : List Nat} {b : M Fl} (F : Fun K x qual st f fd) (Sc : FnScope N ps (defScope st)) (hm : N.length = m)
    (body : ∀ (cdv : Value) (A : Around) (outer : List PySem.Env) (s : Shared) (H : Hp) (E : XK), fd.code = cdv → A.guards = some [] → Room k (A.deeper (envOfC qual (defScope st) s.heap.objs.size f cdv)) →
      PSs (cxG P w K mg base N qual (defScope st) f cdv A outer s H E) (defBody st) (tS K mg (fun cls d _ H => E cls d H) (parA ps.length reb) b)) :
    FnG P w K mg base (k + 1) f fd ps (mkF ps.length m reb b) := by
  obtain ⟨oc, od, kV, doc, pm, an, cdv, ct, osl, rfl, lk, hcd⟩ := F.ex
  refine ⟨mkF_len, fun A outer s H args us vs Q E hgd hr e0 hb r hsp => ?_⟩
  have hl : vs.length = ps.length := spG_len mkF_len hsp
  have KX : K.In s.heap := e0.mod.kin.keeps fun b o e => (e0.bs b o e).1
  have lim : s.heap.NoLimit := e0.mod.nolimit.keeps fun b o e => (e0.bs b o e).1
  refine codeAny_call_function hr.depth (KX _ _ lk) rfl Sc.co Sc.gen rfl (PySem.W.codeRec_of KX hcd) (hb _ _ _ _ ?_)
  refine wpAny_newFunctionEnv_cells Sc.kind (fun y hy => ?_) fun env he s1 z => ?_
  · rcases Sc.par y.1 (List.of_mem_zip (a := y.1) (b := y.2) hy).1 with q | q
    · exact .inl q
    · exact .inr ⟨q, PySem.W.cellsFrom_some _ _ _ (.inl q)⟩
  · subst he
    refine ⟨lim.keeps z.toInCall.keep, codeAny_func ?_⟩
    have ht := body cdv A outer s H E rfl hgd (hr.deeper _)
    have I : Inv (cxG P w K mg base N qual (defScope st) f cdv A outer s H E) [] (start N vs) H s1 := inv_start Sc hr.hd e0 hl r z
    refine wpAny_mono (ht.run [] s1 (start N vs) H _ I (body_in hm hl hsp)) (fun fl s' hs => ?_) fun _ _ hs => hs
    cases fl with
    | ret u =>
      obtain ⟨v, σ', H', J, rv, q⟩ := hs
      exact ⟨v, H', J.os, J.bare, J.base, J.hok, rv, q⟩
    | next =>
      obtain ⟨σ', H', J, q⟩ := hs
      exact ⟨V.non, H', J.os, J.bare, J.base, J.hok, rfl, q⟩
    | brk =>
      obtain ⟨_, _, _, q⟩ := hs
      exact q.elim
    | cont =>
      obtain ⟨_, _, _, q⟩ := hs
      exact q.elim
theorem fnG {x qual : Str} {st : Stmt} {f : Addr} {fd : FuncData} {N ps : List Str} {k m : Nat} {reb : List Nat} {b : M Fl} (F : Fun K x qual st f fd) (Sc : FnScope N ps (defScope st)) (hm : N.length = m)
    (body : ∀ (cdv : Value) (A : Around) (outer : List PySem.Env) (s : Shared) (H : Hp) (E : XK), A.guards = some [] → Room k (A.deeper (envOfC qual (defScope st) s.heap.objs.size f cdv)) →
      PSs (cxG P w K mg base N qual (defScope st) f cdv A outer s H E) (defBody st) (tS K mg (fun cls d _ H => E cls d H) (parA ps.length reb) b)) :
    FnG P w K mg base (k + 1) f fd ps (mkF ps.length m reb b) := fnGc F Sc hm fun cdv A outer s H E _ h1 h2 => body cdv A outer s H E h1 h2
end
end Pm
namespace Pm
open PySem PySem.Spec PyProof.Rows L2
def takes (ρ : Env) : List EV → Option (List D × Env)
  | [] => some ([], ρ)
  | .val d :: es => match takes ρ es with
    | some (ds, ρ') => some (d :: ds, ρ')
    | none => none
  | .ref i :: es => match ρ.getD i none with
    | none => none
    | some d => match takes (if d.plain then ρ else ρ.set i none) es with
      | some (ds, ρ') => some (d :: ds, ρ')
      | none => none
def puts : List EV → List D → List D → Env → Env
  | .ref i :: es, d :: ds, a :: as, ρ => puts es ds as (if d.plain then ρ else ρ.set i (some a))
  | .val _ :: es, _ :: ds, _ :: as, ρ => puts es ds as ρ
  | _, _, _, ρ => ρ
def callF (g : FSem) (fs : M (List EV)) : M EV := bnd fs fun es => fun ρ => match takes ρ es with
  | none => .stuck
  | some (ds, ρ1) => match g ds with
    | .stuck => .stuck
    | .ret d as => .ok (.val d) (puts es ds as ρ1)
    | .exc x as => .exc x (puts es ds as ρ1)
section
variable {K : PySem.W.Frag} {mg : Str → Option Value} {W : WX} {Z H : Hp} {S : Fp} {σ : Sl} {X : Cx}
theorem takes_ok : ∀ {es : List EV} {vs : List V} {ds : List D} {ρ ρ' : Env} {S Sa : Fp}, EnvR K Z H ρ σ S → EVsR K Z H σ es vs Sa → (∀ a, S a → Sa a → False) → takes ρ es = some (ds, ρ') →
    ∃ S1 T, (∀ a, S1 a → S a) ∧ (∀ a, T a → S a ∨ Sa a) ∧ (∀ a, S1 a → T a → False) ∧ EnvR K Z H ρ' σ S1 ∧ RepL K Z H ds vs T
  | [], [], ds, ρ, ρ', S, Sa, er, _, dj, h => by
    simp only [takes, Option.some.injEq, Prod.mk.injEq] at h
    obtain ⟨rfl, rfl⟩ := h
    exact ⟨S, Fp0, fun _ x => x, fun _ x => x.elim, fun _ _ x => x, er, trivial⟩
  | [], _ :: _, _, _, _, _, _, _, r, _, _ => r.elim
  | _ :: _, [], _, _, _, _, _, _, r, _, _ => r.elim
  | .val d :: es, v :: vs, ds, ρ, ρ', S, Sa, er, ⟨A1, A2, a1, a2, aj, r, q⟩, dj, h => by
    simp only [takes] at h
    cases e : takes ρ es with
    | none => rw [e] at h; cases h
    | some p =>
      obtain ⟨ds', ρ1⟩ := p
      simp only [e, Option.some.injEq, Prod.mk.injEq] at h
      obtain ⟨rfl, rfl⟩ := h
      obtain ⟨S1, T, m1, m2, tj, er1, rl⟩ := takes_ok er q (fun a x y => dj a x (a2 a y)) e
      refine ⟨S1, fun a => A1 a ∨ T a, m1, fun a x => x.elim (fun y => .inr (a1 a y)) fun y => (m2 a y).elim .inl fun z => .inr (a2 a z), fun a x y => y.elim (fun z => dj a (m1 a x) (a1 a z)) (tj a x), er1, ?_⟩
      refine ⟨A1, T, fun a x => .inl x, fun a x => .inr x, fun a x y => (m2 a y).elim (fun z => dj a z (a1 a x)) fun z => aj a x z, r, rl⟩
  | .ref i :: es, v :: vs, ds, ρ, ρ', S, Sa, er, ⟨A1, A2, a1, a2, aj, r, q⟩, dj, h => by
    simp only [takes] at h
    cases e0 : ρ.getD i none with
    | none => simp only [e0] at h; cases h
    | some d =>
      simp only [e0] at h
      obtain ⟨u, U1, U2, hu, u1, u2, uj, ru, eu⟩ := er.take (getD_some e0)
      have ev : u = v := by
        have r' : σ[i]? = some (some v) := r
        rw [hu] at r'
        simpa using r'
      subst ev
      cases hp : d.plain with
      | true =>
        simp only [hp, if_true] at h
        cases e : takes ρ es with
        | none => rw [e] at h; cases h
        | some p =>
          obtain ⟨ds', ρ1⟩ := p
          simp only [e, Option.some.injEq, Prod.mk.injEq] at h
          obtain ⟨rfl, rfl⟩ := h
          obtain ⟨S1, T, m1, m2, tj, er1, rl⟩ := takes_ok er q (fun a x y => dj a x (a2 a y)) e
          exact ⟨S1, T, m1, fun a x => (m2 a x).elim .inl fun z => .inr (a2 a z), tj, er1, Fp0, T, fun _ x => x.elim, fun _ x => x, fun _ x _ => x, ru.plain hp, rl⟩
      | false =>
        simp only [hp, Bool.false_eq_true, if_false] at h
        cases e : takes (ρ.set i none) es with
        | none => rw [e] at h; cases h
        | some p =>
          obtain ⟨ds', ρ1⟩ := p
          simp only [e, Option.some.injEq, Prod.mk.injEq] at h
          obtain ⟨rfl, rfl⟩ := h
          obtain ⟨S1, T, m1, m2, tj, er1, rl⟩ := takes_ok eu q (fun a x y => dj a (u2 a x) (a2 a y)) e
          refine ⟨S1, fun a => U1 a ∨ T a, fun a x => u2 a (m1 a x), fun a x => x.elim (fun y => .inl (u1 a y)) fun y => (m2 a y).elim (fun z => .inl (u2 a z)) fun z => .inr (a2 a z), fun a x y => y.elim (fun z => uj a z (m1 a x)) (tj a x), er1, ?_⟩
          exact ⟨U1, T, fun a x => .inl x, fun a x => .inr x, fun a x y => (m2 a y).elim (fun z => uj a x z) fun z => dj a (u1 a x) (a2 a z), ru, rl⟩
theorem puts_ok : ∀ {es : List EV} {vs : List V} {ds as : List D} {ρ : Env} {Z0 H0 : Hp} {S S0 T : Fp}, EnvR K Z H ρ σ S → EVsR K Z0 H0 σ es vs S0 → RepL K Z H as vs T → (∀ a, S a → T a → False) → EnvR K Z H (puts es ds as ρ) σ (fun a => S a ∨ T a)
  | [], _, ds, as, ρ, _, _, S, _, T, er, _, _, _ => by
    unfold puts
    exact er.move (Same.refl Z) (fun _ _ _ x => x) fun a x => .inl x
  | _ :: _, [], _, _, _, _, _, _, _, _, _, r, _, _ => r.elim
  | e :: es, v :: vs, [], as, ρ, _, _, S, _, T, er, _, _, _ => by
    have q : puts (e :: es) [] as ρ = ρ := by cases e <;> rfl
    rw [q]
    exact er.move (Same.refl Z) (fun _ _ _ x => x) fun a x => .inl x
  | e :: es, v :: vs, d :: ds, [], ρ, _, _, S, _, T, er, _, rl, _ => rl.elim
  | .val d' :: es, v :: vs, d :: ds, a' :: as, ρ, Z0, H0, S, S0, T, er, ⟨A1, A2, _, _, _, r, q⟩, ⟨T1, T2, t1, t2, tj, ra, rl⟩, dj =>
    (puts_ok (ds := ds) er q rl fun a x y => dj a x (t2 a y)).move (Same.refl Z) (fun _ _ _ x => x) fun a x => x.elim .inl fun y => .inr (t2 a y)
  | .ref i :: es, v :: vs, d :: ds, a' :: as, ρ, Z0, H0, S, S0, T, er, ⟨A1, A2, _, _, _, r, q⟩, ⟨T1, T2, t1, t2, tj, ra, rl⟩, dj => by
    unfold puts
    cases hp : d.plain with
    | true =>
      rw [if_pos rfl]
      exact (puts_ok (ds := ds) er q rl fun a x y => dj a x (t2 a y)).move (Same.refl Z) (fun _ _ _ x => x) fun a x => x.elim .inl fun y => .inr (t2 a y)
    | false =>
      rw [if_neg Bool.false_ne_true]
      have r' : σ[i]? = some (some v) := r
      obtain ⟨hi, e1⟩ := List.getElem?_eq_some_iff.mp r'
      have er2 : EnvR K Z H (ρ.set i (some a')) σ (fun a => S a ∨ T1 a) := by
        have p := EnvR.put (S := fun a => S a ∨ T1 a) (er.drop i) (by rw [er.length]; exact hi) ra (fun a x => .inr x) (fun a x => .inl x) fun a x y => dj a y (t1 a x)
        have es' : σ.set i (some v) = σ := by rw [← e1, List.set_getElem_self]
        rw [es'] at p
        exact p
      exact (puts_ok (ds := ds) er2 q rl fun a x y => x.elim (fun z => dj a z (t2 a y)) fun z => tj a z y).move (Same.refl Z) (fun _ _ _ x => x) fun a x => x.elim (fun y => y.elim .inl fun z => .inr (t1 a z)) fun y => .inr (t2 a y)
theorem tE_call {g : FSem} {fs : M (List EV)} {Q : VK} (h : tE K mg W (callF g fs) σ H Q) : tA K mg W fs σ H fun vs H1 => spG K mg g vs H1 Q (fun cls d H => W cls d σ H) := by
  obtain ⟨Z, ρ, S, w, er, o⟩ := h
  refine ⟨Z, ρ, S, w, er, ?_⟩
  simp only [callF, bnd] at o
  cases e1 : fs ρ with
  | stuck => rw [e1] at o; exact o
  | exc x ρ1 => rw [e1] at o; exact o
  | ok es ρ1 =>
    simp only [e1] at o
    intro vs Z1 H1 S1 Sa st1 dj1 er1 r1
    cases e2 : takes ρ1 es with
    | none => simp only [e2] at o; exact o.elim
    | some p =>
      obtain ⟨ds, ρ2⟩ := p
      simp only [e2] at o
      obtain ⟨S2, T, m1, m2, tj, er2, rl⟩ := takes_ok er1 r1 dj1 e2
      have w2 : Wd Z1 H1 (fun a => T a ∨ S2 a) := st1.wd.less fun a x => x.elim (m2 a) fun y => .inl (m1 a y)
      have st1' : Step Z H S Z1 H1 (fun a => T a ∨ S2 a) := st1.less fun a x => x.elim (m2 a) fun y => .inl (m1 a y)
      refine ⟨Z1, T, ds, er2.marks, w2.less fun a x => .inl x, rl, ?_⟩
      cases e3 : g ds with
      | stuck => simp only [e3] at o; exact o
      | ret d as =>
        simp only [e3] at o
        intro v Z3 H3 S3 Sd st3 dj3 ra rd
        have st3' := st3.frame w2 fun a x y => tj a y x
        have ap := st3.apart (fun a x => w2.live a (.inr x)) fun a x y => tj a y x
        have er3 : EnvR K Z3 H3 ρ2 σ S2 := st3.stayE (fun a x y => tj a y x) er2
        have er4 := puts_ok (ds := ds) er3 r1 ra fun a x y => ap a (.inl y) x
        exact o v Z3 H3 (fun a => S2 a ∨ S3 a) Sd ((st1'.trans st3').less fun a x => x.elim (fun y => y.elim .inr fun z => .inl (.inl z)) fun y => .inl (.inr y)) (fun a x y => x.elim (fun z => ap a (.inr y) z) fun z => dj3 a z y) er4 rd
      | exc x as =>
        simp only [e3] at o
        intro cls dd Z3 H3 S3 st3 ra xr
        have st3' := st3.frame w2 fun a x y => tj a y x
        have ap := st3.apart (fun a x => w2.live a (.inr x)) fun a x y => tj a y x
        have er3 : EnvR K Z3 H3 ρ2 σ S2 := st3.stayE (fun a x y => tj a y x) er2
        have er4 := puts_ok (ds := ds) er3 r1 ra fun a x y => ap a y x
        exact o cls dd Z3 H3 (fun a => S2 a ∨ S3 a) ((st1'.trans st3').less fun a x => x.elim .inr .inl) er4 xr
/-- a def of the module, called by its place -/
theorem run_G {k : Nat} {f : Addr} {fd : FuncData} {ps : List Str} {g : FSem} {pins : List (Addr × Obj)} {s : Shared} {Q : VK} {us : List Value} {kws : List (Str × Value)} {ws : List Value} {vs : List V} (F : FnG X.prog X.w X.K X.mg X.base k f fd ps g) (hgd : X.A.guards = some []) (hr : Room k X.A)
    (tk : Takes X W) (hb : ws.length = ps.length → BindsTo s fd ⟨us, kws⟩ (ps.zip ws)) (I : Inv X pins σ H s) (r : Vals vs ws) (h : spG X.K X.mg g vs H Q (fun cls d H => W cls d σ H)) :
    codeAny (model X.prog X.w) X.A (.call (.ref f) ⟨us, kws⟩) (fun r s' => match r with
      | .ok (.ret u) => EP X pins σ Q u s'
      | .ok _ => False
      | .error e => X.xe e s') s := by
  have hl : ws.length = ps.length := by rw [← r.length]; exact spG_len F.len h
  refine codeAny_mono (F.run X.A X.stack s H ⟨us, kws⟩ ws vs Q _ hgd hr I.env0 (hb hl) r h) fun r s' hq => ?_
  cases r with
  | error e => exact passAt tk σ pins H s e s' I hq
  | ok fl =>
    cases fl with
    | ret u => exact I.after hq
    | next => exact hq.elim
    | brk => exact hq.elim
    | cont => exact hq.elim
theorem pe_callG {k : Nat} {f : Addr} {fd : FuncData} {ps : List Str} {g : FSem} {x : Str} {p pos : Pos} {e : Expr} {es : List Expr} {fs : M (List EV)} (F : FnG X.prog X.w X.K X.mg X.base k f fd ps g) (hgd : X.A.guards = some []) (hr : Room k X.A) (tk : Takes X W)
    (hg : Gl X x) (hm : X.mg x = some (.ref f)) (hk : PySem.W.keepIn X.K (.ref f) = true) (hb : Binds X.K fd ps []) (ha : PA X (e :: es) (tA X.K X.mg W fs)) (hdb : (x == ("__debug__" : Str)) = false)
    (he : starEach (e :: es) X.env = (false, eval e X.env) :: starEach es X.env) (hpl : (backTo pos (starEach es X.env)).any (·.1) = false) : PE X (.Call (.Name x p) (e :: es) [] pos) (tE X.K X.mg W (callF g fs)) := by
  refine ⟨fun pins s σ H Q I h => ?_⟩
  refine wpAny_Call_Name_kw (ld_glob I hg hm ?_ hdb)
  refine PySem.W.callWith_K (h₀ := X.base) I.ok.mod.kin hk (thn (ha.run pos pins s σ H _ I (tE_call h)) fun us s1 ⟨vs, H1, I1, r, q⟩ => ⟨I1.kIn, ?_⟩) he hpl
  refine wpAny_call (codeAny_mono (run_G (ws := us) F hgd hr tk (fun hl => by have b := hb s1 us I1.kIn (by rw [List.append_nil]; exact hl); rw [List.append_nil] at b; exact b) I1 r q) fun r s' hq => ?_)
  cases r with
  | error e => exact hq
  | ok fl =>
    cases fl with
    | ret u => exact hq
    | next => exact hq.elim
    | brk => exact hq.elim
    | cont => exact hq.elim
end
end Pm
namespace Pm
open PySem PySem.Spec PyProof.Rows L2
section
variable {K : PySem.W.Frag} {mg : Str → Option Value} {W : WX} {Z H : Hp} {S : Fp} {σ : Sl} {X : Cx}
theorem tE_mono {f : M EV} {Q Q' : VK} (i : ∀ v H, Q v H → Q' v H) (h : tE K mg W f σ H Q) : tE K mg W f σ H Q' := by
  obtain ⟨Z, ρ, S, w, er, o⟩ := h
  refine ⟨Z, ρ, S, w, er, ?_⟩
  cases e : f ρ with
  | stuck => rw [e] at o; exact o
  | exc x ρ1 => rw [e] at o; exact o
  | ok ev ρ1 =>
    rw [e] at o
    exact fun v Z' H' S' Sd st dj er r => i _ _ (o v Z' H' S' Sd st dj er r)
def Opd (X : Cx) (f : Value → Value → Sem Value) (g : List D → Option D) : Prop := ∃ r : R2, OpR X f r ∧ Snd X (fun vs H Q => ∃ x y, vs = [x, y] ∧ r x y H Q) g
theorem two_of {fa fb : M EV} {r : R2} {Q : VK} (h : tA K mg W (aCons fa (aCons fb aNil)) σ H fun vs H1 => ∃ x y, vs = [x, y] ∧ r x y H1 Q) : tOp r (tE K mg W fa) (tE K mg W fb) σ H Q := by
  refine tE_mono (fun x H1 q => ?_) (tA_cons h)
  refine tE_mono (fun y H2 q => ?_) (tA_cons q)
  have q' := tA_nil q
  obtain ⟨x', y', e, q''⟩ := q'
  cases e
  exact q''
abbrev bin (g : List D → Option D) (fa fb : M EV) : M EV := app g (aCons fa (aCons fb aNil))
abbrev un (g : List D → Option D) (fa : M EV) : M EV := app g (aCons fa aNil)
theorem pe_bin {a b : Expr} {op : Operator} {fa fb : M EV} {g : List D → Option D} {pos : Pos} (ho : Opd X (binaryOp op) g) (ha : PE X a (tE X.K X.mg W fa)) (hb : PE X b (tE X.K X.mg W fb)) : PE X (.BinOp a op b pos) (tE X.K X.mg W (bin g fa fb)) := by
  obtain ⟨r, h1, h2⟩ := ho
  exact PE.of (pe_op h1 ha hb) fun σ H Q q => two_of (tE_app h2 q)
theorem pe_cmpG {a b : Expr} {op : CmpOp} {fa fb : M EV} {g : List D → Option D} {pos : Pos} (ho : Opd X (compareOp op) g) (ha : PE X a (tE X.K X.mg W fa)) (hb : PE X b (tE X.K X.mg W fb)) (hm : behindInMarks op b = false) : PE X (.Compare a [op] [b] pos) (tE X.K X.mg W (bin g fa fb)) := by
  obtain ⟨r, h1, h2⟩ := ho
  exact PE.of (pe_cmpR h1 ha hb hm) fun σ H Q q => two_of (tE_app h2 q)
theorem pt_cmpG {a b : Expr} {op : CmpOp} {fa fb : M EV} {g : List D → Option D} {pos : Pos} (ho : Opd X (compareOp op) g) (ha : PE X a (tE X.K X.mg W fa)) (hb : PE X b (tE X.K X.mg W fb)) (hm : behindInMarks op b = false) : PT X (.Compare a [op] [b] pos) (tT X.K X.mg W (tst (bin g fa fb))) := by
  obtain ⟨r, h1, h2⟩ := ho
  refine PT.of (pt_cmpR h1 ha hb hm) fun σ H Q q => ?_
  exact two_of (r := r) (tE_app h2 (tT_tst q))
theorem Opd.or {f : Value → Value → Sem Value} {g1 g2 g : List D → Option D} (h1 : Opd X f g1) (h2 : Opd X f g2) (hg : ∀ ds d, g ds = some d → g1 ds = some d ∨ g2 ds = some d) : Opd X f g := by
  obtain ⟨r1, a1, b1⟩ := h1
  obtain ⟨r2, a2, b2⟩ := h2
  refine ⟨_, OpR.or a1 a2, fun Z H S ds vs d Q w r e k => ?_⟩
  rcases hg ds d e with e | e
  · obtain ⟨x, y, ev, q⟩ := b1 Z H S ds vs d Q w r e k
    exact ⟨x, y, ev, .inl q⟩
  · obtain ⟨x, y, ev, q⟩ := b2 Z H S ds vs d Q w r e k
    exact ⟨x, y, ev, .inr q⟩
/-- nothing is made -/
theorem snd_pure {r : List V → Hp → VK → Prop} {g : List D → Option D} (h : ∀ (Z H : Hp) (S : Fp) (ds : List D) (vs : List V) (d : D) (Q : VK), Wd Z H S → RepB X.K Z H S ds vs → g ds = some d → (∀ v, Rep X.K Z H d v Fp0 → Q v H) → r vs H Q) : Snd X r g :=
  fun Z H S ds vs d Q w rb e k => h Z H S ds vs d Q w rb e fun v rv => k v Z H Fp0 w.nil (fun _ _ e => e) (fun _ _ x => x) rv
theorem rb1 {d : D} {vs : List V} (h : RepB K Z H S [d] vs) : ∃ v, vs = [v] ∧ Rep K Z H d v S := by
  cases vs with
  | nil => exact h.elim
  | cons v vs =>
    cases vs with
    | nil => exact ⟨v, rfl, h.1⟩
    | cons u us => exact h.2.elim
theorem rb2 {d e : D} {vs : List V} (h : RepB K Z H S [d, e] vs) : ∃ v u, vs = [v, u] ∧ Rep K Z H d v S ∧ Rep K Z H e u S := by
  cases vs with
  | nil => exact h.elim
  | cons v vs =>
    obtain ⟨u, rfl, r⟩ := rb1 h.2
    exact ⟨v, u, rfl, h.1, r⟩
/-- two ints -/
def on2I (g : Int → Int → Option D) : List D → Option D
  | [.int i, .int j] => g i j
  | _ => none
theorem on2I_inv {g : Int → Int → Option D} {ds : List D} {d : D} (h : on2I g ds = some d) : ∃ i j, ds = [.int i, .int j] ∧ g i j = some d := by
  unfold on2I at h
  split at h
  · exact ⟨_, _, rfl, h⟩
  · cases h
theorem opd_I {f : Value → Value → Sem Value} {C : Int → Int → Prop} {hv : Int → Int → V} {g : Int → Int → Option D} (ho : OpR X f (rI C hv)) (hg : ∀ i j d, g i j = some d → C i j ∧ ∀ Z H, Rep X.K Z H d (hv i j) Fp0) : Opd X f (on2I g) := by
  refine ⟨_, ho, snd_pure fun Z H S ds vs d Q w rb e k => ?_⟩
  obtain ⟨i, j, rfl, eg⟩ := on2I_inv e
  obtain ⟨v, u, rfl, rv, ru⟩ := rb2 rb
  obtain ⟨c, rd⟩ := hg i j d eg
  exact ⟨v, u, rfl, i, j, rv, ru, c, k _ (rd Z H)⟩
theorem opd_I0 {f : Value → Value → Sem Value} {hv : Int → Int → V} {g : Int → Int → Option D} (ho : OpR X f (rI0 hv)) (hg : ∀ i j d, g i j = some d → ∀ Z H, Rep X.K Z H d (hv i j) Fp0) : Opd X f (on2I g) := by
  refine ⟨_, ho, snd_pure fun Z H S ds vs d Q w rb e k => ?_⟩
  obtain ⟨i, j, rfl, eg⟩ := on2I_inv e
  obtain ⟨v, u, rfl, rv, ru⟩ := rb2 rb
  exact ⟨v, u, rfl, i, j, rv, ru, k _ (hg i j d eg Z H)⟩
def mulOk (i j : Int) : Bool := decide (i.natAbs < 2 ^ 64 ∨ j.natAbs < 2 ^ 64 ∨ i.natAbs.log2 + j.natAbs.log2 < 1000000)
def divOk (j : Int) : Bool := decide (j.natAbs.log2 < 9000)
def powOk (i j : Int) : Bool := decide (0 ≤ j ∧ j ≤ 1000000 ∧ i.natAbs < 2 ^ 64)
def iDiv (i j : Int) : Option D := if 0 < j then (if divOk j = true then some (.int (i / j)) else none) else if j < 0 then (if divOk j = true then some (.int (i.fdiv j)) else none) else none
def iMod (i j : Int) : Option D := if 0 < j then some (.int (i % j)) else if j < 0 then some (.int (i.fmod j)) else none
def iMul (i j : Int) : Option D := if mulOk i j = true then some (.int (i * j)) else none
def iPow (i j : Int) : Option D := if powOk i j = true then some (.int (i ^ j.toNat)) else none
def CDivA (i j : Int) : Prop := j ≠ 0 ∧ j.natAbs.log2 < 9000
theorem op_fdivA : OpR X (binaryOp .FloorDiv) (rI CDivA fun i j => .int (i.fdiv j)) := opI fun _ _ _ _ _ _ _ hc q => floordiv_int hc.1 q (.inl (PyProof.noPylong_of_log2 hc.2))
theorem mulOk_ok {i j : Int} (h : mulOk i j = true) : IntMulOk i j := by
  have h' := of_decide_eq_true h
  rcases h' with h' | h' | h'
  · exact .of_left (intBits_le_64 (by omega) (by omega))
  · exact .of_right (intBits_le_64 (by omega) (by omega))
  · exact CMulW.ok h'
theorem op_mulA : OpR X (binaryOp .Mult) (rI IntMulOk fun i j => .int (i * j)) := opI fun _ _ _ _ _ _ _ hc q => mul_int q hc
theorem iDiv_ok {i j : Int} {d : D} (h : iDiv i j = some d) : CDivA i j ∧ d = .int (i.fdiv j) := by
  unfold iDiv at h
  split at h
  · split at h
    · rename_i hj hd
      refine ⟨⟨by omega, of_decide_eq_true hd⟩, ?_⟩
      rw [Int.fdiv_eq_ediv_of_nonneg i (by omega)]
      exact (Option.some.inj h).symm
    · cases h
  · split at h
    · split at h
      · rename_i hj hd
        exact ⟨⟨by omega, of_decide_eq_true hd⟩, (Option.some.inj h).symm⟩
      · cases h
    · cases h
theorem iMod_ok {i j : Int} {d : D} (h : iMod i j = some d) : j ≠ 0 ∧ d = .int (i.fmod j) := by
  unfold iMod at h
  split at h
  · refine ⟨by omega, ?_⟩
    rw [Int.fmod_eq_emod_of_nonneg i (by omega)]
    exact (Option.some.inj h).symm
  · split at h
    · exact ⟨by omega, (Option.some.inj h).symm⟩
    · cases h
theorem iMul_ok {i j : Int} {d : D} (h : iMul i j = some d) : IntMulOk i j ∧ d = .int (i * j) := by
  unfold iMul at h
  split at h
  · rename_i c
    exact ⟨mulOk_ok c, (Option.some.inj h).symm⟩
  · cases h
theorem opd_divI : Opd X (binaryOp .FloorDiv) (on2I iDiv) := opd_I op_fdivA fun i j d h => ⟨(iDiv_ok h).1, fun Z H => by rw [(iDiv_ok h).2]; rfl⟩
theorem opd_modI : Opd X (binaryOp .Mod) (on2I iMod) := opd_I op_modN fun i j d h => ⟨(iMod_ok h).1, fun Z H => by rw [(iMod_ok h).2]; rfl⟩
theorem opd_mulI : Opd X (binaryOp .Mult) (on2I iMul) := opd_I op_mulA fun i j d h => ⟨(iMul_ok h).1, fun Z H => by rw [(iMul_ok h).2]; rfl⟩
theorem opd_powI : Opd X (binaryOp .Pow) (on2I iPow) := opd_I op_pow fun i j d h => by
  unfold iPow at h
  split at h
  · rename_i c
    refine ⟨show 0 ≤ j ∧ j ≤ 1000000 ∧ i.natAbs < 2 ^ 64 from of_decide_eq_true c, fun Z H => ?_⟩
    rw [← Option.some.inj h]
    rfl
  · cases h
def iAdd (i j : Int) : Option D := some (.int (i + j))
def iSub (i j : Int) : Option D := some (.int (i - j))
theorem opd_addI : Opd X (binaryOp .Add) (on2I iAdd) := opd_I0 op_add fun i j d h Z H => by rw [← Option.some.inj h]; rfl
theorem opd_subI : Opd X (binaryOp .Sub) (on2I iSub) := opd_I0 op_sub fun i j d h Z H => by rw [← Option.some.inj h]; rfl
def iLt (i j : Int) : Option D := some (.bl (decide (i < j)))
def iLe (i j : Int) : Option D := some (.bl (decide (i ≤ j)))
def iGt (i j : Int) : Option D := some (.bl (decide (j < i)))
def iGe (i j : Int) : Option D := some (.bl (decide (j ≤ i)))
theorem opd_ltI : Opd X (compareOp .Lt) (on2I iLt) := opd_I0 op_lt fun i j d h Z H => by rw [← Option.some.inj h]; rfl
theorem opd_gtI : Opd X (compareOp .Gt) (on2I iGt) := opd_I0 op_gt fun i j d h Z H => by rw [← Option.some.inj h]; rfl
theorem opd_geI : Opd X (compareOp .GtE) (on2I iGe) := opd_I0 op_ge fun i j d h Z H => by rw [← Option.some.inj h]; rfl
end
end Pm
set_option maxHeartbeats 2000000
namespace Pm
open PySem PySem.Spec PyProof.Rows L2 SeqAt
theorem str_eq_dict (b : Str) (u : Tok) (l : Addr) (es : Array DictEntry) (n : Nat) (dd : Option Addr) (sl : Array (Option Value)) :
    Meets (Builtin.«str.__eq__» ⟨[.str b u, .ref l], []⟩) (fun _ R s => s.heap.get? l = some { cls := .type "dict", dict := dd, data := .dict es n, slots := sl } ∧ R (.ok (.ret .notImplemented)) s) :=
  .of_wp fun prog w A R s h => by
    obtain ⟨hp, g, d, tk, os⟩ := s
    obtain ⟨hl, h⟩ := h
    wp_walk using wpAny_loadPart' hl, wpAny_load hl
    exact ⟨_, rfl, h⟩
theorem dict_eq_str (b : Str) (u : Tok) (l : Addr) (es : Array DictEntry) (n : Nat) (dd : Option Addr) (sl : Array (Option Value)) :
    Meets (Builtin.«dict.__eq__» ⟨[.ref l, .str b u], []⟩) (fun _ R s => s.heap.get? l = some { cls := .type "dict", dict := dd, data := .dict es n, slots := sl } ∧ R (.ok (.ret .notImplemented)) s) :=
  .of_wp fun prog w A R s h => by
    obtain ⟨hp, g, d, tk, os⟩ := s
    obtain ⟨hl, h⟩ := h
    have f1 := F.sub_str_dict
    wp_walk using wpAny_loadPart' hl, wpAny_load hl
    exact ⟨_, rfl, h⟩
theorem rc_str_dict {A : Around} {s : Shared} {l : Addr} {es : Array DictEntry} {n : Nat} {dd : Option Addr} {sl : Array (Option Value)} (b : Str) (u : Tok) (ho : s.heap.get? l = some { cls := .type "dict", dict := dd, data := .dict es n, slots := sl }) (hu : A.units < cLine) : RcAt A s (.str b u) (.ref l) false := fun prog w E Q h =>
  rc_eq_decline_or (k := false) (typeIs_str s b u) ⟨_, ho, rfl⟩ (by decide) F.sub_dict_str F.slot_str_eq F.slot_dict_eq_refl
    (fun _ hq => call_meets F.slot_str_eq (typeIs_str s b u) F.entry_str_eq (F.args_str_eq_2 _ _) (str_eq_dict b u l es n dd sl) ⟨ho, hq⟩)
    (fun _ hq => call_meets F.slot_dict_eq_refl ⟨_, ho, rfl⟩ F.entry_dict_eq (F.args_dict_eq_2 _ _) (dict_eq_str b u l es n dd sl) ⟨ho, hq⟩)
    (fun _ hq => wpAny_of_eq (rfl : isSame (.str b u) (.ref l) = pure false) hq) (.inr hu) h
def rEqSD : R2 := fun x y H Q => ∃ (b : Str) (a : Addr) (kvs : List (Key × V)), x = .str b ∧ y = .ref a ∧ Rd H a (.dK kvs) ∧ Q (.bl false) H
theorem op_eq_sd {X : Cx} (hu : X.A.units + 64 < cLine) : OpR X (compareOp .Eq) rEqSD := by
  intro pins s σ H x y v u Q I rx ry h
  obtain ⟨b, a, kvs, rfl, rfl, hr, q⟩ := h
  obtain ⟨t, rfl⟩ := rx
  cases ry
  obtain ⟨_, _, vs, _, dd⟩ := dk_rd I.hok hr
  obtain ⟨⟨cls, dx, data, sl⟩, es, ep, h1, h2, h3, h4⟩ := dd
  simp only at h2 h3
  have hc : cls = .type "dict" := h2.1
  subst hc
  subst h3
  exact rc_str_dict (A := X.A) b t h1 (by omega) _ _ X.xe _ ⟨.bl false, H, I, rfl, q⟩
end Pm
namespace Pm
open PySem PySem.Spec PyProof.Rows L2
mutual
def toP : D → PyData
  | .non => .none
  | .bl b => .bool b
  | .int i => .int i
  | .str x => .str x
  | .op _ => .none
  | .node _ .lst xs => .list (toPL xs)
  | .node _ .tup xs => .tuple (toPL xs)
  | .node _ _ _ => .none
def toPL : List D → List PyData
  | [] => []
  | d :: ds => toP d :: toPL ds
end
mutual
def deq : D → D → Bool
  | .non, .non => true
  | .bl a, .bl b => a == b
  | .bl a, .int j => (if a then 1 else 0) == j
  | .int i, .bl b => i == (if b then 1 else 0)
  | .int i, .int j => i == j
  | .str x, .str y => x == y
  | .node _ .lst xs, .node _ .lst ys => deqL xs ys
  | .node _ .tup xs, .node _ .tup ys => deqL xs ys
  | _, _ => false
def deqL : List D → List D → Bool
  | [], [] => true
  | x :: xs, y :: ys => deq x y && deqL xs ys
  | _, _ => false
end
/-- data that are compared and shown: at most n deep, numbers of less than 1900 bits if they are to be shown -/
def shp : Nat → D → Bool
  | _, .non => true
  | _, .bl _ => true
  | _, .int _ => true
  | _, .str x => PyData.strOk x
  | n + 1, .node _ .lst xs => xs.all (shp n)
  | n + 1, .node _ .tup xs => xs.all (shp n)
  | _, _ => false
def shw : Nat → D → Bool
  | _, .non => true
  | _, .bl _ => true
  | _, .int i => decide (i.natAbs.log2 < 1900)
  | _, .str _ => true
  | n + 1, .node _ .lst xs => xs.all (shw n)
  | n + 1, .node _ .tup xs => xs.all (shw n)
  | _, _ => false
section
variable {K : PySem.W.Frag} {mg : Str → Option Value} {W : WX} {Z H : Hp} {S : Fp} {σ : Sl} {X : Cx}
theorem rep_lst {b : Bool} {ds : List D} {v : V} (w : Sam Z H) (r : Rep K Z H (.node b .lst ds) v S) : ∃ a ys, v = .ref a ∧ H a = some (.lst ys) ∧ RepL K Z H ds ys S := by
  cases b with
  | false =>
    obtain ⟨a, ys, e, c, q⟩ := r
    exact ⟨a, ys, e, w.get _ _ c nt_lst, q⟩
  | true =>
    obtain ⟨a, ys, S', e, c, sa, na, sub, q⟩ := r
    exact ⟨a, ys, e, c, q.move (Same.refl Z) (fun _ _ _ x => x) sub⟩
theorem rep_tup {b : Bool} {ds : List D} {v : V} (w : Sam Z H) (r : Rep K Z H (.node b .tup ds) v S) : ∃ a ys, v = .ref a ∧ SqT K H a ys ∧ RepL K Z H ds ys S := by
  cases b with
  | false =>
    obtain ⟨a, ys, e, c, q⟩ := r
    exact ⟨a, ys, e, SqT.sam c w, q⟩
  | true =>
    obtain ⟨a, ys, e, c, q⟩ := r
    exact ⟨a, ys, e, SqT.sam c.1 w, q⟩
theorem dp_all (w : Sam Z H) {n : Nat} (ih : ∀ (d : D) (v : V) (S : Fp), shp n d = true → Rep K Z H d v S → Dp K H v (toP d)) : ∀ {ds : List D} {vs : List V} {S : Fp}, ds.all (shp n) = true → RepL K Z H ds vs S → DpAll K H vs (toPL ds)
  | [], [], _, _, _ => .nil
  | [], _ :: _, _, _, h => h.elim
  | _ :: _, [], _, _, h => h.elim
  | d :: ds, v :: vs, S, h, ⟨S1, S2, s1, s2, dj, r, q⟩ => by
    rw [List.all_cons, Bool.and_eq_true] at h
    exact .cons (ih d v S1 h.1 r) (dp_all w ih h.2 q)
theorem dp_of (w : Sam Z H) : ∀ (n : Nat) (d : D) (v : V) (S : Fp), shp n d = true → Rep K Z H d v S → Dp K H v (toP d) := by
  intro n
  induction n with
  | zero =>
    intro d v S h r
    cases d with
    | non => obtain rfl : v = .non := r; exact .non
    | bl b => obtain rfl : v = .bl b := r; exact .bl b
    | int i => obtain rfl : v = .int i := r; exact .int i
    | str x => obtain rfl : v = .str x := r; exact .str x
    | op u => simp [shp] at h
    | node b k xs => cases k <;> simp [shp] at h
  | succ n ih =>
    intro d v S h r
    cases d with
    | non => obtain rfl : v = .non := r; exact .non
    | bl b => obtain rfl : v = .bl b := r; exact .bl b
    | int i => obtain rfl : v = .int i := r; exact .int i
    | str x => obtain rfl : v = .str x := r; exact .str x
    | op u => simp [shp] at h
    | node b k xs =>
      cases k with
      | lst =>
        obtain ⟨a, ys, rfl, c, q⟩ := rep_lst w r
        exact .lst (SqL.of c) (dp_all w ih (by simpa [shp] using h) q)
      | tup =>
        obtain ⟨a, ys, rfl, c, q⟩ := rep_tup w r
        exact .tup c (dp_all w ih (by simpa [shp] using h) q)
      | dct ks => simp [shp] at h
      | scr => simp [shp] at h
      | obj C fs => simp [shp] at h
      | ins C fs => simp [shp] at h
theorem shp_can : ∀ (n : Nat) (d : D), shp n d = true → PyData.canLay0 (toP d) = true ∧ PyData.depth (toP d) ≤ n := by
  intro n
  induction n with
  | zero =>
    intro d h
    cases d with
    | non => exact ⟨rfl, Nat.zero_le _⟩
    | bl b => exact ⟨rfl, Nat.zero_le _⟩
    | int i => exact ⟨rfl, Nat.zero_le _⟩
    | str x => exact ⟨by simpa [shp, toP, PyData.canLay0] using h, Nat.zero_le _⟩
    | op u => simp [shp] at h
    | node b k xs => cases k <;> simp [shp] at h
  | succ n ih =>
    have all : ∀ xs : List D, xs.all (shp n) = true → PyData.canLayAll0 (toPL xs) = true ∧ PyData.depthAll (toPL xs) ≤ n := by
      intro xs
      induction xs with
      | nil => intro _; exact ⟨rfl, Nat.zero_le _⟩
      | cons x xs ih2 =>
        intro h
        rw [List.all_cons, Bool.and_eq_true] at h
        obtain ⟨a1, a2⟩ := ih x h.1
        obtain ⟨b1, b2⟩ := ih2 h.2
        refine ⟨by simp only [toPL, PyData.canLayAll0, a1, b1] <;> rfl, ?_⟩
        simp only [toPL, PyData.depthAll]
        omega
    intro d h
    cases d with
    | non => exact ⟨rfl, Nat.zero_le _⟩
    | bl b => exact ⟨rfl, Nat.zero_le _⟩
    | int i => exact ⟨rfl, Nat.zero_le _⟩
    | str x => exact ⟨by simpa [shp, toP, PyData.canLay0] using h, Nat.zero_le _⟩
    | op u => simp [shp] at h
    | node b k xs =>
      cases k with
      | lst =>
        obtain ⟨a1, a2⟩ := all xs (by simpa [shp] using h)
        refine ⟨by simpa [toP, PyData.canLay0] using a1, ?_⟩
        simp only [toP, PyData.depth]
        omega
      | tup =>
        obtain ⟨a1, a2⟩ := all xs (by simpa [shp] using h)
        refine ⟨by simpa [toP, PyData.canLay0] using a1, ?_⟩
        simp only [toP, PyData.depth]
        omega
      | dct ks => simp [shp] at h
      | scr => simp [shp] at h
      | obj C fs => simp [shp] at h
      | ins C fs => simp [shp] at h
theorem eqv_all {n : Nat} (ih : ∀ d e : D, shp n d = true → shp n e = true → PyData.eqv (toP d) (toP e) = deq d e) : ∀ xs ys : List D, xs.all (shp n) = true → ys.all (shp n) = true → PyData.eqvAll (toPL xs) (toPL ys) = deqL xs ys
  | [], [], _, _ => rfl
  | [], _ :: _, _, _ => rfl
  | _ :: _, [], _, _ => rfl
  | x :: xs, y :: ys, h1, h2 => by
    rw [List.all_cons, Bool.and_eq_true] at h1 h2
    simp only [toPL, PyData.eqvAll, deqL]
    rw [ih x y h1.1 h2.1, eqv_all ih xs ys h1.2 h2.2]
theorem eqv_deq : ∀ (n : Nat) (d e : D), shp n d = true → shp n e = true → PyData.eqv (toP d) (toP e) = deq d e := by
  intro n
  induction n with
  | zero =>
    intro d e h1 h2
    cases d with
    | op u => simp [shp] at h1
    | node b k xs => cases k <;> simp [shp] at h1
    | _ =>
      cases e with
      | op u => simp [shp] at h2
      | node b k xs => cases k <;> simp [shp] at h2
      | _ => simp [toP, PyData.eqv, deq]
  | succ n ih =>
    intro d e h1 h2
    cases d with
    | op u => simp [shp] at h1
    | node b k xs =>
      cases k with
      | dct ks => simp [shp] at h1
      | scr => simp [shp] at h1
      | obj C fs => simp [shp] at h1
      | ins C fs => simp [shp] at h1
      | lst =>
        cases e with
        | op u => simp [shp] at h2
        | node b' k' ys =>
          cases k' with
          | dct ks => simp [shp] at h2
          | scr => simp [shp] at h2
          | obj C fs => simp [shp] at h2
          | ins C fs => simp [shp] at h2
          | lst =>
            simp only [toP, PyData.eqv, deq]
            exact eqv_all ih xs ys (by simpa [shp] using h1) (by simpa [shp] using h2)
          | tup => simp [toP, PyData.eqv, deq]
        | _ => simp [toP, PyData.eqv, deq]
      | tup =>
        cases e with
        | op u => simp [shp] at h2
        | node b' k' ys =>
          cases k' with
          | dct ks => simp [shp] at h2
          | scr => simp [shp] at h2
          | obj C fs => simp [shp] at h2
          | ins C fs => simp [shp] at h2
          | tup =>
            simp only [toP, PyData.eqv, deq]
            exact eqv_all ih xs ys (by simpa [shp] using h1) (by simpa [shp] using h2)
          | lst => simp [toP, PyData.eqv, deq]
        | _ => simp [toP, PyData.eqv, deq]
    | _ =>
      cases e with
      | op u => simp [shp] at h2
      | node b k xs =>
        cases k with
        | dct ks => simp [shp] at h2
        | scr => simp [shp] at h2
        | obj C fs => simp [shp] at h2
        | ins C fs => simp [shp] at h2
        | _ => simp [toP, PyData.eqv, deq]
      | _ => simp [toP, PyData.eqv, deq]
def opEqD : List D → Option D
  | [d, e] => if shp 60 d && shp 60 e then some (.bl (deq d e)) else none
  | _ => none
def opNeD : List D → Option D
  | [d, e] => if shp 60 d && shp 60 e then some (.bl (!deq d e)) else none
  | _ => none
theorem shaped_of {d : D} (h : shp 60 d = true) : SeqAt.shaped (toP d) = true := by
  obtain ⟨a, b⟩ := shp_can 60 d h
  unfold SeqAt.shaped
  rw [a, decide_eq_true (by omega : PyData.depth (toP d) ≤ 64)]
  rfl
theorem opd_eqD (hu : X.A.units + 64 < cLine) : Opd X (compareOp .Eq) opEqD := by
  refine ⟨_, op_eqD hu, snd_pure fun Z H S ds vs d Q w rb e k => ?_⟩
  unfold opEqD at e
  split at e
  · rename_i x y
    split at e
    · rename_i c
      rw [Bool.and_eq_true] at c
      obtain ⟨v, u, rfl, rv, ru⟩ := rb2 rb
      refine ⟨v, u, rfl, toP x, toP y, dp_of w.same _ _ _ _ c.1 rv, dp_of w.same _ _ _ _ c.2 ru, shaped_of c.1, shaped_of c.2, ?_⟩
      rw [eqv_deq 60 x y c.1 c.2]
      exact k _ (by rw [← Option.some.inj e]; rfl)
    · cases e
  · cases e
theorem opd_neD (hu : X.A.units + 64 < cLine) : Opd X (compareOp .NotEq) opNeD := by
  refine ⟨_, op_neD hu, snd_pure fun Z H S ds vs d Q w rb e k => ?_⟩
  unfold opNeD at e
  split at e
  · rename_i x y
    split at e
    · rename_i c
      rw [Bool.and_eq_true] at c
      obtain ⟨v, u, rfl, rv, ru⟩ := rb2 rb
      refine ⟨v, u, rfl, toP x, toP y, dp_of w.same _ _ _ _ c.1 rv, dp_of w.same _ _ _ _ c.2 ru, shaped_of c.1, shaped_of c.2, ?_⟩
      rw [eqv_deq 60 x y c.1 c.2]
      exact k _ (by rw [← Option.some.inj e]; rfl)
    · cases e
  · cases e
def opEq : List D → Option D
  | [.str x, .str y] => some (.bl (x == y))
  | [.str _, .node _ (.dct _) _] => some (.bl false)
  | ds => opEqD ds
def opNe : List D → Option D
  | [.str x, .str y] => some (.bl (!(x == y)))
  | ds => opNeD ds
def opEqS : List D → Option D
  | [.str x, .str y] => some (.bl (x == y))
  | _ => none
def opNeS : List D → Option D
  | [.str x, .str y] => some (.bl (!(x == y)))
  | _ => none
theorem opd_eqS : Opd X (compareOp .Eq) opEqS := by
  refine ⟨_, op_eq, snd_pure fun Z H S ds vs d Q w rb e k => ?_⟩
  unfold opEqS at e
  split at e
  · rename_i x y
    obtain ⟨v, u, rfl, rv, ru⟩ := rb2 rb
    obtain rfl : v = .str x := rv
    obtain rfl : u = .str y := ru
    refine ⟨_, _, rfl, rfl, ?_⟩
    cases e
    refine k _ ?_
    show V.bl (decide (V.str x = V.str y)) = V.bl (x == y)
    rw [show (x == y) = decide (x = y) from rfl]
    simp
  · cases e
theorem opd_neS : Opd X (compareOp .NotEq) opNeS := by
  refine ⟨_, op_ne, snd_pure fun Z H S ds vs d Q w rb e k => ?_⟩
  unfold opNeS at e
  split at e
  · rename_i x y
    obtain ⟨v, u, rfl, rv, ru⟩ := rb2 rb
    obtain rfl : v = .str x := rv
    obtain rfl : u = .str y := ru
    refine ⟨_, _, rfl, rfl, ?_⟩
    cases e
    refine k _ ?_
    show V.bl (!decide (V.str x = V.str y)) = V.bl (!(x == y))
    rw [show (x == y) = decide (x = y) from rfl]
    simp
  · cases e
def opEqSD : List D → Option D
  | [.str _, .node _ (.dct _) _] => some (.bl false)
  | _ => none
def opEqSS : List D → Option D
  | [.str x, .str y] => some (.bl (x == y))
  | [.str _, .node _ (.dct _) _] => some (.bl false)
  | _ => none
theorem opd_eqSD (hu : X.A.units + 64 < cLine) : Opd X (compareOp .Eq) opEqSD := by
  refine ⟨_, op_eq_sd hu, snd_pure fun Z H S ds vs d Q w rb e k => ?_⟩
  unfold opEqSD at e
  split at e
  · rename_i x o ks xs
    obtain ⟨v, u, rfl, rv, ru⟩ := rb2 rb
    obtain rfl : v = .str x := rv
    cases e
    cases o with
    | false =>
      obtain ⟨a, ys, rfl, c, rl⟩ := ru
      exact ⟨_, _, rfl, x, a, _, rfl, rfl, .inl (w.same.get _ _ c.2 nt_dK), k _ rfl⟩
    | true =>
      obtain ⟨a, ys, S', rfl, c, sa, na, sub, rl⟩ := ru
      exact ⟨_, _, rfl, x, a, _, rfl, rfl, .inl c.2, k _ rfl⟩
  · cases e
theorem opd_eqSS (hu : X.A.units + 64 < cLine) : Opd X (compareOp .Eq) opEqSS := Opd.or opd_eqS (opd_eqSD hu) fun ds d h => by
  unfold opEqSS at h
  split at h
  · exact .inl h
  · exact .inr h
  · cases h
theorem opd_eq (hu : X.A.units + 64 < cLine) : Opd X (compareOp .Eq) opEq := Opd.or (opd_eqSS hu) (opd_eqD hu) fun ds d h => by
  unfold opEq at h
  split at h
  · exact .inl h
  · exact .inl h
  · exact .inr h
theorem opd_ne (hu : X.A.units + 64 < cLine) : Opd X (compareOp .NotEq) opNe := Opd.or opd_neS (opd_neD hu) fun ds d h => by
  unfold opNe at h
  split at h
  · exact .inl h
  · exact .inr h
end
end Pm
namespace Pm
open PySem PySem.Spec PyProof.Rows L2
section
variable {K : PySem.W.Frag} {mg : Str → Option Value} {W : WX} {Z H : Hp} {S : Fp} {σ : Sl} {X : Cx} {A : Nat → Bool}
theorem tE_fin {fs : M (List EV)} {F : List EV → M EV} {Q : VK} {R : List V → Hp → Prop} (h : tE K mg W (bnd fs F) σ H Q)
    (hR : ∀ es ρ1 vs Z1 H1 S1 Sa, Wd Z1 H1 (fun a => S1 a ∨ Sa a) → (∀ a, S1 a → Sa a → False) → EnvR K Z1 H1 ρ1 σ S1 → EVsR K Z1 H1 σ es vs Sa → OutE K mg W Z1 H1 (fun a => S1 a ∨ Sa a) σ Q (F es ρ1) → R vs H1) : tA K mg W fs σ H R := by
  obtain ⟨Z, ρ, S, w, er, o⟩ := h
  refine ⟨Z, ρ, S, w, er, ?_⟩
  simp only [bnd] at o
  cases e1 : fs ρ with
  | stuck => rw [e1] at o; exact o
  | exc x ρ1 => rw [e1] at o; exact o
  | ok es ρ1 =>
    simp only [e1] at o
    exact fun vs Z1 H1 S1 Sa st dj er1 r1 => hR es ρ1 vs Z1 H1 S1 Sa st.wd dj er1 r1 (OutE.after st o)
theorem ev1 {e : EV} {vs : List V} (h : EVsR K Z H σ [e] vs S) : ∃ v A1, vs = [v] ∧ (∀ a, A1 a → S a) ∧ EVR K Z H σ e v A1 := by
  cases vs with
  | nil => exact h.elim
  | cons v vs =>
    obtain ⟨S1, S2, s1, s2, dj, r, q⟩ := h
    cases vs with
    | nil => exact ⟨v, S1, rfl, s1, r⟩
    | cons u us => exact q.elim
theorem ev2 {e f : EV} {vs : List V} (h : EVsR K Z H σ [e, f] vs S) : ∃ v u A1 A2, vs = [v, u] ∧ (∀ a, A1 a → S a) ∧ (∀ a, A2 a → S a) ∧ (∀ a, A1 a → A2 a → False) ∧ EVR K Z H σ e v A1 ∧ EVR K Z H σ f u A2 := by
  cases vs with
  | nil => exact h.elim
  | cons v vs =>
    obtain ⟨S1, S2, s1, s2, dj, r, q⟩ := h
    obtain ⟨u, A2, rfl, a2, ru⟩ := ev1 q
    exact ⟨v, u, S1, A2, rfl, s1, fun a x => s2 a (a2 a x), fun a x y => dj a x (a2 a y), r, ru⟩
/-- an item: of a slot's thing it stays there, frozen; of a thing of no name it is taken out -/
def itemOf (ea : EV) (k : Int) : M EV := fun ρ => match ea with
  | .val (.node _ .lst xs) => match atI xs k with
    | some d => .ok (.val d) ρ
    | none => .stuck
  | .val (.node _ .tup xs) => match atI xs k with
    | some d => .ok (.val d) ρ
    | none => .stuck
  | .val (.str x) => if x.length ≤ cap then (match atI x.cps.toList k with
    | some c => .ok (.val (.str ⟨#[c]⟩)) ρ
    | none => .stuck) else .stuck
  | .val _ => .stuck
  | .ref j => match ρ.getD j none with
    | some (.node b .lst xs) => (match ixN xs.length k with
      | some i => match xs[i]? with
        | some d => if d.plain then .ok (.val d) ρ else .ok (.val d.frz) (ρ.set j (some (.node b .lst (xs.set i d.frz))))
        | none => .stuck
      | none => .stuck)
    | some (.node b .tup xs) => (match ixN xs.length k with
      | some i => match xs[i]? with
        | some d => if d.plain then .ok (.val d) ρ else .ok (.val d.frz) (ρ.set j (some (.node b .tup (xs.set i d.frz))))
        | none => .stuck
      | none => .stuck)
    | some (.str x) => if x.length ≤ cap then (match atI x.cps.toList k with
      | some c => .ok (.val (.str ⟨#[c]⟩)) ρ
      | none => .stuck) else .stuck
    | _ => .stuck
def idx (fs : M (List EV)) : M EV := bnd fs fun es => fun ρ => match es with
  | [ea, ei] => match peek1 ρ ei with
    | some (.int k) => itemOf ea k ρ
    | _ => .stuck
  | _ => .stuck
theorem RepL.atI {ds : List D} {vs : List V} {k : Int} {d : D} (r : RepL K Z H ds vs S) (h : L2.atI ds k = some d) : ∃ v, L2.atI vs k = some v ∧ Rep K Z H d v S := by
  unfold L2.atI at h ⊢
  rw [← r.length]
  cases e : ixN ds.length k with
  | none => rw [e] at h; cases h
  | some j =>
    rw [e] at h
    exact r.get h
/-- a frozen item put back into a thing of a slot -/
theorem item_frz {b : Bool} {k : Kd} {xs : List D} {i j : Nat} {d : D} {ρ : Env} (hk : k = .lst ∨ k = .tup) (w : Wd Z H S) (er : EnvR K Z H ρ σ S) (e : ρ.getD j none = some (.node b k xs)) (hx : xs[i]? = some d) :
    ∃ v Z' S', σ[j]? = some (some v) ∧ Step Z H S Z' H S' ∧ (∀ a, S' a → S a) ∧ EnvR K Z' H (ρ.set j (some (.node b k (xs.set i d.frz)))) σ S' ∧
      ∃ a ys y, v = .ref a ∧ Frd K H a ys k ∧ ys[i]? = some y ∧ ys.length = xs.length ∧ Rep K Z' H d.frz y Fp0 := by
  obtain ⟨v, U1, U2, hv, u1, u2, uj, ru, eu⟩ := er.take (getD_some e)
  obtain ⟨hj, ej⟩ := List.getElem?_eq_some_iff.mp hv
  have es : σ.set j (some v) = σ := by rw [← ej, List.set_getElem_self]
  have hl : j < ρ.length := by rw [er.length]; exact hj
  cases b with
  | false =>
    obtain ⟨a, ys, rfl, c, rl⟩ := ru
    obtain ⟨y, T1, T2, hy, t1, t2, tj, ry, put⟩ := rl.take hx
    have st : Step Z H S (thaw Z H T1) H (fun a => T2 a ∨ U2 a) := Step.freeze w (fun a x => u1 a (t1 a x)) (fun a x => x.elim (fun z => u1 a (t2 a z)) (u2 a)) fun a x z => x.elim (fun q => tj a z q) fun q => uj a (t1 a z) q
    have rf : Rep K (thaw Z H T1) H d.frz y Fp0 := Rep.frz ry (fun a x => w.sep a (u1 a (t1 a x))) fun _ x => x
    have hs : ys.set i y = ys := by
      obtain ⟨hi, ei⟩ := List.getElem?_eq_some_iff.mp hy
      rw [← ei, List.set_getElem_self]
    have pl := put (thaw Z H T1) H d.frz y Fp0 T2 st.zz (fun _ _ _ x => x) rf (fun _ x => x.elim) (fun _ x => x) fun _ x _ => x
    rw [hs] at pl
    have rn : Rep K (thaw Z H T1) H (.node false k (xs.set i d.frz)) (.ref a) T2 := ⟨a, ys, rfl, c.same st.zz, pl⟩
    have q := EnvR.put (S := fun a => T2 a ∨ U2 a) (eu.move st.zz (fun _ _ _ x => x) fun _ x => x) hl rn (fun _ x => .inl x) (fun _ x => .inr x) fun a x z => uj a (t2 a x) z
    rw [es] at q
    exact ⟨.ref a, _, _, hv, st, fun a x => x.elim (fun z => u1 a (t2 a z)) (u2 a), q, a, ys, y, rfl, c.sam w.same, hy, rl.length.symm, rf⟩
  | true =>
    rcases hk with rfl | rfl
    · obtain ⟨a, ys, U', rfl, c, sa, na, sub, rl⟩ := ru
      obtain ⟨y, T1, T2, hy, t1, t2, tj, ry, put⟩ := rl.take hx
      have st : Step Z H S (thaw Z H T1) H (fun b => (b = a ∨ T2 b) ∨ U2 b) := Step.freeze w (fun b x => u1 b (sub b (t1 b x))) (fun b x => x.elim (fun z => z.elim (fun q => by rw [q]; exact u1 a sa) fun q => u1 b (sub b (t2 b q))) (u2 b)) fun b x z => x.elim (fun q => q.elim (fun p => na (by rw [← p]; exact t1 b z)) fun p => tj b z p) fun q => uj b (sub b (t1 b z)) q
      have rf : Rep K (thaw Z H T1) H d.frz y Fp0 := Rep.frz ry (fun b x => w.sep b (u1 b (sub b (t1 b x)))) fun _ x => x
      have hs : ys.set i y = ys := by
        obtain ⟨hi, ei⟩ := List.getElem?_eq_some_iff.mp hy
        rw [← ei, List.set_getElem_self]
      have pl := put (thaw Z H T1) H d.frz y Fp0 T2 st.zz (fun _ _ _ x => x) rf (fun _ x => x.elim) (fun _ x => x) fun _ x _ => x
      rw [hs] at pl
      have rn : Rep K (thaw Z H T1) H (.node true .lst (xs.set i d.frz)) (.ref a) (fun b => b = a ∨ T2 b) := ⟨a, ys, T2, rfl, c, .inl rfl, fun x => na (t2 a x), fun b x => .inr x, pl⟩
      have q := EnvR.put (S := fun b => (b = a ∨ T2 b) ∨ U2 b) (eu.move st.zz (fun _ _ _ x => x) fun _ x => x) hl rn (fun _ x => .inl x) (fun _ x => .inr x) fun b x z => x.elim (fun p => uj a sa (by rw [← p]; exact z)) fun p => uj b (sub b (t2 b p)) z
      rw [es] at q
      exact ⟨.ref a, _, _, hv, st, fun b x => x.elim (fun z => z.elim (fun q => by rw [q]; exact u1 a sa) fun q => u1 b (sub b (t2 b q))) (u2 b), q, a, ys, y, rfl, (c.frd (K := K)), hy, rl.length.symm, rf⟩
    · obtain ⟨a, ys, rfl, c, rl⟩ := ru
      obtain ⟨y, T1, T2, hy, t1, t2, tj, ry, put⟩ := rl.take hx
      have st : Step Z H S (thaw Z H T1) H (fun a => T2 a ∨ U2 a) := Step.freeze w (fun a x => u1 a (t1 a x)) (fun a x => x.elim (fun z => u1 a (t2 a z)) (u2 a)) fun a x z => x.elim (fun q => tj a z q) fun q => uj a (t1 a z) q
      have rf : Rep K (thaw Z H T1) H d.frz y Fp0 := Rep.frz ry (fun a x => w.sep a (u1 a (t1 a x))) fun _ x => x
      have hs : ys.set i y = ys := by
        obtain ⟨hi, ei⟩ := List.getElem?_eq_some_iff.mp hy
        rw [← ei, List.set_getElem_self]
      have pl := put (thaw Z H T1) H d.frz y Fp0 T2 st.zz (fun _ _ _ x => x) rf (fun _ x => x.elim) (fun _ x => x) fun _ x _ => x
      rw [hs] at pl
      have rn : Rep K (thaw Z H T1) H (.node true .tup (xs.set i d.frz)) (.ref a) T2 := ⟨a, ys, rfl, ⟨Pm.SqT.same c.1 st.zz, c.2.same st.zz⟩, pl⟩
      have q := EnvR.put (S := fun a => T2 a ∨ U2 a) (eu.move st.zz (fun _ _ _ x => x) fun _ x => x) hl rn (fun _ x => .inl x) (fun _ x => .inr x) fun a x z => uj a (t2 a x) z
      rw [es] at q
      exact ⟨.ref a, _, _, hv, st, fun a x => x.elim (fun z => u1 a (t2 a z)) (u2 a), q, a, ys, y, rfl, Pm.SqT.sam c.1 w.same, hy, rl.length.symm, rf⟩
theorem tE_idx {fs : M (List EV)} {Q : VK} (h : tE K mg W (idx fs) σ H Q) : tA K mg W fs σ H fun vs H1 => ∃ x y, vs = [x, y] ∧ rIx K x y H1 Q := by
  refine tE_fin h fun es ρ1 vs Z1 H1 S1 Sa w dj er1 r1 o => ?_
  split at o
  · rename_i ea ei
    obtain ⟨x, y, A1, A2, rfl, a1, a2, aj, rx, ry⟩ := ev2 r1
    split at o
    · rename_i k hk
      have hy : y = .int k := peek1_rep er1 ry hk
      subst hy
      refine ⟨x, .int k, rfl, ?_⟩
      have w1 : Step Z1 H1 (fun a => S1 a ∨ Sa a) Z1 H1 (fun a => S1 a ∨ A1 a) := (Step.refl w).less fun a z => z.elim .inl fun t => .inr (a1 a t)
      have w0 : Step Z1 H1 (fun a => S1 a ∨ Sa a) Z1 H1 (fun a => S1 a ∨ Fp0 a) := (Step.refl w).less fun a z => z.elim .inl False.elim
      have d1 : ∀ a, S1 a → A1 a → False := fun a p q => dj a p (a1 a q)
      unfold itemOf at o
      split at o
      · rename_i b xs
        split at o
        · rename_i d hd
          obtain ⟨a, ys, rfl, c, rl⟩ := rep_lst w.same rx
          obtain ⟨v, hv, rv⟩ := rl.atI hd
          exact .inl ⟨a, ys, k, v, rfl, rfl, SqL.of c, hv, o v Z1 H1 S1 A1 w1 d1 er1 rv⟩
        · exact o.elim
      · rename_i b xs
        split at o
        · rename_i d hd
          obtain ⟨a, ys, rfl, c, rl⟩ := rep_tup w.same rx
          obtain ⟨v, hv, rv⟩ := rl.atI hd
          exact .inr (.inl ⟨a, ys, k, v, rfl, rfl, c, hv, o v Z1 H1 S1 A1 w1 d1 er1 rv⟩)
        · exact o.elim
      · rename_i z
        split at o
        · rename_i hz
          split at o
          · rename_i c hc
            obtain rfl : x = .str z := rx
            exact .inr (.inr ⟨z, k, c, rfl, rfl, cap_le hz, hc, o _ Z1 H1 S1 Fp0 w0 (fun _ _ x => x) er1 rfl⟩)
          · exact o.elim
        · exact o.elim
      · exact o.elim
      · rename_i j
        have hx : σ[j]? = some (some x) := rx
        split at o
        · rename_i b xs he
          split at o
          · rename_i i hi
            split at o
            · rename_i d hd
              split at o
              · rename_i hp
                have rn := peek1_rep (v := x) (Sa := Fp0) er1 (e := .ref j) hx (show peek1 ρ1 (.ref j) = _ from he)
                obtain ⟨a, ys, rfl, c, rl⟩ := rep_lst w.same rn
                obtain ⟨v, hv, rv⟩ := rl.get hd
                refine .inl ⟨a, ys, k, v, rfl, rfl, SqL.of c, ?_, o v Z1 H1 S1 Fp0 w0 (fun _ _ x => x) er1 (rv.plain hp)⟩
                unfold L2.atI
                rw [← rl.length, hi]
                exact hv
              · have wS : Wd Z1 H1 S1 := w.less fun a z => .inl z
                obtain ⟨v, Z2, S2, hv, st, m, er2, a, ys, y, rfl, c, hy, hl, ry2⟩ := item_frz (.inl rfl) wS er1 he hd
                rw [hv] at hx
                cases hx
                refine .inl ⟨a, ys, k, y, rfl, rfl, SqL.of c, ?_, o y Z2 H1 S2 Fp0 ((w1.less fun a z => .inl z).trans (st.less fun a z => z.elim id False.elim)) (fun _ _ x => x) er2 ry2⟩
                unfold L2.atI
                rw [hl, hi]
                exact hy
            · exact o.elim
          · exact o.elim
        · rename_i b xs he
          split at o
          · rename_i i hi
            split at o
            · rename_i d hd
              split at o
              · rename_i hp
                have rn := peek1_rep (v := x) (Sa := Fp0) er1 (e := .ref j) hx (show peek1 ρ1 (.ref j) = _ from he)
                obtain ⟨a, ys, rfl, c, rl⟩ := rep_tup w.same rn
                obtain ⟨v, hv, rv⟩ := rl.get hd
                refine .inr (.inl ⟨a, ys, k, v, rfl, rfl, c, ?_, o v Z1 H1 S1 Fp0 w0 (fun _ _ x => x) er1 (rv.plain hp)⟩)
                unfold L2.atI
                rw [← rl.length, hi]
                exact hv
              · have wS : Wd Z1 H1 S1 := w.less fun a z => .inl z
                obtain ⟨v, Z2, S2, hv, st, m, er2, a, ys, y, rfl, c, hy, hl, ry2⟩ := item_frz (.inr rfl) wS er1 he hd
                rw [hv] at hx
                cases hx
                refine .inr (.inl ⟨a, ys, k, y, rfl, rfl, c, ?_, o y Z2 H1 S2 Fp0 ((w1.less fun a z => .inl z).trans (st.less fun a z => z.elim id False.elim)) (fun _ _ x => x) er2 ry2⟩)
                unfold L2.atI
                rw [hl, hi]
                exact hy
            · exact o.elim
          · exact o.elim
        · rename_i z he
          split at o
          · rename_i hz
            split at o
            · rename_i c hc
              have rn : x = .str z := peek1_rep (v := x) (Sa := Fp0) er1 (e := .ref j) hx (show peek1 ρ1 (.ref j) = _ from he)
              subst rn
              exact .inr (.inr ⟨z, k, c, rfl, rfl, cap_le hz, hc, o _ Z1 H1 S1 Fp0 w0 (fun _ _ x => x) er1 rfl⟩)
            · exact o.elim
          · exact o.elim
        · exact o.elim
    · exact o.elim
  · exact o.elim
theorem pe_idx {a b : Expr} {fa fb : M EV} {pos : Pos} (ha : PE X a (tE X.K X.mg W fa)) (hb : PE X b (tE X.K X.mg W fb)) (hs : PlainIx b) : PE X (.Subscript a b pos) (tE X.K X.mg W (idx (aCons fa (aCons fb aNil)))) :=
  PE.of (pe_ix ix_seq ha hb hs) fun σ H Q q => two_of (tE_idx q)
end
end Pm
namespace Pm
open PySem PySem.Spec PyProof.Rows L2
/-- what is in it is plain -/
def D.shal : D → Bool
  | .node _ _ xs => plainL xs
  | _ => true
section
variable {K : PySem.W.Frag} {mg : Str → Option Value} {W : WX} {Z H : Hp} {S : Fp} {σ : Sl} {X : Cx} {A : Nat → Bool}
/-- an operation whose result shares the items of what it is given: they are frozen first, if they are not plain -/
def appF (g : List D → Option D) (fs : M (List EV)) : M EV := bnd fs fun es => fun ρ => match peeks ρ es with
  | some ds => if ds.all D.shal then (match g ds with
      | some d => .ok (.val d) ρ
      | none => .stuck)
    else match useL es ρ with
      | .ok ds' ρ' => (match g (frzL ds') with
        | some d => .ok (.val d) ρ'
        | none => .stuck)
      | _ => .stuck
  | none => .stuck
/-- made anew: a list, a tuple of plain items -/
theorem fresh_lst {ds : List D} {vs : List V} {p : Addr} (w : Wd Z H S) (hp : H p = none) (r : RepL K Z H ds vs Fp0) :
    Step Z H S Z (upd H p (.lst vs)) (fun a => S a ∨ a = p) ∧ (∀ a o, H a = some o → upd H p (.lst vs) a = some o) ∧ (∀ a, S a → a = p → False) ∧ Rep K Z (upd H p (.lst vs)) (.lst true ds) (.ref p) (fun a => a = p) :=
  ⟨Step.alloc w hp, fun a o e => by rw [upd_ne (ne_of_none e hp)]; exact e, fun a s e => w.dom a s (by rw [e]; exact hp), ⟨p, vs, Fp0, rfl, upd_same, rfl, fun x => x, fun _ x => x.elim, r.move (Same.refl Z) (fun _ _ x => x.elim) fun _ x => x⟩⟩
theorem fresh_tup {ds : List D} {vs : List V} {p : Addr} (w : Wd Z H S) (hp : H p = none) (r : RepL K Z H ds vs Fp0) :
    Step Z H S (upd Z p (.tup vs)) (upd H p (.tup vs)) (fun a => S a ∨ Fp0 a) ∧ (∀ a o, H a = some o → upd H p (.tup vs) a = some o) ∧ Rep K (upd Z p (.tup vs)) (upd H p (.tup vs)) (.tup ds) (.ref p) Fp0 := by
  have st := Step.allocZ (o := .tup vs) w hp
  exact ⟨st.less fun a x => x.elim id False.elim, fun a o e => by rw [upd_ne (ne_of_none e hp)]; exact e, p, vs, rfl, SqT.of upd_same, r.move st.zz (fun _ _ x => x.elim) fun _ x => x⟩
def cutD (xs : List D) (lo hi : Option Int) : List D := (xs.drop (HT.sIx xs.length 0 lo)).take (HT.sIx xs.length xs.length hi - HT.sIx xs.length 0 lo)
def gCut (lo hi : Option Int) : D → Option D
  | .node _ .lst xs => if plainL xs then some (.lst true (cutD xs lo hi)) else none
  | .node _ .scr xs => if plainL xs then some (.lst true (cutD xs lo hi)) else none
  | .node _ .tup xs => if plainL xs then some (.tup (cutD xs lo hi)) else none
  | .str x => if x.length ≤ cap then some (.str (cutS x lo hi)) else none
  | _ => none
theorem RepL.cut {ds : List D} {vs : List V} (r : RepL K Z H ds vs S) (p : plainL ds = true) (lo hi : Option Int) : RepL K Z H (cutD ds lo hi) (cutV vs lo hi) Fp0 := by
  have rp : RepL K Z H ds vs Fp0 := r.plain p
  have drop : ∀ (n : Nat) {ds : List D} {vs : List V}, RepL K Z H ds vs Fp0 → RepL K Z H (ds.drop n) (vs.drop n) Fp0 := by
    intro n
    induction n with
    | zero => exact fun r => r
    | succ n ih =>
      intro ds vs r
      cases ds with
      | nil => cases vs with
        | nil => trivial
        | cons => exact r.elim
      | cons d ds => cases vs with
        | nil => exact r.elim
        | cons v vs =>
          obtain ⟨_, _, _, s2, _, _, q⟩ := r
          exact ih (q.move (Same.refl Z) (fun _ _ _ x => x) s2)
  have take : ∀ (n : Nat) {ds : List D} {vs : List V}, RepL K Z H ds vs Fp0 → RepL K Z H (ds.take n) (vs.take n) Fp0 := by
    intro n
    induction n with
    | zero => exact fun _ => by simp only [List.take_zero]; trivial
    | succ n ih =>
      intro ds vs r
      cases ds with
      | nil => cases vs with
        | nil => trivial
        | cons => exact r.elim
      | cons d ds => cases vs with
        | nil => exact r.elim
        | cons v vs =>
          obtain ⟨_, _, s1, s2, _, r1, q⟩ := r
          exact ⟨Fp0, Fp0, fun _ x => x, fun _ x => x, fun _ x _ => x, r1.move (Same.refl Z) (fun _ _ _ x => x) s1, ih (q.move (Same.refl Z) (fun _ _ _ x => x) s2)⟩
  have e := r.length
  unfold cutD cutV
  rw [e]
  exact take _ (drop _ rp)
/-- o[lo:hi]; the parts are ints or left out -/
def cut (f : M EV) (lo hi : Option (M EV)) : M EV := bnd f fun e =>
  bnd (match lo with
    | none => ret none
    | some m => bnd m fun el => fun ρ => match peek1 ρ el with
      | some (.int i) => .ok (some i) ρ
      | _ => .stuck) fun l =>
  bnd (match hi with
    | none => ret none
    | some m => bnd m fun eh => fun ρ => match peek1 ρ eh with
      | some (.int i) => .ok (some i) ρ
      | _ => .stuck) fun h => fun ρ => match peek1 ρ e with
    | some d => match gCut l h d with
      | some d' => .ok (.val d') ρ
      | none => .stuck
    | none => .stuck
def OutO (K : PySem.W.Frag) (mg : Str → Option Value) (W : WX) (Z H : Hp) (S : Fp) (σ : Sl) (Q : Option Int → Hp → Prop) : Res (Option Int) → Prop
  | .stuck => False
  | .ok b ρ' => ∀ Z' H' S', Step Z H S Z' H' S' → EnvR K Z' H' ρ' σ S' → Q b H'
  | .exc x ρ' => XOut K mg W Z H S σ x ρ'
def tO (K : PySem.W.Frag) (mg : Str → Option Value) (W : WX) (f : M (Option Int)) : TO := fun σ H Q => ∃ Z ρ S, Wd Z H S ∧ EnvR K Z H ρ σ S ∧ OutO K mg W Z H S σ Q (f ρ)
def partO (o : Option (M EV)) : M (Option Int) := match o with
    | none => ret none
    | some m => bnd m fun el => fun ρ => match peek1 ρ el with
      | some (.int i) => .ok (some i) ρ
      | _ => .stuck
theorem PO.of {e : Option Expr} {t t' : TO} (h : PO X e t) (i : ∀ σ H Q, t' σ H Q → t σ H Q) : PO X e t' := ⟨fun p s σ H R I q => h.run p s σ H R I (i σ H R q)⟩
theorem tO_none {Q : Option Int → Hp → Prop} (h : tO K mg W (partO none) σ H Q) : tNoPart σ H Q := by
  obtain ⟨Z, ρ, S, w, er, o⟩ := h
  exact o Z H S (Step.refl w) er
theorem tO_some {f : M EV} {Q : Option Int → Hp → Prop} (h : tO K mg W (partO (some f)) σ H Q) : tPart (tE K mg W f) σ H Q := by
  obtain ⟨Z, ρ, S, w, er, o⟩ := h
  refine ⟨Z, ρ, S, w, er, ?_⟩
  simp only [partO, bnd] at o
  cases e1 : f ρ with
  | stuck => rw [e1] at o; exact o
  | exc x ρ1 => rw [e1] at o; exact o
  | ok ev ρ1 =>
    simp only [e1] at o
    intro v Z1 H1 S1 Sa st1 dj1 er1 r1
    split at o
    · rename_i i hi
      exact ⟨i, peek1_rep er1 r1 hi, o Z1 H1 S1 (st1.less fun a x => .inl x) er1⟩
    · exact o.elim
theorem po_N : PO X none (tO X.K X.mg W (partO none)) := PO.of po_none fun _ _ _ q => tO_none q
theorem po_S {e : Expr} {f : M EV} (h : PE X e (tE X.K X.mg W f)) : PO X (some e) (tO X.K X.mg W (partO (some f))) := PO.of (po_some h) fun _ _ _ q => tO_some q
theorem tE_cut {f : M EV} {lo hi : Option (M EV)} {Q : VK} (h : tE K mg W (cut f lo hi) σ H Q) : tSl (fun x l u H Q => rSlL K x l u H Q ∨ rSlA K x l u H Q ∨ rSlS x l u H Q) (tE K mg W f) (tO K mg W (partO lo)) (tO K mg W (partO hi)) σ H Q := by
  have h' : tE K mg W (bnd f fun e => bnd (partO lo) fun l => bnd (partO hi) fun h => fun ρ => match peek1 ρ e with
    | some d => match gCut l h d with
      | some d' => .ok (.val d') ρ
      | none => .stuck
    | none => .stuck) σ H Q := h
  obtain ⟨Z, ρ, S, w, er, o⟩ := h'
  refine ⟨Z, ρ, S, w, er, ?_⟩
  simp only [bnd] at o
  cases e1 : f ρ with
  | stuck => rw [e1] at o; exact o
  | exc x ρ1 => rw [e1] at o; exact o
  | ok ev ρ1 =>
    simp only [e1] at o
    intro v Z1 H1 S1 Sa st1 dj1 er1 r1
    refine ⟨Z1, ρ1, S1, st1.wd.less fun a x => .inl x, er1, ?_⟩
    cases e2 : partO lo ρ1 with
    | stuck => simp only [e2] at o; exact o
    | exc x ρ2 => simp only [e2] at o; exact o.behind st1 dj1
    | ok l ρ2 =>
      simp only [e2] at o
      intro Z2 H2 S2 st2 er2
      refine ⟨Z2, ρ2, S2, st2.wd, er2, ?_⟩
      have st12 := st1.trans (st2.frame st1.wd dj1)
      have ap2 := st2.apart (fun a x => st1.wd.live a (.inr x)) dj1
      cases e3 : partO hi ρ2 with
      | stuck => simp only [e3] at o; exact o
      | exc x ρ3 => simp only [e3] at o; exact o.behind st12 ap2
      | ok u ρ3 =>
        simp only [e3] at o
        intro Z3 H3 S3 st3 er3
        have st13 := st12.trans (st3.frame st12.wd ap2)
        have ap3 := st3.apart (fun a x => st12.wd.live a (.inr x)) ap2
        have r3 : EVR K Z3 H3 σ ev v Sa := (r1.stay st2 dj1).stay st3 ap2
        have w3 := st13.wd
        split at o
        · rename_i d hd
          have rd := peek1_rep er3 r3 hd
          split at o
          · rename_i d' hc
            have o1 := OutE.after st13 (r := .ok (.val d') ρ3) o
            have fin : ∀ v' H' Z' Sd, Step Z3 H3 (fun a => S3 a ∨ Sa a) Z' H' (fun a => (S3 a ∨ Sa a) ∨ Sd a) → (∀ a o, H3 a = some o → H' a = some o) → (∀ a, (S3 a ∨ Sa a) → Sd a → False) → Rep K Z' H' d' v' Sd → Q v' H' := fun v' H' Z' Sd st sm dj r =>
              o1 v' Z' H' S3 Sd (st.less fun a x => x.elim (fun y => .inl (.inl y)) .inr) (fun a x y => dj a (.inl x) y) (er3.move st.zz (fun a ob _ e => sm a ob e) fun _ x => x) r
            unfold gCut at hc
            split at hc
            · rename_i b xs
              split at hc
              · rename_i hp
                cases hc
                obtain ⟨a, ys, rfl, c, rl⟩ := rep_lst w3.same rd
                refine .inl ⟨a, ys, rfl, SqL.of c, fun p np => ?_⟩
                obtain ⟨f1, f2, f3, f4⟩ := fresh_lst w3 np (rl.cut hp l u)
                exact fin _ _ _ _ f1 f2 f3 f4
              · cases hc
            · rename_i b xs
              split at hc
              · rename_i hp
                cases hc
                cases b with
                | true => obtain ⟨_, _, _, _, c, _⟩ := rd; exact c.elim
                | false =>
                  obtain ⟨a, ys, rfl, c, rl⟩ := rd
                  refine .inl ⟨a, ys, rfl, Sam.seq w3.same c, fun p np => ?_⟩
                  obtain ⟨f1, f2, f3, f4⟩ := fresh_lst w3 np (rl.cut hp l u)
                  exact fin _ _ _ _ f1 f2 f3 f4
              · cases hc
            · rename_i xs
              split at hc
              · rename_i hp
                cases hc
                have rd0 : Rep K Z3 H3 (.tup xs) v Fp0 := Rep.plain (rep_wk rd) (by simp [D.plain, hp])
                obtain ⟨a, ys, rfl, c, rl⟩ := rep_tup w3.same rd0
                have el := rl.length
                refine .inr (.inl ⟨a, ys, rfl, c, fun hw => ?_, fun hw p np => ?_⟩)
                · have e : cutD xs l u = xs := by
                    unfold cutD
                    rw [← el] at hw
                    rw [hw.1, hw.2, List.drop_zero, Nat.sub_zero, List.take_length]
                  rw [e] at fin
                  exact fin _ _ _ Fp0 w3.nil (fun _ _ e => e) (fun _ _ x => x) rd0
                · obtain ⟨f1, f2, f3⟩ := fresh_tup w3 np (rl.cut hp l u)
                  exact fin _ _ _ _ f1 f2 (fun _ _ x => x) f3
              · cases hc
            · rename_i z
              split at hc
              · rename_i hz
                cases hc
                obtain rfl : v = .str z := rd
                exact .inr (.inr ⟨z, rfl, cap_le hz, fin _ _ _ Fp0 w3.nil (fun _ _ e => e) (fun _ _ x => x) rfl⟩)
              · cases hc
            · cases hc
          · exact o.elim
        · exact o.elim
end
end Pm
namespace Pm
open PySem PySem.Spec PyProof.Rows L2
section
variable {K : PySem.W.Frag} {mg : Str → Option Value} {W : WX} {Z H : Hp} {S : Fp} {σ : Sl} {X : Cx} {A : Nat → Bool}
theorem pe_blt {x : Str} {id : String} {p pos : Pos} {e : Expr} {es : List Expr} {fs : M (List EV)} {r : List V → Hp → VK → Prop} {g : List D → Option D} (hs : Snd X r g) (hc : CallR X (.builtin id) r) (hg : Gl X x) (hm : X.mg x = none) (hv : bootBuiltins x = some (.builtin id))
    (ha : PA X (e :: es) (tA X.K X.mg W fs)) (hn : x ≠ "__name__") (hdb : (x == ("__debug__" : Str)) = false) (he : starEach (e :: es) X.env = (false, eval e X.env) :: starEach es X.env) (hpl : (backTo pos (starEach es X.env)).any (·.1) = false) :
    PE X (.Call (.Name x p) (e :: es) [] pos) (tE X.K X.mg W (app g fs)) := PE.of (pe_callB hc hg hm hv ha hn hdb he hpl) fun σ H Q q => tE_app hs q
theorem pe_bty {x : Str} {T : String} {p pos : Pos} {e : Expr} {es : List Expr} {fs : M (List EV)} {r : List V → Hp → VK → Prop} {g : List D → Option D} (hs : Snd X r g) (hc : CallR X (.type T) r) (hg : Gl X x) (hm : X.mg x = none) (hv : bootBuiltins x = some (.type T))
    (ha : PA X (e :: es) (tA X.K X.mg W fs)) (hn : x ≠ "__name__") (hdb : (x == ("__debug__" : Str)) = false) (he : starEach (e :: es) X.env = (false, eval e X.env) :: starEach es X.env) (hpl : (backTo pos (starEach es X.env)).any (·.1) = false) :
    PE X (.Call (.Name x p) (e :: es) [] pos) (tE X.K X.mg W (app g fs)) := PE.of (pe_callTy hc hg hm hv ha hn hdb he hpl) fun σ H Q q => tE_app hs q
def opLen : List D → Option D
  | [.node _ .lst xs] => some (.int xs.length)
  | [.node _ .tup xs] => some (.int xs.length)
  | [.node _ .scr xs] => some (.int xs.length)
  | [.str x] => if x.length ≤ cap then some (.int x.length) else none
  | _ => none
theorem snd_len : Snd X (fun xs H Q => (∃ p ys, xs = [.ref p] ∧ (SqL X.K H p ys ∨ SqT X.K H p ys) ∧ Q (.int ys.length) H) ∨ (∃ z, xs = [.str z] ∧ z.length ≤ sizeLine ∧ Q (.int z.length) H)) opLen := by
  refine snd_pure fun Z H S ds vs d Q w rb e k => ?_
  unfold opLen at e
  split at e
  · obtain ⟨v, rfl, rv⟩ := rb1 rb
    obtain ⟨a, ys, rfl, c, rl⟩ := rep_lst w.same rv
    cases e
    exact .inl ⟨a, ys, rfl, .inl (SqL.of c), k _ (by rw [← rl.length]; rfl)⟩
  · obtain ⟨v, rfl, rv⟩ := rb1 rb
    obtain ⟨a, ys, rfl, c, rl⟩ := rep_tup w.same rv
    cases e
    exact .inl ⟨a, ys, rfl, .inr c, k _ (by rw [← rl.length]; rfl)⟩
  · rename_i b xs
    obtain ⟨v, rfl, rv⟩ := rb1 rb
    cases b with
    | true => obtain ⟨_, _, _, _, c, _⟩ := rv; exact c.elim
    | false =>
      obtain ⟨a, ys, rfl, c, rl⟩ := rv
      cases e
      exact .inl ⟨a, ys, rfl, .inl (Sam.seq w.same c), k _ (by rw [← rl.length]; rfl)⟩
  · split at e
    · rename_i z hz
      obtain ⟨v, rfl, rv⟩ := rb1 rb
      obtain rfl : v = .str z := rv
      cases e
      exact .inr ⟨z, rfl, cap_le hz, k _ rfl⟩
    · cases e
  · cases e
theorem call_lenA : CallR X (.builtin "len") (fun xs H Q => (∃ p ys, xs = [.ref p] ∧ (SqL X.K H p ys ∨ SqT X.K H p ys) ∧ Q (.int ys.length) H) ∨ (∃ z, xs = [.str z] ∧ z.length ≤ sizeLine ∧ Q (.int z.length) H)) := CallR.or call_len_seq call_len_str
def opAbs : List D → Option D
  | [.int i] => some (.int (if i < 0 then -i else i))
  | _ => none
theorem snd_abs : Snd X (fun xs H Q => ∃ i, xs = [.int i] ∧ Q (.int (if i < 0 then -i else i)) H) opAbs := by
  refine snd_pure fun Z H S ds vs d Q w rb e k => ?_
  unfold opAbs at e
  split at e
  · obtain ⟨v, rfl, rv⟩ := rb1 rb
    cases e
    obtain rfl : v = .int _ := rv
    exact ⟨_, rfl, k _ rfl⟩
  · cases e
def opInt1 : List D → Option D
  | [.int i] => some (.int i)
  | [.bl b] => some (.int (if b then 1 else 0))
  | _ => none
theorem snd_int1 : Snd X (fun xs H Q => (∃ i, xs = [.int i] ∧ Q (.int i) H) ∨ ∃ k, xs = [.bl k] ∧ Q (.int (if k then 1 else 0)) H) opInt1 := by
  refine snd_pure fun Z H S ds vs d Q w rb e k => ?_
  unfold opInt1 at e
  split at e
  · obtain ⟨v, rfl, rv⟩ := rb1 rb
    cases e
    obtain rfl : v = .int _ := rv
    exact .inl ⟨_, rfl, k _ rfl⟩
  · obtain ⟨v, rfl, rv⟩ := rb1 rb
    cases e
    obtain rfl : v = .bl _ := rv
    exact .inr ⟨_, rfl, k _ rfl⟩
  · cases e
def intsD : List D → Option (List Int)
  | [] => some []
  | .int i :: ds => (intsD ds).map (i :: ·)
  | _ => none
theorem intsD_inv : ∀ {ds : List D} {ns : List Int}, intsD ds = some ns → ds = ns.map D.int
  | [], ns, h => by cases h; rfl
  | .int i :: ds, ns, h => by
    rw [intsD] at h
    cases e : intsD ds with
    | none => rw [e] at h; cases h
    | some ms =>
      rw [e] at h
      cases h
      rw [intsD_inv e]
      rfl
  | .non :: _, _, h => by cases h
  | .bl _ :: _, _, h => by cases h
  | .str _ :: _, _, h => by cases h
  | .op _ :: _, _, h => by cases h
  | .node _ _ _ :: _, _, h => by cases h
theorem reps_intsV : ∀ {ns : List Int} {vs : List V} {S : Fp}, RepL K Z H (ns.map D.int) vs S → vs = ns.map V.int
  | [], [], _, _ => rfl
  | [], _ :: _, _, h => h.elim
  | _ :: _, [], _, h => h.elim
  | n :: ns, v :: vs, S, ⟨_, _, _, _, _, r, q⟩ => by
    obtain rfl : v = .int n := r
    rw [reps_intsV q]
    rfl
def opList : List D → Option D
  | [.node _ .lst xs] => if plainL xs then some (.lst true xs) else none
  | [.node _ .tup xs] => if plainL xs then some (.lst true xs) else none
  | _ => none
theorem snd_list : Snd X (fun xs H Q => ∃ p ys, xs = [.ref p] ∧ (SqL X.K H p ys ∨ SqT X.K H p ys) ∧ ∀ l, H l = none → Q (.ref l) (upd H l (.lst ys))) opList := by
  intro Z H S ds vs d Q w rb e k
  unfold opList at e
  split at e
  · split at e
    · rename_i hp
      obtain ⟨v, rfl, rv⟩ := rb1 rb
      obtain ⟨a, ys, rfl, c, rl⟩ := rep_lst w.same rv
      cases e
      refine ⟨a, ys, rfl, .inl (SqL.of c), fun p np => ?_⟩
      obtain ⟨f1, f2, f3, f4⟩ := fresh_lst w np (rl.plain hp)
      exact k _ _ _ _ f1 f2 f3 f4
    · cases e
  · split at e
    · rename_i hp
      obtain ⟨v, rfl, rv⟩ := rb1 rb
      obtain ⟨a, ys, rfl, c, rl⟩ := rep_tup w.same rv
      cases e
      refine ⟨a, ys, rfl, .inr c, fun p np => ?_⟩
      obtain ⟨f1, f2, f3, f4⟩ := fresh_lst w np (rl.plain hp)
      exact k _ _ _ _ f1 f2 f3 f4
    · cases e
  · cases e
def opTuple : List D → Option D
  | [.node _ .lst xs] => if plainL xs then some (.tup xs) else none
  | [.node false .tup xs] => if plainL xs then some (.tup xs) else none
  | _ => none
theorem snd_tuple : Snd X (fun xs H Q => ∃ p ys, xs = [.ref p] ∧ ((SqL X.K H p ys ∧ ∀ l, H l = none → Q (.ref l) (upd H l (.tup ys))) ∨ (SqT X.K H p ys ∧ Q (.ref p) H))) opTuple := by
  intro Z H S ds vs d Q w rb e k
  unfold opTuple at e
  split at e
  · split at e
    · rename_i hp
      obtain ⟨v, rfl, rv⟩ := rb1 rb
      obtain ⟨a, ys, rfl, c, rl⟩ := rep_lst w.same rv
      cases e
      refine ⟨a, ys, rfl, .inl ⟨SqL.of c, fun p np => ?_⟩⟩
      obtain ⟨f1, f2, f3⟩ := fresh_tup w np (rl.plain hp)
      exact k _ _ _ _ f1 f2 (fun _ _ x => x) f3
    · cases e
  · split at e
    · rename_i xs hp
      obtain ⟨v, rfl, rv⟩ := rb1 rb
      cases e
      have rp : Rep X.K Z H (.tup xs) v Fp0 := Rep.plain rv (by simp [D.plain, hp])
      obtain ⟨a, ys, rfl, c, rl⟩ := rep_tup w.same rv
      exact ⟨a, ys, rfl, .inr ⟨c, k _ Z H Fp0 w.nil (fun _ _ e => e) (fun _ _ x => x) rp⟩⟩
    · cases e
  · cases e
end
end Pm
namespace Pm
open PySem PySem.Spec PyProof.Rows L2
section
variable {K : PySem.W.Frag} {mg : Str → Option Value} {W : WX} {Z H : Hp} {S : Fp} {σ : Sl} {X : Cx} {A : Nat → Bool}
def opDivmod : List D → Option D
  | [.int i, .int j] => if 0 < j then (if divOk j = true then some (.tup [.int (i / j), .int (i % j)]) else none) else none
  | _ => none
mutual
theorem shw_ok : ∀ (n : Nat) (d : D), shw n d = true → PyData.showable (toP d) = true
  | _, .non, _ => rfl
  | _, .bl _, _ => rfl
  | n, .int i, h => by
    have q : i.natAbs.log2 < 1900 := by cases n <;> simpa [shw] using h
    simp only [toP, PyData.showable]
    exact decide_eq_true (by omega)
  | _, .str _, _ => rfl
  | _, .op _, _ => rfl
  | n, .node b k xs, h => by
    cases n with
    | zero => cases k <;> simp [shw] at h
    | succ n =>
      cases k with
      | lst =>
        simp only [toP, PyData.showable]
        exact shw_all n xs (by simpa [shw] using h)
      | tup =>
        simp only [toP, PyData.showable]
        exact shw_all n xs (by simpa [shw] using h)
      | scr => simp [shw] at h
      | dct ks => simp [shw] at h
      | obj C fs => simp [shw] at h
      | ins C fs => simp [shw] at h
theorem shw_all : ∀ (n : Nat) (xs : List D), (∀ x ∈ xs, shw n x = true) → PyData.showableAll (toPL xs) = true
  | _, [], _ => rfl
  | n, x :: xs, h => by
    simp only [toPL, PyData.showableAll]
    rw [shw_ok n x (h x List.mem_cons_self), shw_all n xs fun y hy => h y (List.mem_cons_of_mem _ hy)]
    rfl
end
def reprD (d : D) : Str := (toP d).shown
def opRepr : List D → Option D
  | [.int i] => if shw 60 (.int i) = true then some (.str (reprD (.int i))) else none
  | [d] => if shp 60 d && shw 60 d && decide ((reprD d).length ≤ cap) then some (.str (reprD d)) else none
  | _ => none
def rRepr (K : PySem.W.Frag) : List V → Hp → VK → Prop := fun xs H Q => ∃ x d, xs = [x] ∧ Dp K H x d ∧ PyData.canLay0 d = true ∧ PyData.depth d ≤ 60 ∧ PyData.showable d = true ∧ (d.shown.length ≤ sizeLine ∨ ∃ i, d = .int i) ∧ Q (.str d.shown) H
theorem call_reprA (hg : X.A.guards = some []) (hu : X.A.units + 64 < cLine) : CallR X (.builtin "repr") (rRepr X.K) := by
  intro pins s σ H xs us Q I r h
  obtain ⟨x, d, rfl, hd, hc, hp, hs, hz, q⟩ := h
  obtain ⟨u, rfl, rx⟩ := vals1 r
  obtain ⟨as, rd⟩ := Dp.reads I d x u hd rx
  have nd : d.hasDict = false := PyData.hasDict_of_canLay d hc
  cases rd with
  | none => exact PySem.P.repr_of_none ⟨.str _, H, I.tok _, ⟨_, rfl⟩, q⟩
  | bool b => exact PySem.P.repr_of_bool ⟨.str _, H, I.tok _, ⟨_, rfl⟩, q⟩
  | int i t => exact PySem.P.repr_of_int (of_decide_eq_true hs) ⟨.str _, H, I.tok _, ⟨_, rfl⟩, q⟩
  | str z t => exact PySem.P.repr_of_str ⟨.str _, H, I.tok _, ⟨_, rfl⟩, q⟩ (hz.elim id fun ⟨_, e⟩ => nomatch e)
  | list h1 h2 h3 h4 => exact repr_of_reads' (Reads.list h1 h2 h3 h4) hs (PyData.noDict_hsm nd) hg (by omega) (fun _ _ e => e) (fun h' u tk k => ⟨.str _, H, I.kept k, ⟨_, rfl⟩, q⟩) (hz.elim id fun ⟨_, e⟩ => nomatch e)
  | tuple h1 h2 h3 h4 => exact repr_of_reads' (Reads.tuple h1 h2 h3 h4) hs (PyData.noDict_hsm nd) hg (by omega) (fun _ _ e => e) (fun h' u tk k => ⟨.str _, H, I.kept k, ⟨_, rfl⟩, q⟩) (hz.elim id fun ⟨_, e⟩ => nomatch e)
  | dict => simp [PyData.hasDict] at nd
theorem snd_repr : Snd X (rRepr X.K) opRepr := by
  refine snd_pure fun Z H S ds vs d Q w rb e k => ?_
  unfold opRepr at e
  split at e
  · rename_i x
    split at e
    · rename_i c
      obtain ⟨v, rfl, rv⟩ := rb1 rb
      cases e
      exact ⟨v, toP (.int x), rfl, dp_of w.same 60 (.int x) v S rfl rv, (shp_can 60 (.int x) rfl).1, (shp_can 60 (.int x) rfl).2, shw_ok 60 (.int x) c, .inr ⟨x, rfl⟩, k _ rfl⟩
    · cases e
  · rename_i x _
    split at e
    · rename_i c
      rw [Bool.and_eq_true, Bool.and_eq_true] at c
      obtain ⟨⟨c1, c2⟩, c3⟩ := c
      obtain ⟨v, rfl, rv⟩ := rb1 rb
      obtain ⟨a, b⟩ := shp_can 60 x c1
      cases e
      exact ⟨v, toP x, rfl, dp_of w.same 60 x v S c1 rv, a, b, shw_ok 60 x c2, .inl (cap_le (of_decide_eq_true c3)), k _ rfl⟩
    · cases e
  · cases e
def tyN : D → Option String
  | .non => some "NoneType"
  | .bl _ => some "bool"
  | .int _ => some "int"
  | .str _ => some "str"
  | .node _ .lst _ => some "list"
  | .node _ .tup _ => some "tuple"
  | .node _ (.dct _) _ => some "dict"
  | _ => none
def opIsi : List D → Option D
  | [d, .op (.ty n)] => match tyN d with
    | some t => match kitB t n with
      | some b => some (.bl b)
      | none => none
    | none => none
  | _ => none
theorem tyX_of {d : D} {v : V} {t : String} (w : Sam Z H) (r : Rep K Z H d v S) (h : tyN d = some t) : TyX K H v (.type t) := by
  cases d with
  | non => obtain rfl : v = .non := r; cases h; exact .base .non
  | bl b => obtain rfl : v = .bl b := r; cases h; exact .base (.bl b)
  | int b => obtain rfl : v = .int b := r; cases h; exact .base (.int b)
  | str b => obtain rfl : v = .str b := r; cases h; exact .base (.str b)
  | op u => cases h
  | node b k xs =>
    cases k with
    | lst =>
      obtain ⟨a, ys, rfl, c, rl⟩ := rep_lst w r
      cases h
      exact .base (.lst c)
    | tup =>
      obtain ⟨a, ys, rfl, c, rl⟩ := rep_tup w r
      cases h
      rcases c with (c | ⟨o, c⟩) | ⟨o, its, n, c, oc, _⟩
      · exact .base (.tup c)
      · exact .fTuple c
      · exact .kTuple c oc
    | scr => cases h
    | obj C fs => cases h
    | ins C fs => cases h
    | dct ks =>
      cases h
      cases b with
      | false =>
        obtain ⟨a, ys, rfl, c, rl⟩ := r
        exact .base (.dK (w.get _ _ c.2 nt_dK))
      | true =>
        obtain ⟨a, ys, S', rfl, c, _⟩ := r
        exact .base (.dK c.2)
theorem snd_isi : Snd X (rIsi X.K) opIsi := by
  refine snd_pure fun Z H S ds vs d Q w rb e k => ?_
  unfold opIsi at e
  split at e
  · split at e
    · rename_i t ht
      split at e
      · rename_i b hb
        obtain ⟨v, u, rfl, rv, ru⟩ := rb2 rb
        obtain rfl : u = .ty _ := ru
        cases e
        exact ⟨v, _, _, _, b, rfl, .ty _, tyX_of w.same rv ht, kit_ty hb, k _ rfl⟩
      · cases e
    · cases e
  · cases e
def rangeD (lo : Int) (n : Nat) : List D := (List.range n).map fun (i : Nat) => .int (lo + (i : Int))
/-- (not to be unfolded with numbers that are not known: the kernel would count) -/
noncomputable def sm62 (i : Int) : Bool := @decide (-(2 ^ 62) ≤ i ∧ i < 2 ^ 62) (Classical.propDecidable _)
theorem sm62_ok {i : Int} (h : sm62 i = true) : -(2 ^ 62) ≤ i ∧ i < 2 ^ 62 := @of_decide_eq_true _ (Classical.propDecidable _) h
theorem sm62_of {i : Int} (h : -(2 ^ 62) ≤ i ∧ i < 2 ^ 62) : sm62 i = true := @decide_eq_true _ (Classical.propDecidable _) h
noncomputable def srcR1 (fs : M (List EV)) : M (List D) := bnd fs fun es => fun ρ => match peeks ρ es with
  | some [.int j] => if sm62 j then .ok (rangeD 0 j.toNat) ρ else .stuck
  | _ => .stuck
theorem walk_rng (lo : Int) (n : Nat) : WalkR K (Itr lo n) Z (rangeD lo n) := by
  intro Z' H' _ _
  refine ⟨fun i hi => by unfold rangeD at hi; rw [List.length_map, List.length_range] at hi; exact hi, fun i d hd => ?_⟩
  unfold rangeD at hd
  rw [List.getElem?_map] at hd
  cases e : (List.range n)[i]? with
  | none => rw [e] at hd; cases hd
  | some j =>
    rw [e] at hd
    obtain ⟨hl, ej⟩ := List.getElem?_eq_some_iff.mp e
    rw [List.getElem_range] at ej
    subst ej
    rw [List.length_range] at hl
    refine ⟨hl, fun x H'' S' w h => ?_⟩
    obtain ⟨rfl, rfl⟩ := h
    cases hd
    exact ⟨Z', Step.refl w, fun _ _ e => e, rfl⟩
theorem pi_R1 {tg a : Expr} {fs : M (List EV)} {p pos : Pos} (hg : Gl X "range") (hm : X.mg "range" = none) (ha : PA X [a] (tA X.K X.mg W fs)) (hs : starEach [a] X.env = [(false, eval a X.env)]) : PI X tg (.Call (.Name "range" p) [a] [] pos) (tI X.K X.mg W (srcR1 fs)) :=
  PI.of (pi_range1 hg hm ha hs) fun σ H R q => by
    obtain ⟨Z, ρ, S, w, er, o⟩ := q
    refine ⟨Z, ρ, S, w, er, ?_⟩
    simp only [srcR1, bnd] at o
    cases e1 : fs ρ with
    | stuck => rw [e1] at o; exact o
    | exc x ρ1 => rw [e1] at o; exact o
    | ok es ρ1 =>
      simp only [e1] at o
      intro vs Z1 H1 S1 Sa st dj er1 r1
      split at o
      · rename_i j hp
        obtain ⟨v, rfl, rv⟩ := rb1 (peeks_rep er1 r1 hp)
        obtain rfl : v = .int j := rv
        split at o
        · rename_i hs
          have hs' : -(2 ^ 62) ≤ j ∧ j < 2 ^ 62 := sm62_ok hs
          exact ⟨j, rfl, hs'.1, hs'.2, o _ Z1 H1 S1 (st.less fun a x => .inl x) er1 (walk_rng 0 _)⟩
        · exact o.elim
      · exact o.elim
def signsD (x : Str) : List D := x.cps.toList.map fun c => .str ⟨#[c]⟩
theorem walk_str (x : Str) : WalkR K (Its x) Z (signsD x) := by
  intro Z' H' _ _
  refine ⟨fun i hi => by unfold signsD at hi; rw [List.length_map, Array.length_toList] at hi; exact hi, fun i d hd => ?_⟩
  unfold signsD at hd
  rw [List.getElem?_map] at hd
  cases e : x.cps.toList[i]? with
  | none => rw [e] at hd; cases hd
  | some c =>
    rw [e] at hd
    have hl : i < x.cps.size := by
      have := (List.getElem?_eq_some_iff.mp e).1
      simpa using this
    refine ⟨hl, fun y H'' S' w h => ?_⟩
    obtain ⟨rfl, c', hc', rfl⟩ := h
    have ec : c' = c := by
      have e' : x.cps[i]? = some c := by simpa using e
      rw [e'] at hc'
      exact (Option.some.inj hc').symm
    subst ec
    cases hd
    exact ⟨Z', Step.refl w, fun _ _ e => e, rfl⟩
def srcA (f : M EV) : M (List D) := bnd f fun e => bnd (use1 e) fun d => match d with
  | .node _ .lst ds => ret (frzL ds)
  | .node _ .tup ds => ret (frzL ds)
  | .str x => ret (signsD x)
  | _ => fun _ => .stuck
theorem PI.or {tg iter : Expr} {t1 t2 : TI} (h1 : PI X tg iter t1) (h2 : PI X tg iter t2) : PI X tg iter (fun σ H R => t1 σ H R ∨ t2 σ H R) := ⟨fun p s σ H R I q => q.elim (h1.run p s σ H R I) (h2.run p s σ H R I)⟩
theorem pi_A {tg l : Expr} {f : M EV} (h : PE X l (tE X.K X.mg W f)) : PI X tg l (tI X.K X.mg W (srcA f)) := by
  refine PI.of (PI.or (pi_seqL h) (PI.or (pi_seqT h) (pi_str h))) fun σ H R q => ?_
  obtain ⟨Z, ρ, S, w, er, o⟩ := q
  cases e1 : f ρ with
  | stuck => simp only [srcA, bnd, e1] at o; exact o.elim
  | exc x ρ1 =>
    refine .inl ⟨Z, ρ, S, w, er, ?_⟩
    simp only [srcA, bnd, e1] at o
    simp only [srcSeq, bnd, e1]
    exact o
  | ok ev ρ1 =>
    cases e2 : use1 ev ρ1 with
    | stuck => simp only [srcA, bnd, e1, e2] at o; exact o.elim
    | exc x ρ2 => exact absurd e2 use1_noexc
    | ok d ρ2 =>
      simp only [srcA, bnd, e1, e2] at o
      split at o
      · refine .inl ⟨Z, ρ, S, w, er, ?_⟩
        simp only [srcSeq, bnd, e1, e2, if_true]
        exact o
      · refine .inr (.inl ⟨Z, ρ, S, w, er, ?_⟩)
        simp only [srcSeq, bnd, e1, e2, if_true]
        exact o
      · rename_i x
        refine .inr (.inr ⟨Z, ρ, S, w, er, ?_⟩)
        simp only [e1]
        intro v Z1 H1 S1 Sa st dj er1 r1
        have w1 : Wd Z1 H1 (fun a => (S1 a ∨ Sa a) ∨ Fp0 a) := st.wd.less fun a x => x.elim id False.elim
        obtain ⟨Z2, S2, st2, m2, er2, r2⟩ := use1_ok w1 dj (fun _ _ x => x) er1 r1 e2
        obtain rfl : v = .str x := r2
        have st2' : Step Z1 H1 (fun a => S1 a ∨ Sa a) Z2 H1 S2 := ⟨st2.wd.less fun a x => .inl (.inl x), st2.zz, fun a o n e _ => e, fun a x => .inl (.inl (m2 a x)), fun a o e => (st2.znew a o e).elim .inl fun y => .inr (y.elim (fun z => z.elim .inl False.elim) .inr)⟩
        exact ⟨x, rfl, o (Its x) Z2 H1 S2 (st.trans st2') er2 (walk_str x)⟩
      · exact o.elim
end
end Pm
namespace Pm
open PySem PySem.Spec PyProof.Rows L2
section
variable {K : PySem.W.Frag} {mg : Str → Option Value} {W : WX} {Z H : Hp} {S : Fp} {σ : Sl} {X : Cx} {A : Nat → Bool}
abbrev wF : WX := fun _ _ _ _ => False
def wipeE (ρ : Env) : List Nat → Env
  | [] => ρ
  | v :: vs => (wipeE ρ vs).set v none
/-- plain things come back to the names of the block -/
def backE (ρ ρ' : Env) : List Nat → Env
  | [] => ρ'
  | v :: vs => match ρ.getD v none with
    | some d => if d.plain then (backE ρ ρ' vs).set v (some d) else backE ρ ρ' vs
    | none => backE ρ ρ' vs
def compIt (own : List Nat) (g : Tg) (c : M Bool) (e : M EV) : List D → Env → List D → Res (List D)
  | [], ρ, acc => .ok acc ρ
  | d :: ds, ρ, acc => match g d ρ with
    | .ok _ ρ1 => match c ρ1 with
      | .ok true ρ2 => match e ρ2 with
        | .ok ev ρ3 => match use1 ev ρ3 with
          | .ok d' ρ4 => if acc.length < cap then compIt own g c e ds (wipeE ρ4 own) (acc ++ [d']) else .stuck
          | _ => .stuck
        | _ => .stuck
      | .ok false ρ2 => compIt own g c e ds (wipeE ρ2 own) acc
      | _ => .stuck
    | _ => .stuck
def comp (own : List Nat) (s : M (List D)) (g : Tg) (c : M Bool) (e : M EV) : M EV := bnd s fun ds => fun ρ => match compIt own g c e ds (wipeE ρ own) [] with
  | .ok acc ρ' => .ok (.val (.lst true acc)) (backE ρ ρ' own)
  | _ => .stuck
theorem EnvR.wipe {ρ : Env} : ∀ {own : List Nat}, EnvR K Z H ρ σ S → EnvR K Z H (wipeE ρ own) (L2.wipe σ own) S
  | [], h => h
  | v :: vs, h => by
    have q := (EnvR.wipe (own := vs) h).drop v
    have hn : ∀ {ρ : Env} {σ : Sl}, EnvR K Z H (ρ.set v none) σ S → EnvR K Z H (ρ.set v none) (σ.set v none) S := fun {ρ σ} h => by
      by_cases hv : v < ρ.length
      · exact h.any none (by rw [List.getElem?_set_self hv])
      · have hl := h.length
        rw [List.length_set] at hl
        rw [List.set_eq_of_length_le (l := σ) (by omega)]
        exact h
    exact hn q
theorem EnvR.unwipe {ρ : Env} : ∀ {own : List Nat}, EnvR K Z H (wipeE ρ own) (L2.wipe σ own) S → EnvR K Z H (wipeE ρ own) σ S
  | [], h => h
  | v :: vs, h => by
    have key : ∀ (own : List Nat) (ρ : Env) (σ : Sl), (∀ v ∈ own, ρ[v]? = some none ∨ ρ.length ≤ v) → EnvR K Z H ρ (L2.wipe σ own) S → EnvR K Z H ρ σ S := by
      intro own
      induction own with
      | nil => exact fun _ _ _ h => h
      | cons v vs ih =>
        intro ρ σ hn h
        have h' : EnvR K Z H ρ ((L2.wipe σ vs).set v none) S := h
        refine ih ρ σ (fun u hu => hn u (List.mem_cons_of_mem _ hu)) ?_
        rcases hn v List.mem_cons_self with e | e
        · have lv : v < (L2.wipe σ vs).length := by
            have := h'.length
            rw [List.length_set] at this
            have := (List.getElem?_eq_some_iff.mp e).1
            omega
          have q := h'.any ((L2.wipe σ vs)[v]) e
          rw [List.set_set, List.set_getElem_self] at q
          exact q
        · have := h'.length
          rw [List.length_set] at this
          rw [List.set_eq_of_length_le (by omega)] at h'
          exact h'
    refine key (v :: vs) (wipeE ρ (v :: vs)) σ (fun u hu => ?_) h
    have all : ∀ (own : List Nat) (ρ : Env), ∀ u ∈ own, (wipeE ρ own)[u]? = some none ∨ (wipeE ρ own).length ≤ u := by
      intro own
      induction own with
      | nil => exact fun _ u hu => by cases hu
      | cons v vs ih =>
        intro ρ u hu
        unfold wipeE
        by_cases e : u = v
        · subst e
          by_cases hl : u < (wipeE ρ vs).length
          · exact .inl (by rw [List.getElem?_set_self hl])
          · exact .inr (by rw [List.length_set]; omega)
        · rw [List.getElem?_set_ne (Ne.symm e), List.length_set]
          exact ih ρ u ((List.mem_cons.mp hu).resolve_left e)
    exact all _ _ u hu
theorem wipeE_back {ρ0 : Env} {Z0 H0 : Hp} {S0 : Fp} (e0 : EnvR K Z0 H0 ρ0 σ S0) (zz : Same Z0 Z) : ∀ {own : List Nat} {ρ : Env}, EnvR K Z H ρ σ S → EnvR K Z H (backE ρ0 ρ own) σ S
  | [], _, h => h
  | v :: vs, ρ, h => by
    unfold backE
    have ih := wipeE_back e0 zz (own := vs) h
    split
    · rename_i d hd
      split
      · rename_i hp
        obtain ⟨u, S1, S2, hu, s1, s2, dj, r, _⟩ := e0.take (getD_some hd)
        have rp : Rep K Z H d u Fp0 := (Rep.plain (H' := H0) r hp).move zz (fun _ _ x => x.elim) fun _ x => x
        obtain ⟨hl, he⟩ := List.getElem?_eq_some_iff.mp hu
        have q := EnvR.put (S := S) (ih.drop v) (by rw [ih.length]; exact hl) rp (fun _ x => x.elim) (fun _ x => x) fun _ x _ => x
        rw [← he, List.set_getElem_self] at q
        exact q
      · exact ih
    · exact ih
theorem wipe_keep {own : List Nat} {σ' : Sl} (kp : Keep (fun j => decide (j ∈ own)) σ σ') : L2.wipe σ' own = L2.wipe σ own := by
  have hl := kp.2
  refine List.ext_getElem? fun i => ?_
  have key : ∀ (own2 : List Nat), (∀ σ : Sl, (L2.wipe σ own2)[i]? = if i ∈ own2 then (if i < σ.length then some none else none) else σ[i]?) := by
    intro own2
    induction own2 with
    | nil => intro σ; simp [L2.wipe]
    | cons v vs ih =>
      intro σ
      unfold L2.wipe
      by_cases e : i = v
      · subst e
        rw [if_pos List.mem_cons_self]
        by_cases hi : i < σ.length
        · rw [if_pos hi, List.getElem?_set_self (by rw [wipe_length]; exact hi)]
        · rw [if_neg hi, List.getElem?_eq_none (by rw [List.length_set, wipe_length]; omega)]
      · rw [List.getElem?_set_ne (Ne.symm e), ih σ]
        by_cases m : i ∈ vs
        · rw [if_pos m, if_pos (List.mem_cons_of_mem _ m)]
        · rw [if_neg m, if_neg fun q => m ((List.mem_cons.mp q).resolve_left e)]
  rw [key own σ', key own σ, hl]
  by_cases m : i ∈ own
  · rw [if_pos m, if_pos m]
  · rw [if_neg m, if_neg m]
    exact kp.1 i (decide_eq_false m)
theorem wipe_wipe {own : List Nat} : L2.wipe (L2.wipe σ own) own = L2.wipe σ own := by
  refine wipe_keep (σ := σ) ⟨fun j hj => ?_, wipe_length _ _⟩
  have hj' : j ∉ own := of_decide_eq_false hj
  have : ∀ (vs : List Nat), j ∉ vs → (L2.wipe σ vs)[j]? = σ[j]? := by
    intro vs
    induction vs with
    | nil => exact fun _ => rfl
    | cons v vs ih =>
      intro h
      unfold L2.wipe
      rw [List.getElem?_set_ne (fun e => h (by rw [e]; exact List.mem_cons_self))]
      exact ih fun q => h (List.mem_cons_of_mem _ q)
  exact this own hj'
theorem tE_comp {own : List Nat} {s : M (List D)} {g : Tg} {c : M Bool} {e : M EV} {Q : VK} (h : tE K mg W (comp own s g c e) σ H Q) :
    tLc (tI K mg W s) (tG K (fun j => decide (j ∈ own)) g) (tT K mg wF c) (tE K mg wF e) own σ H Q := by
  obtain ⟨Z, ρ, S, w, er, o⟩ := h
  refine ⟨Z, ρ, S, w, er, ?_⟩
  simp only [comp, bnd] at o
  cases e1 : s ρ with
  | stuck => rw [e1] at o; exact o
  | exc x ρ1 => rw [e1] at o; exact o
  | ok ds ρ1 =>
    simp only [e1] at o
    intro J Z1 H1 S1 st er1 wk L hL
    cases e2 : compIt own g c e ds (wipeE ρ1 own) [] with
    | stuck => simp only [e2] at o; exact o.elim
    | exc x ρ2 => simp only [e2] at o; exact o.elim
    | ok accF ρF =>
      simp only [e2] at o
      -- the turns: what was made so far stands at L
      obtain ⟨f1, f2, f3, f4⟩ := fresh_lst (K := K) (ds := []) (vs := []) st.wd hL trivial
      refine ⟨fun i m H' => ∃ Z' ρ' S' Sa acc ys, Step Z1 H1 S1 Z' H' (fun a => S' a ∨ (a = L ∨ Sa a)) ∧ (∀ a, S' a → (a = L ∨ Sa a) → False) ∧ EnvR K Z' H' (wipeE ρ' own) (L2.wipe σ own) S' ∧ H' L = some (.lst ys) ∧ ¬ Sa L ∧ RepL K Z' H' acc ys Sa ∧ i + m = ds.length ∧
        compIt own g c e (ds.drop i) (wipeE ρ' own) acc = .ok accF ρF, ⟨ds.length, Z1, ρ1, S1, Fp0, [], [], f1.less fun a x => x.elim .inl fun y => .inr (y.elim id False.elim), fun a x y => y.elim (f3 a x) False.elim, (er1.move (Same.refl _) (fun a o _ e => f2 a o e) fun _ x => x).wipe, upd_same, fun x => x, trivial, by omega, e2⟩, ?_⟩
      rintro i m H2 ⟨Z2, ρ2, S2, Sa, acc, ys, st2, dj2, er2, hys, nL, ra, him, ci⟩
      obtain ⟨w3, w4⟩ := wk Z2 H2 st2.zz st2.wd.same
      by_cases hi : i < ds.length
      · obtain ⟨go, yl⟩ := w4 i ds[i] (List.getElem?_eq_getElem hi)
        have ed : ds.drop i = ds[i] :: ds.drop (i + 1) := List.drop_eq_getElem_cons hi
        rw [ed] at ci
        refine .inr ⟨go, fun H' => ∃ Z' ρ' S' Sa acc ys, Step Z1 H1 S1 Z' H' (fun a => S' a ∨ (a = L ∨ Sa a)) ∧ (∀ a, S' a → (a = L ∨ Sa a) → False) ∧ EnvR K Z' H' (wipeE ρ' own) (L2.wipe σ own) S' ∧ H' L = some (.lst ys) ∧ ¬ Sa L ∧ RepL K Z' H' acc ys Sa ∧ (i + 1) + (m - 1) = ds.length ∧
          compIt own g c e (ds.drop (i + 1)) (wipeE ρ' own) acc = .ok accF ρF, fun H' q => ⟨m - 1, by omega, q⟩, fun x H3 y => ?_⟩
        obtain ⟨Z3, st3, k3, r3⟩ := yl x H3 (fun a => S2 a ∨ (a = L ∨ Sa a)) st2.wd y
        have er3 : EnvR K Z3 H3 (wipeE ρ2 own) (L2.wipe σ own) S2 := er2.move st3.zz (fun a o _ e => k3 a o e) fun _ x => x
        have w3' : Wd Z3 H3 (fun a => S2 a ∨ Fp0 a) := st3.wd.less fun a x => x.elim .inl False.elim
        refine ⟨Z3, wipeE ρ2 own, S2, Fp0, ds[i], w3', fun _ _ x => x, er3, r3, ?_⟩
        simp only [compIt] at ci
        cases e3 : g ds[i] (wipeE ρ2 own) with
        | stuck => rw [e3] at ci; cases ci
        | exc x ρ3 => rw [e3] at ci; cases ci
        | ok u ρ3 =>
          simp only [e3] at ci
          intro σ4 Z4 H4 S4 kp4 st4 er4
          have hw4 : L2.wipe σ4 own = L2.wipe σ own := (wipe_keep kp4).trans wipe_wipe
          refine ⟨hw4, ?_⟩
          obtain ⟨F, hF⟩ : ∃ F : Fp, F = fun a => a = L ∨ Sa a := ⟨_, rfl⟩
          have dF : ∀ a, S2 a → F a → False := fun a x y => dj2 a x (by rw [hF] at y; exact y)
          have w3F : Wd Z3 H3 (fun a => S2 a ∨ F a) := by rw [hF]; exact st3.wd
          have st13 : Step Z1 H1 S1 Z3 H3 (fun a => S2 a ∨ F a) := by rw [hF]; exact st2.trans st3
          have st4' : Step Z3 H3 S2 Z4 H4 S4 := (Step.less (Step.refl (w3F.less fun a x => .inl x)) (S2 := fun a => S2 a ∨ Fp0 a) (fun a x => x.elim id False.elim)).trans st4
          have st4F := st4'.frame w3F dF
          have dF4 := st4'.apart (fun a x => w3F.live a (.inr x)) dF
          have ra3 : RepL K Z3 H3 acc ys Sa := ra.move st3.zz (fun a o _ e => k3 a o e) fun _ x => x
          have subSa : ∀ a, Sa a → F a := fun a x => by rw [hF]; exact .inr x
          have inL : F L := by rw [hF]; exact .inl rfl
          have ra4 : RepL K Z4 H4 acc ys Sa := st4'.stayL (fun a x y => dF a x (subSa a y)) ra3
          have hy4 : H4 L = some (.lst ys) := st4'.fr L _ (fun x => dF L x inL) (k3 _ _ hys) nt_lst
          refine ⟨Z4, ρ3, S4, st4.wd, er4, ?_⟩
          cases e4 : c ρ3 with
          | stuck => rw [e4] at ci; cases ci
          | exc x ρ4 => rw [e4] at ci; cases ci
          | ok t ρ4 =>
            intro Z5 H5 S5 st5 er5
            have st5F := st5.frame st4F.wd dF4
            have dF5 := st5.apart (fun a x => st4F.wd.live a (.inr x)) dF4
            have ra5 : RepL K Z5 H5 acc ys Sa := st5.stayL (fun a x y => dF4 a x (subSa a y)) ra4
            have hy5 : H5 L = some (.lst ys) := st5.fr L _ (fun x => dF4 L x inL) hy4 nt_lst
            have st15 : Step Z1 H1 S1 Z5 H5 (fun a => S5 a ∨ F a) := (st13.trans st4F).trans st5F
            cases t with
            | false =>
              rw [if_neg Bool.false_ne_true]
              simp only [e4] at ci
              refine ⟨Z5, ρ4, S5, Sa, acc, ys, by rw [hF] at st15; exact st15, fun a x y => dF5 a x (by rw [hF]; exact y), ?_, hy5, nL, ra5, by omega, ci⟩
              have q := er5.wipe (own := own)
              rw [hw4] at q
              exact q
            | true =>
              rw [if_pos rfl]
              simp only [e4] at ci
              refine ⟨Z5, ρ4, S5, st5.wd, er5, ?_⟩
              cases e5 : e ρ4 with
              | stuck => rw [e5] at ci; cases ci
              | exc x ρ5 => rw [e5] at ci; cases ci
              | ok ev ρ5 =>
                simp only [e5] at ci
                intro v Z6 H6 S6 Sd st6 dj6 er6 r6
                have st6F := st6.frame st5F.wd dF5
                have dF6 := st6.apart (fun a x => st5F.wd.live a (.inr x)) dF5
                have ra6 : RepL K Z6 H6 acc ys Sa := st6.stayL (fun a x y => dF5 a x (subSa a y)) ra5
                have hy6 : H6 L = some (.lst ys) := st6.fr L _ (fun x => dF5 L x inL) hy5 nt_lst
                cases e6 : use1 ev ρ5 with
                | stuck => rw [e6] at ci; cases ci
                | exc x ρ6 => rw [e6] at ci; cases ci
                | ok d' ρ6 =>
                  simp only [e6] at ci
                  by_cases hz : acc.length < cap
                  · rw [if_pos hz] at ci
                    have w6 : Wd Z6 H6 (fun a => (S6 a ∨ Sd a) ∨ F a) := st6F.wd
                    obtain ⟨Z7, S7, st7, m7, er7, r7⟩ := use1_ok w6 dj6 dF6 er6 r6 e6
                    have ra7 : RepL K Z7 H6 acc ys Sa := ra6.move st7.zz (fun _ _ _ x => x) fun _ x => x
                    refine ⟨ys, hy6, by rw [← ra.length]; exact Nat.lt_trans hz (by rw [sizeLine_eq]; decide), ?_⟩
                    have st8 : Step Z7 H6 (fun a => (S7 a ∨ Sd a) ∨ F a) Z7 (upd H6 L (.lst (ys ++ [v]))) (fun a => (S7 a ∨ Sd a) ∨ F a) := Step.write st7.wd (.inr inL)
                    have neL : ∀ {T : Fp}, (∀ a, T a → a = L → False) → ∀ a o, T a → H6 a = some o → upd H6 L (.lst (ys ++ [v])) a = some o := fun {T} n a o t e => by rw [upd_ne fun q => n a t q]; exact e
                    refine ⟨Z7, ρ6, S7, fun a => Sa a ∨ Sd a, acc ++ [d'], ys ++ [v], ?_, ?_, ?_, upd_same, ?_, ?_, by omega, ci⟩
                    · refine ((((st15.trans st6F).trans st7).trans st8)).less fun a x => ?_
                      rcases x with x | x | x | x
                      · exact .inl (.inl x)
                      · exact .inr (by rw [hF]; exact .inl x)
                      · exact .inr (subSa a x)
                      · exact .inl (.inr x)
                    · intro a x y
                      rcases y with y | y | y
                      · exact dF6 a (.inl (m7 a x)) (by rw [hF]; exact .inl y)
                      · exact dF6 a (.inl (m7 a x)) (subSa a y)
                      · exact dj6 a (m7 a x) y
                    · have q := er7.wipe (own := own)
                      rw [hw4] at q
                      exact q.move (Same.refl _) (neL fun a t q => dF6 a (.inl (m7 a t)) (by rw [q]; exact inL)) fun _ x => x
                    · rintro (x | x)
                      · exact nL x
                      · exact dF6 L (.inr x) inL
                    · exact RepL.append (ra7.move (Same.refl _) (neL fun a t q => nL (by rw [← q]; exact t)) fun _ x => x) ⟨Sd, Fp0, fun _ x => x, fun _ x => x.elim, fun _ _ x => x, r7.move (Same.refl _) (neL fun a t q => dF6 a (.inr t) (by rw [q]; exact inL)) fun _ x => x, trivial⟩ (fun a x => .inl x) (fun a x => .inr x) fun a x y => dF6 a (.inr y) (subSa a x)
                  · rw [if_neg hz] at ci
                    cases ci
      · refine .inl ⟨w3 i (by omega), ?_⟩
        rw [List.drop_eq_nil_of_le (by omega)] at ci
        simp only [compIt, Res.ok.injEq] at ci
        obtain ⟨rfl, rfl⟩ := ci
        have er2' := wipeE_back er1 st2.zz (own := own) er2.unwipe
        exact o (.ref L) Z2 H2 S2 (fun a => a = L ∨ Sa a) (st.trans st2) dj2 er2' ⟨L, ys, Sa, rfl, hys, .inl rfl, nL, fun a x => .inr x, ra⟩
end
end Pm
namespace Pm
open PySem PySem.Spec PyProof.Rows L2
section
variable {K : PySem.W.Frag} {mg : Str → Option Value} {W : WX} {Z H : Hp} {S : Fp} {σ : Sl} {X : Cx} {A : Nat → Bool}
def yesT : M Bool := ret true
theorem tT_yes {Q : Bool → Hp → Prop} (h : tT K mg W yesT σ H Q) : tYes σ H Q := by
  obtain ⟨Z, ρ, S, w, er, o⟩ := h
  exact o Z H S (Step.refl w) er
theorem PTs.of {es : List Expr} {t t' : TT} (h : PTs X es t) (i : ∀ σ H Q, t' σ H Q → t σ H Q) : PTs X es t' := ⟨fun p s σ H Q I q => h.run p s σ H Q I (i σ H Q q)⟩
theorem pts_N : PTs X [] (tT X.K X.mg W yesT) := PTs.of pts_nil fun _ _ _ q => tT_yes q
theorem pts_1 {c : Expr} {f : M Bool} (h : PT X c (tT X.K X.mg W f)) : PTs X [c] (tT X.K X.mg W f) := pts_one h
abbrev ownA (own : List (Str × Nat)) : Nat → Bool := fun j => decide (j ∈ own.map (·.2))
theorem pe_C {elt tg iter : Expr} {ifs : List Expr} {scope : Scope} {own : List (Str × Nat)} {pos : Pos} {s : M (List D)} {g : Tg} {c : M Bool} {e : M EV} (hc : X.calm = true) (hN : X.N.Nodup) (hi : PI X tg iter (tI X.K X.mg W s)) (ok : BlkOk X.N X.env.scope scope own)
    (hg : ∀ (s : Shared) (H : Hp) (C : Addr) (cl : List (Str × Addr)) (fp : List Addr), PG (X.blk s H scope (compEnvC scope cl C X.env) fp) tg (tG X.K (ownA own) g)) (ht : ∀ (s : Shared) (H : Hp) (C : Addr) (cl : List (Str × Addr)) (fp : List Addr), PTs (X.blk s H scope (compEnvC scope cl C X.env) fp) ifs (tT X.K X.mg wF c))
    (he : ∀ (s : Shared) (H : Hp) (C : Addr) (cl : List (Str × Addr)) (fp : List Addr), PE (X.blk s H scope (compEnvC scope cl C X.env) fp) elt (tE X.K X.mg wF e)) (hs : ∀ x, foldedSetIterable iter X.env x = pure x) :
    PE X (.ListComp elt [⟨tg, iter, ifs, 0⟩] scope pos) (tE X.K X.mg W (comp (own.map (·.2)) s g c e)) := PE.of (pe_lc hc hN hi ok hg ht he hs) fun _ _ _ q => tE_comp q
theorem ps_C {i : Nat} {y : Str} {py : Pos} {elt tg iter : Expr} {ifs : List Expr} {scope : Scope} {own : List (Str × Nat)} {pos spos : Pos} {s : M (List D)} {g : Tg} {c : M Bool} {e : M EV} (hc : X.calm = true) (hN : X.N.Nodup) (hy : X.N[i]? = some y) (hyl : X.env.scope.names.lookup y = some .local) (hA : A i = true)
    (hsw : swapsWith (.ListComp elt [⟨tg, iter, ifs, 0⟩] scope pos) (some (.Name y py)) spos.line X.env = pure true) (hi : PI X tg iter (tI X.K X.mg W s)) (ok : BlkOk X.N X.env.scope scope own)
    (hg : ∀ (s : Shared) (H : Hp) (C : Addr) (cl : List (Str × Addr)) (fp : List Addr), PG (X.blk s H scope (compEnvC scope cl C X.env) fp) tg (tG X.K (ownA own) g)) (ht : ∀ (s : Shared) (H : Hp) (C : Addr) (cl : List (Str × Addr)) (fp : List Addr), PTs (X.blk s H scope (compEnvC scope cl C X.env) fp) ifs (tT X.K X.mg wF c))
    (he : ∀ (s : Shared) (H : Hp) (C : Addr) (cl : List (Str × Addr)) (fp : List Addr), PE (X.blk s H scope (compEnvC scope cl C X.env) fp) elt (tE X.K X.mg wF e)) (hs : ∀ x, foldedSetIterable iter X.env x = pure x) :
    PS X (.Assign [.Name y py] (.ListComp elt [⟨tg, iter, ifs, 0⟩] scope pos) spos) (tS X.K X.mg W A (asg (comp (own.map (·.2)) s g c e) (gN i))) :=
  PS.of (ps_setLc hc hN hy hyl hsw hi ok hg ht he hs) fun D σ H q => by
    have q1 := tS_asg q
    refine tE_comp (Q := _) ?_
    exact tE_mono (fun v H1 r => tG_N hA r) q1
theorem pg_N {i : Nat} {x : Str} {pos : Pos} (hN : X.N.Nodup) (hi : X.N[i]? = some x) (hx : Loc X.env.scope x) (hA : A i = true) (hf : X.fn x = true ∨ X.env.scope.names.lookup x = some .local) : PG X (.Name x pos) (tG X.K A (gN i)) := PG.of (pg_name hN hi hx hf) fun _ _ _ _ q => tG_N hA q
theorem ps_N {i : Nat} {x : Str} {e : Expr} {f : M EV} {pos pos' : Pos} (hN : X.N.Nodup) (hi : X.N[i]? = some x) (hx : Loc X.env.scope x) (hA : A i = true) (he : PE X e (tE X.K X.mg W f)) (hs : swapsWith e (some (.Name x pos')) pos.line X.env = pure false) (hf : X.fn x = true ∨ X.env.scope.names.lookup x = some .local) :
    PS X (.Assign [.Name x pos'] e pos) (tS X.K X.mg W A (asg f (gN i))) := PS.of (ps_set hN hi hx he hs hf) fun D σ H q => tE_mono (fun v H1 r => tG_N hA r) (tS_asg q)
theorem ps_G {tg e : Expr} {f : M EV} {g : Tg} {pos : Pos} (he : PE X e (tE X.K X.mg W f)) (hg : PG X tg (tG X.K A g)) (hs : swapsWithSole [tg] e pos.line X.env = pure false) (hw : swappedStores [tg] e X.env = pure none)
    (h1 : (assignEach [tg] X.env).map (·.2) = [assign tg X.env]) : PS X (.Assign [tg] e pos) (tS X.K X.mg W A (asg f g)) := PS.of (ps_asg he hg hs hw h1) fun D σ H q => tS_asg q
theorem pgs_0 : PGs X [] (tGs X.K A gs0) := PGs.of pgs_nil fun _ _ _ _ q => tGs_0 q
theorem pgs_C {e : Expr} {es : List Expr} {g : Tg} {gs : List D → M Unit} (h1 : PG X e (tG X.K A g)) (h2 : PGs X es (tGs X.K A gs)) (hs : (assignEach (e :: es) X.env).map (·.2) = assign e X.env :: (assignEach es X.env).map (·.2)) : PGs X (e :: es) (tGs X.K A (gsC g gs)) :=
  PGs.of (pgs_cons h1 h2 hs) fun _ _ _ _ q => tGs_C q
theorem pg_T {es : List Expr} {k n : Nat} {gs : List D → M Unit} {pos : Pos} (hc : X.calm = true) (h : PGs X es (tGs X.K A gs)) (hn : (assignEach es X.env).length = n) (hst : (assignEach es X.env).findIdx? (·.1) = none) : PG X (.Tuple es k pos) (tG X.K A (gT gs n)) :=
  PG.of (pg_tup hc h hn hst) fun _ _ _ _ q => tG_T q
def gI (j : Nat) (fi : M EV) : Tg := fun d ρ0 => match ρ0.getD j none with
  | some _ => bnd fi (fun ei => fun ρ => match ρ.getD j none, peek1 ρ ei with
    | some (.node true .lst xs), some (.int k) => match ixN xs.length k with
      | some i => .ok () (ρ.set j (some (.node true .lst (xs.set i d))))
      | none => .stuck
    | _, _ => .stuck) ρ0
  | none => .stuck
/-- an item of an owned list of a slot, stored -/
theorem set_item {j i : Nat} {xs : List D} {ρ : Env} {d : D} {v : V} {T : Fp} (w : Wd Z H (fun a => S a ∨ T a)) (dj : ∀ a, S a → T a → False) (er : EnvR K Z H ρ σ S) (e : ρ.getD j none = some (.node true .lst xs)) (hi : i < xs.length) (rv : Rep K Z H d v T) :
    ∃ p ys, σ[j]? = some (some (.ref p)) ∧ H p = some (.lst ys) ∧ ys.length = xs.length ∧ ∃ S', (∀ a, S' a → S a ∨ T a) ∧ S p ∧ EnvR K Z (upd H p (.lst (ys.set i v))) (ρ.set j (some (.node true .lst (xs.set i d)))) σ S' := by
  obtain ⟨u, U1, U2, hv, u1, u2, uj, ru, eu⟩ := er.take (getD_some e)
  obtain ⟨p, ys, U', rfl, c, sa, na, sub, rl⟩ := ru
  obtain ⟨hj, ej⟩ := List.getElem?_eq_some_iff.mp hv
  have es : σ.set j (some (.ref p)) = σ := by rw [← ej, List.set_getElem_self]
  have hl : j < ρ.length := by rw [er.length]; exact hj
  obtain ⟨y, T1, T2, hy, t1, t2, tj, ry, put⟩ := rl.take (List.getElem?_eq_getElem hi)
  have keep : ∀ {B : Fp}, (∀ a, B a → a = p → False) → ∀ a o, B a → H a = some o → upd H p (.lst (ys.set i v)) a = some o := fun {B} n a o b q => by rw [upd_ne fun z => n a b z]; exact q
  have nT : ∀ a, T a → a = p → False := fun a x y => dj p (u1 p sa) (by rw [← y]; exact x)
  have rv' : Rep K Z (upd H p (.lst (ys.set i v))) d v T := rv.move (Same.refl Z) (keep nT) fun _ x => x
  have pl := put Z (upd H p (.lst (ys.set i v))) d v T (fun a => T2 a ∨ T a) (Same.refl Z) (keep fun a x y => na (t2 p (by rw [← y]; exact x))) rv' (fun _ x => .inr x) (fun _ x => .inl x) fun a x y => dj a (u1 a (sub a (t2 a y))) x
  have rn : Rep K Z (upd H p (.lst (ys.set i v))) (.node true .lst (xs.set i d)) (.ref p) (fun a => a = p ∨ (T2 a ∨ T a)) := ⟨p, ys.set i v, _, rfl, upd_same, .inl rfl, fun x => x.elim (fun z => na (t2 p z)) fun z => nT p z rfl, fun _ x => .inr x, pl⟩
  have q := EnvR.put (S := fun a => (a = p ∨ (T2 a ∨ T a)) ∨ U2 a) (eu.move (Same.refl Z) (keep fun a x y => uj p sa (by rw [← y]; exact x)) fun _ x => x) hl rn (fun _ x => .inl x) (fun _ x => .inr x) fun a x y => by
    rcases x with x | x | x
    · exact uj p sa (by rw [← x]; exact y)
    · exact uj a (sub a (t2 a x)) y
    · exact dj a (u2 a y) x
  rw [es] at q
  refine ⟨p, ys, hv, c, rl.length.symm, _, fun a x => ?_, u1 p sa, q⟩
  rcases x with (x | x | x) | x
  · exact .inl (by rw [x]; exact u1 p sa)
  · exact .inl (u1 a (sub a (t2 a x)))
  · exact .inr x
  · exact .inl (u2 a x)
theorem tG_I {j : Nat} {fi : M EV} {v : V} {Q : Sl → Hp → Prop} (h : tG K A (gI j fi) v σ H Q) : gSub (tVar j) (tE K mg wF fi) rSetL v σ H Q := by
  obtain ⟨Z, ρ, S, Sd, d, w, dj, er, r, o⟩ := h
  simp only [gI] at o
  cases e0 : ρ.getD j none with
  | none => simp only [e0] at o
  | some d0 =>
    simp only [e0, bnd] at o
    obtain ⟨u, U1, U2, hv, _⟩ := er.take (getD_some e0)
    refine ⟨u, hv, Z, ρ, S, w.less fun a x => .inl x, er, ?_⟩
    cases e1 : fi ρ with
    | stuck => rw [e1] at o; exact o.elim
    | exc x ρ1 => rw [e1] at o; exact o.elim
    | ok ei ρ1 =>
      simp only [e1] at o
      intro vi Z1 H1 S1 Sa st dja er1 r1
      have stF := st.frame w dj
      have apF := st.apart (fun a x => w.live a (.inr x)) dj
      have r' : Rep K Z1 H1 d v Sd := st.stay dj r
      split at o
      · rename_i ρ' hm
        split at hm
        · rename_i xs k h1 h2
          split at hm
          · rename_i i hi
            cases hm
            have il : i < xs.length := (ixN_seq hi).2.1
            have hvi : vi = .int k := peek1_rep er1 r1 h2
            subst hvi
            have wA : Wd Z1 H1 (fun a => S1 a ∨ Sd a) := stF.wd.less fun a x => x.elim (fun y => .inl (.inl y)) .inr
            obtain ⟨p, ys, hv2, hp, hl, S', m', sp, er'⟩ := set_item wA (fun a x y => apF a (.inl x) y) er1 h1 il r'
            rw [hv] at hv2
            cases hv2
            refine ⟨p, ys, k, i, rfl, rfl, hp, by rw [hl]; exact hi, ?_⟩
            have st2 : Step Z1 H1 (fun a => S1 a ∨ Sd a) Z1 (upd H1 p (.lst (ys.set i v))) (fun a => S1 a ∨ Sd a) := Step.write wA (.inl sp)
            have stA : Step Z H (fun a => S a ∨ Sd a) Z1 H1 (fun a => S1 a ∨ Sd a) := stF.less fun a x => x.elim (fun y => .inl (.inl y)) .inr
            exact o σ Z1 _ S' (Keep.refl σ) ((stA.trans st2).less m') er'
          · cases hm
        · cases hm
      · exact o.elim
theorem pg_I {j : Nat} {x : Str} {b : Expr} {fi : M EV} {pos p2 : Pos} (hj : X.N[j]? = some x) (hv : Vis X.env.scope x) (hd : (x == ("__debug__" : Str)) = false) (hcd : (x == ("__classdict__" : Str)) = false) (hi : PE X b (tE X.K X.mg wF fi))
    (ha : ∀ v, assign (.Subscript (.Name x p2) b pos) X.env v = (do
      let ov ← holding [v] (eval (.Name x p2) X.env)
      let iv ← holding [v, ov] (eval b X.env)
      standAt pos
      holding [v, ov, iv] (setItem ov iv v)
      release [v, ov, iv] [])) : PG X (.Subscript (.Name x p2) b pos) (tG X.K A (gI j fi)) := PG.of (pg_sub (pe_var hj hv hd hcd) hi set_list ha) fun _ _ _ _ q => tG_I q
end
end Pm
namespace Pm
open PySem PySem.Spec PyProof.Rows L2
section
variable {K : PySem.W.Frag} {mg : Str → Option Value} {W : WX} {Z H : Hp} {S : Fp} {σ : Sl} {X : Cx} {A : Nat → Bool}
def par (i j : Nat) (fs : M (List EV)) : M Fl := bnd fs fun es => bnd (useL es) fun ds => fun ρ => match ds with
  | [a, b] => if i < ρ.length ∧ j < ρ.length then .ok .nx ((ρ.set i (some a)).set j (some b)) else .stuck
  | _ => .stuck
theorem useL_noexc : ∀ {es : List EV} {ρ ρ' : Env} {x : XD}, useL es ρ ≠ .exc x ρ'
  | [], _, _, _, q => nomatch q
  | e :: es, ρ, ρ', x, q => by
    simp only [useL, bnd] at q
    cases u1 : use1 e ρ with
    | stuck => rw [u1] at q; cases q
    | exc y ρ3 => exact use1_noexc u1
    | ok d ρ3 =>
      simp only [u1] at q
      cases u2 : useL es ρ3 with
      | stuck => rw [u2] at q; cases q
      | exc y ρ4 => exact useL_noexc u2
      | ok ds ρ4 => simp only [u2, ret] at q; cases q
theorem tS_par {i j : Nat} {fs : M (List EV)} {D : Ends} (hi : A i = true) (hj : A j = true) (h : tS K mg W A (par i j fs) D σ H) : tPar i j (tA K mg W fs) D σ H := by
  obtain ⟨Z, ρ, S, w, er, o⟩ := h
  refine ⟨Z, ρ, S, w, er, ?_⟩
  simp only [par, bnd] at o
  cases e1 : fs ρ with
  | stuck => rw [e1] at o; exact o
  | exc x ρ1 => rw [e1] at o; exact o σ (Keep.refl σ)
  | ok es ρ1 =>
    simp only [e1] at o
    intro vs Z1 H1 S1 Sa st1 dj1 er1 r1
    cases e2 : useL es ρ1 with
    | stuck => rw [e2] at o; exact o.elim
    | exc x ρ2 => exact absurd e2 useL_noexc
    | ok ds ρ2 =>
      simp only [e2] at o
      have w1 : Wd Z1 H1 (fun a => (S1 a ∨ Sa a) ∨ Fp0 a) := st1.wd.less fun a x => x.elim id False.elim
      obtain ⟨Z2, S2, st2, m2, er2, r2⟩ := useL_ok w1 dj1 (fun _ _ x => x) er1 r1 e2
      have st2' : Step Z1 H1 (fun a => S1 a ∨ Sa a) Z2 H1 (fun a => S2 a ∨ Sa a) := ⟨st2.wd.less fun a x => .inl x, st2.zz, fun a o n e _ => e, fun a x => .inl (x.elim (fun y => .inl (m2 a y)) .inr), fun a o e => (st2.znew a o e).elim .inl fun y => .inr (y.elim (fun z => z.elim .inl False.elim) .inr)⟩
      split at o
      · rename_i a b
        split at o
        · rename_i hl
          cases vs with
          | nil => exact r2.elim
          | cons v vs =>
            obtain ⟨A1, A2, a1, a2, aj, ra, q⟩ := r2
            cases vs with
            | nil => exact q.elim
            | cons u us =>
              obtain ⟨B1, B2, b1, b2, bj, rb, q2⟩ := q
              cases us with
              | cons => exact q2.elim
              | nil =>
                have p1 := EnvR.put (S := fun x => S2 x ∨ A1 x) (er2.drop i) hl.1 ra (fun a x => .inr x) (fun a x => .inl x) fun a x y => dj1 a (m2 a y) (a1 a x)
                have p2 := EnvR.put (S := fun x => (S2 x ∨ A1 x) ∨ B1 x) (p1.drop j) (by rw [List.length_set]; exact hl.2) rb (fun a x => .inr x) (fun a x => .inl x) fun a x y => y.elim (fun z => dj1 a (m2 a z) (a2 a (b1 a x))) fun z => aj a z (b1 a x)
                refine ⟨v, u, rfl, ?_⟩
                refine o _ .non Z2 H1 _ Fp0 ⟨fun k hk => ?_, by rw [List.length_set, List.length_set]⟩ ((st1.trans st2').less fun a x => ?_) (fun _ _ x => x) p2 trivial
                · rw [List.getElem?_set_ne (fun e => by rw [← e, hj] at hk; cases hk), List.getElem?_set_ne (fun e => by rw [← e, hi] at hk; cases hk)]
                · rcases x with ((x | x) | x) | x
                  · exact .inl x
                  · exact .inr (a1 a x)
                  · exact .inr (a2 a (b1 a x))
                  · exact x.elim
        · exact o.elim
      · exact o.elim
theorem ps_P {i j : Nat} {x y : Str} {a b : Expr} {fs : M (List EV)} {px py pt pos : Pos} {kt k2 pt2} (hc : X.calm = true) (hN : X.N.Nodup) (hi : X.N[i]? = some x) (hj : X.N[j]? = some y) (hij : i ≠ j) (hAi : A i = true) (hAj : A j = true)
    (hx : X.env.scope.names.lookup x = some .local) (hy : X.env.scope.names.lookup y = some .local) (ha : PA X [a, b] (tA X.K X.mg W fs)) (hw : swappedStores [.Tuple [.Name x px, .Name y py] kt pt] (.Tuple [a, b] k2 pt2) X.env = pure (some [x, y]))
    (hs : swapsWithSole [.Tuple [.Name x px, .Name y py] kt pt] (.Tuple [a, b] k2 pt2) pos.line X.env = pure false) : PS X (.Assign [.Tuple [.Name x px, .Name y py] kt pt] (.Tuple [a, b] k2 pt2) pos) (tS X.K X.mg W A (par i j fs)) :=
  PS.of (ps_par hc hN hi hj hij hx hy ha hw hs) fun _ _ _ q => tS_par hAi hAj q
def appd (j : Nat) (fe : M EV) : M EV := fun ρ0 => match ρ0.getD j none with
  | some (.node true .lst _) => bnd fe (fun ev => bnd (use1 ev) fun d => fun ρ => match ρ.getD j none with
    | some (.node true .lst xs) => if xs.length < cap then .ok (.val .non) (ρ.set j (some (.node true .lst (xs ++ [d])))) else .stuck
    | _ => .stuck) ρ0
  | _ => .stuck
theorem push_item {j : Nat} {xs : List D} {ρ : Env} {d : D} {v : V} {T : Fp} (w : Wd Z H (fun a => S a ∨ T a)) (dj : ∀ a, S a → T a → False) (er : EnvR K Z H ρ σ S) (e : ρ.getD j none = some (.node true .lst xs)) (rv : Rep K Z H d v T) :
    ∃ p ys, σ[j]? = some (some (.ref p)) ∧ H p = some (.lst ys) ∧ ys.length = xs.length ∧ ∃ S', (∀ a, S' a → S a ∨ T a) ∧ S p ∧ EnvR K Z (upd H p (.lst (ys ++ [v]))) (ρ.set j (some (.node true .lst (xs ++ [d])))) σ S' := by
  obtain ⟨u, U1, U2, hv, u1, u2, uj, ru, eu⟩ := er.take (getD_some e)
  obtain ⟨p, ys, U', rfl, c, sa, na, sub, rl⟩ := ru
  obtain ⟨hj, ej⟩ := List.getElem?_eq_some_iff.mp hv
  have es : σ.set j (some (.ref p)) = σ := by rw [← ej, List.set_getElem_self]
  have hl : j < ρ.length := by rw [er.length]; exact hj
  have keep : ∀ {B : Fp}, (∀ a, B a → a = p → False) → ∀ a o, B a → H a = some o → upd H p (.lst (ys ++ [v])) a = some o := fun {B} n a o b q => by rw [upd_ne fun z => n a b z]; exact q
  have nT : ∀ a, T a → a = p → False := fun a x y => dj p (u1 p sa) (by rw [← y]; exact x)
  have rv' : Rep K Z (upd H p (.lst (ys ++ [v]))) d v T := rv.move (Same.refl Z) (keep nT) fun _ x => x
  have pl : RepL K Z (upd H p (.lst (ys ++ [v]))) (xs ++ [d]) (ys ++ [v]) (fun a => U' a ∨ T a) := RepL.append (rl.move (Same.refl Z) (keep fun a x y => na (by rw [← y]; exact x)) fun _ x => x) ⟨T, Fp0, fun _ x => x, fun _ x => x.elim, fun _ _ x => x, rv', trivial⟩ (fun _ x => .inl x) (fun _ x => .inr x) fun a x y => dj a (u1 a (sub a x)) y
  have rn : Rep K Z (upd H p (.lst (ys ++ [v]))) (.node true .lst (xs ++ [d])) (.ref p) (fun a => a = p ∨ (U' a ∨ T a)) := ⟨p, ys ++ [v], _, rfl, upd_same, .inl rfl, fun x => x.elim na fun z => nT p z rfl, fun _ x => .inr x, pl⟩
  have q := EnvR.put (S := fun a => (a = p ∨ (U' a ∨ T a)) ∨ U2 a) (eu.move (Same.refl Z) (keep fun a x y => uj p sa (by rw [← y]; exact x)) fun _ x => x) hl rn (fun _ x => .inl x) (fun _ x => .inr x) fun a x y => by
    rcases x with x | x | x
    · exact uj p sa (by rw [← x]; exact y)
    · exact uj a (sub a x) y
    · exact dj a (u2 a y) x
  rw [es] at q
  refine ⟨p, ys, hv, c, rl.length.symm, _, fun a x => ?_, u1 p sa, q⟩
  rcases x with (x | x | x) | x
  · exact .inl (by rw [x]; exact u1 p sa)
  · exact .inl (u1 a (sub a x))
  · exact .inr x
  · exact .inl (u2 a x)
theorem tE_appd {j : Nat} {fe : M EV} {Q : VK} (h : tE K mg W (appd j fe) σ H Q) : tBM K "list" rAppend (tVar j) (tCons (tE K mg W fe) tNil) σ H Q := by
  obtain ⟨Z, ρ, S, w, er, o⟩ := h
  simp only [appd] at o
  split at o
  · rename_i xs0 h0
    obtain ⟨u, U1, U2, hv, u1, u2, uj, ru, eu⟩ := er.take (getD_some h0)
    obtain ⟨p, ys0, U', rfl, c0, _⟩ := ru
    refine ⟨.ref p, hv, .inl ⟨rfl, ys0, SqL.of c0⟩, Z, ρ, S, w, er, ?_⟩
    simp only [bnd] at o
    cases e1 : fe ρ with
    | stuck => rw [e1] at o; exact o
    | exc x ρ1 => rw [e1] at o; exact o
    | ok ev ρ1 =>
      simp only [e1] at o
      intro v Z1 H1 S1 Sa st1 dj1 er1 r1
      cases e2 : use1 ev ρ1 with
      | stuck => rw [e2] at o; exact o.elim
      | exc x ρ2 => exact absurd e2 use1_noexc
      | ok d ρ2 =>
        simp only [e2] at o
        have w1 : Wd Z1 H1 (fun a => (S1 a ∨ Sa a) ∨ Fp0 a) := st1.wd.less fun a x => x.elim id False.elim
        obtain ⟨Z2, S2, st2, m2, er2, r2⟩ := use1_ok w1 dj1 (fun _ _ x => x) er1 r1 e2
        have st2' : Step Z1 H1 (fun a => S1 a ∨ Sa a) Z2 H1 (fun a => S2 a ∨ Sa a) := ⟨st2.wd.less fun a x => .inl x, st2.zz, fun a o n e _ => e, fun a x => .inl (x.elim (fun y => .inl (m2 a y)) .inr), fun a o e => (st2.znew a o e).elim .inl fun y => .inr (y.elim (fun z => z.elim .inl False.elim) .inr)⟩
        split at o
        · rename_i xs h1
          split at o
          · rename_i hz
            obtain ⟨p', ys, hv2, hp, hl, S', m', sp, er'⟩ := push_item st2'.wd (fun a x y => dj1 a (m2 a x) y) er2 h1 r2
            rw [hv] at hv2
            cases hv2
            refine ⟨p, ys, v, rfl, rfl, hp, by rw [hl]; exact Nat.lt_trans hz (by rw [sizeLine_eq]; decide), ?_⟩
            exact o .non Z2 _ S' Fp0 ((((st1.trans st2').trans (Step.write st2'.wd (.inl sp))).less m').less fun a x => x.elim id False.elim) (fun _ _ x => x) er' rfl
          · exact o.elim
        · exact o.elim
  · exact o.elim
theorem pe_append {j : Nat} {x : Str} {e : Expr} {fe : M EV} {p2 apos cpos : Pos} (hj : X.N[j]? = some x) (hv : Vis X.env.scope x) (hd : (x == ("__debug__" : Str)) = false) (hcd : (x == ("__classdict__" : Str)) = false) (he : PE X e (tE X.K X.mg W fe))
    (hbase : attributeBase (.Name x p2) "append" X.env (eval (.Name x p2) X.env) = eval (.Name x p2) X.env)
    (hfew : ((backTo cpos (starEach [e] X.env)).all (fun x => !x.1) && (backToKw cpos (keywordEach [] X.env)).all (fun x => x.1.isSome)
      && decide ([e].length + ([] : List Keyword).length + (if ([] : List Keyword).isEmpty then 0 else 1) < 30)) = true)
    (hline : (apos.endLine == cpos.line) = true) (hs : starEach [e] X.env = (false, eval e X.env) :: starEach [] X.env) (hplain : (backTo cpos (starEach [] X.env)).any (·.1) = false) :
    PE X (.Call (.Attribute (.Name x p2) "append" apos) [e] [] cpos) (tE X.K X.mg W (appd j fe)) :=
  PE.of (pe_bm PySem.F.plainAttrs_list PySem.F.slot_list_append PySem.F.type_list_append mt_append (pe_var hj hv hd hcd) (pa_cons he pa_nil hs) hbase hfew hline hs hplain) fun _ _ _ q => tE_appd q
end
end Pm
namespace Pm
open PySem PySem.Spec PyProof.Rows L2
section
variable {K : PySem.W.Frag} {mg : Str → Option Value} {W : WX} {Z H : Hp} {S : Fp} {σ : Sl} {X : Cx}
/-- two argument lists, one behind the other -/
def aApp (n1 n2 : Nat) (fs fk : M (List EV)) : M (List EV) := bnd fs fun es => bnd fk fun ks => fun ρ => if es.length = n1 ∧ ks.length = n2 then .ok (es ++ ks) ρ else .stuck
theorem EVsR.stay : ∀ {es : List EV} {vs : List V} {Z' H' : Hp} {S1 Sa S' : Fp}, EVsR K Z H σ es vs Sa → Step Z H S1 Z' H' S' → (∀ a, S1 a → Sa a → False) → EVsR K Z' H' σ es vs Sa
  | [], [], _, _, _, _, _, _, _, _ => trivial
  | [], _ :: _, _, _, _, _, _, h, _, _ => h.elim
  | _ :: _, [], _, _, _, _, _, h, _, _ => h.elim
  | e :: es, v :: vs, _, _, _, _, _, ⟨T1, T2, t1, t2, tj, r, q⟩, st, dj => ⟨T1, T2, t1, t2, tj, r.stay st fun a x y => dj a x (t1 a y), EVsR.stay q st fun a x y => dj a x (t2 a y)⟩
theorem EVsR.length : ∀ {es : List EV} {vs : List V} {S : Fp}, EVsR K Z H σ es vs S → es.length = vs.length
  | [], [], _, _ => rfl
  | [], _ :: _, _, h => h.elim
  | _ :: _, [], _, h => h.elim
  | _ :: _, _ :: _, _, ⟨_, _, _, _, _, _, q⟩ => by rw [List.length_cons, List.length_cons, EVsR.length q]
/-- the arguments put in the order of the parameters -/
def sel {α : Type} (p : List Nat) (xs : List α) : List α := p.filterMap (xs[·]?)
def selA (n : Nat) (p : List Nat) (fs : M (List EV)) : M (List EV) := bnd fs fun es => fun ρ => if es.length = n ∧ p.Nodup ∧ (∀ i ∈ p, i < n) then .ok (sel p es) ρ else .stuck
/-- how n values and the keywords ks behind them bind: in the order p -/
def KwB (K : PySem.W.Frag) (fd : FuncData) (ps ks : List Str) (n : Nat) (p : List Nat) : Prop := ∀ (s : Shared) (us ws : List Value), K.In s.heap → us.length = n → ws.length = ks.length → BindsTo s fd ⟨us, ks.zip ws⟩ (ps.zip (sel p (us ++ ws)))
theorem KwB.of {fd : FuncData} {ps ks : List Str} {n : Nat} {p : List Nat} (h : ∀ us ws : List Value, us.length = n → ws.length = ks.length → bindArgs fd ⟨us, ks.zip ws⟩ = pure (ps.zip (sel p (us ++ ws)))) : KwB K fd ps ks n p := fun _ us ws _ h1 h2 => .of_eq (h us ws h1 h2)
theorem PK.of {kws : List Keyword} {t t' : TA} (h : PK X kws t) (i : ∀ σ H Q, t' σ H Q → t σ H Q) : PK X kws t' := ⟨fun o p s σ H Q I q => h.run o p s σ H Q I (i σ H Q q)⟩
end
end Pm
namespace Pm
open PySem PySem.Spec PyProof.Rows L2
section
variable {K : PySem.W.Frag} {mg : Str → Option Value} {W : WX} {Z H : Hp} {S : Fp} {σ : Sl} {X : Cx} {A : Nat → Bool} {a b c e l tg iter : Expr} {es rest : List Expr} {pos p2 : Pos} {f fa fb fc : M EV} {fs : M (List EV)} {ta tb : M Bool}
theorem E_loc (i : Nat) {x : Str} (hN : X.N[i]? = some x := by rfl) (hv : Vis X.env.scope x := by first | exact Or.inl rfl | exact Or.inr (Or.inl rfl) | exact Or.inr (Or.inr rfl)) (hd : (x == ("__debug__" : Str)) = false := by decide) (hcd : (x == ("__classdict__" : Str)) = false := by decide) :
    PE X (.Name x pos) (tE X.K X.mg W (loc i)) := pe_loc hN hv hd hcd
theorem E_int {i j} : PE X (.Constant (.int i) j pos) (tE X.K X.mg W (con (.int i))) := PE.of pe_int fun _ _ _ => tE_con fun _ _ => rfl
theorem E_str {x j} : PE X (.Constant (.str x) j pos) (tE X.K X.mg W (con (.str x))) := PE.of pe_str fun _ _ _ => tE_con fun _ _ => rfl
theorem E_bl {x j} : PE X (.Constant (.bool x) j pos) (tE X.K X.mg W (con (.bl x))) := PE.of pe_bl fun _ _ _ => tE_con fun _ _ => rfl
theorem E_non {j} : PE X (.Constant .none j pos) (tE X.K X.mg W (con .non)) := PE.of pe_non fun _ _ _ => tE_con fun _ _ => rfl
/-- a builtin's name as a value -/
theorem E_blt {x : Str} {u : V} {w : Value} (hm : X.mg x = none) (hv : bootBuiltins x = some w) (r : RelV u w := by rfl) (hg : Gl X x := by rfl) (hn : x ≠ "__name__" := by decide) (hd : (x == ("__debug__" : Str)) = false := by decide) : PE X (.Name x pos) (tE X.K X.mg W (con (.op u))) :=
  PE.of (pe_bltn hg hm hv r hn hd) fun _ _ _ => tE_con fun _ _ => rfl
theorem A_0 : PA X [] (tA X.K X.mg W aNil) := pa_n
theorem A_c (h : PE X e (tE X.K X.mg W f)) (hr : PA X es (tA X.K X.mg W fs)) (hs : starEach (e :: es) X.env = (false, eval e X.env) :: starEach es X.env := by rfl) : PA X (e :: es) (tA X.K X.mg W (aCons f fs)) := pa_c h hr hs
theorem E_op {op : Operator} {g : List D → Option D} (ho : Opd X (binaryOp op) g) (ha : PE X a (tE X.K X.mg W fa)) (hb : PE X b (tE X.K X.mg W fb)) : PE X (.BinOp a op b pos) (tE X.K X.mg W (bin g fa fb)) := pe_bin ho ha hb
theorem E_cmp {op : CmpOp} {g : List D → Option D} (ho : Opd X (compareOp op) g) (ha : PE X a (tE X.K X.mg W fa)) (hb : PE X b (tE X.K X.mg W fb)) (hm : behindInMarks op b = false := by first | exact nomark _ | rfl) : PE X (.Compare a [op] [b] pos) (tE X.K X.mg W (bin g fa fb)) := pe_cmpG ho ha hb hm
theorem T_cmp {op : CmpOp} {g : List D → Option D} (ho : Opd X (compareOp op) g) (ha : PE X a (tE X.K X.mg W fa)) (hb : PE X b (tE X.K X.mg W fb)) (hm : behindInMarks op b = false := by first | exact nomark _ | rfl) : PT X (.Compare a [op] [b] pos) (tT X.K X.mg W (tst (bin g fa fb))) := pt_cmpG ho ha hb hm
theorem T_v (h : PE X e (tE X.K X.mg W f)) (he : ∀ whole, isTrue e X.env whole = (do let v ← whole; standAt e.pos; holding [v] (truthy v)) := by intro _; rfl) : PT X e (tT X.K X.mg W (tst f)) := pt_v h he
theorem T_not (h : PT X a (tT X.K X.mg W ta)) : PT X (.UnaryOp .Not a pos) (tT X.K X.mg W (notT ta)) := PT.of (pt_not h) fun _ _ _ q => tT_not q
theorem W_and1 (h : PT X a (tT X.K X.mg W ta)) : PW X (.BoolOp .And [a] pos) (tT X.K X.mg W ta) := pw_and1 h
theorem W_or1 (h : PT X a (tT X.K X.mg W ta)) : PW X (.BoolOp .Or [a] pos) (tT X.K X.mg W ta) := pw_or1 h
theorem W_and (h : PT X a (tT X.K X.mg W ta)) (h2 : PW X (.BoolOp .And (b :: rest) pos) (tT X.K X.mg W tb)) : PW X (.BoolOp .And (a :: b :: rest) pos) (tT X.K X.mg W (andT ta tb)) := PW.of (pw_and h h2) fun _ _ _ q => tT_and q
theorem W_or (h : PT X a (tT X.K X.mg W ta)) (h2 : PW X (.BoolOp .Or (b :: rest) pos) (tT X.K X.mg W tb)) : PW X (.BoolOp .Or (a :: b :: rest) pos) (tT X.K X.mg W (orT ta tb)) := PW.of (pw_or h h2) fun _ _ _ q => tT_or q
theorem E_one {op} (h : PE X a (tE X.K X.mg W f)) : PE X (.BoolOp op [a] pos) (tE X.K X.mg W f) := pe_one h
theorem E_and (h : PE X a (tE X.K X.mg W fa)) (h2 : PE X (.BoolOp .And (b :: rest) pos) (tE X.K X.mg W fb)) : PE X (.BoolOp .And (a :: b :: rest) pos) (tE X.K X.mg W (andE fa fb)) := PE.of (pe_and h h2) fun _ _ _ q => tE_and q
theorem E_not (h : PE X a (tE X.K X.mg W fa)) : PE X (.UnaryOp .Not a pos) (tE X.K X.mg W (notE fa)) := PE.of (pe_not h) fun _ _ _ q => tE_not q
def opNeg : List D → Option D
  | [.int i] => some (.int (-i))
  | _ => none
theorem snd_neg : Snd X (fun vs H Q => ∃ x, vs = [x] ∧ rU (fun i => .int (-i)) x H Q) opNeg := by
  refine snd_pure fun Z H S ds vs d Q w r e q => ?_
  unfold opNeg at e
  split at e
  · rename_i i
    simp only [Option.some.injEq] at e
    subst e
    obtain ⟨v, rfl, rv⟩ := rb1 r
    have rv' : v = .int i := rv
    subst rv'
    exact ⟨_, rfl, i, rfl, q _ rfl⟩
  · cases e
theorem one_of {r : V → Hp → VK → Prop} {Q : VK} (h : tA K mg W (aCons f aNil) σ H fun vs H1 => ∃ x, vs = [x] ∧ r x H1 Q) : tUn r (tE K mg W f) σ H Q := by
  refine tE_mono (fun v H1 q => ?_) (tA_cons h)
  obtain ⟨x, hx, q⟩ := tA_nil q
  cases hx
  exact q
theorem E_neg (h : PE X a (tE X.K X.mg W fa)) : PE X (.UnaryOp .USub a pos) (tE X.K X.mg W (un opNeg fa)) := PE.of (pe_un un_neg h) fun _ _ _ q => one_of (tE_app snd_neg q)
theorem E_idx (ha : PE X a (tE X.K X.mg W fa)) (hb : PE X b (tE X.K X.mg W fb)) (hs : PlainIx b := by exact fun _ _ => rfl) : PE X (.Subscript a b pos) (tE X.K X.mg W (idx (aCons fa (aCons fb aNil)))) := pe_idx ha hb hs
theorem E_cut {lo hi : Option Expr} {lf hf : Option (M EV)} (he : PE X e (tE X.K X.mg W f)) (hl : PO X lo (tO X.K X.mg W (partO lf))) (hh : PO X hi (tO X.K X.mg W (partO hf))) : PE X (.Subscript e (.Slice lo hi none p2) pos) (tE X.K X.mg W (cut f lf hf)) :=
  PE.of (pe_slice (SlR.or sl_list (SlR.or sl_tupA sl_str)) he hl hh) fun _ _ _ q => tE_cut q
theorem O_0 : PO X none (tO X.K X.mg W (partO none)) := po_N
theorem O_1 (h : PE X e (tE X.K X.mg W f)) : PO X (some e) (tO X.K X.mg W (partO (some f))) := po_S h
theorem E_T {x1 : Nat} (h : PA X es (tA X.K X.mg W fs)) : PE X (.Tuple es x1 pos) (tE X.K X.mg W (disp false .tup fs)) := pe_T h
theorem E_L (h : PA X es (tA X.K X.mg W fs)) : PE X (.List es pos) (tE X.K X.mg W (disp true .lst fs)) := pe_L h
theorem E_blF {x : Str} {id : String} {p : Pos} {r : List V → Hp → VK → Prop} {g : List D → Option D} (hs : Snd X r g) (hc : CallR X (.builtin id) r) (hm : X.mg x = none) (ha : PA X (e :: es) (tA X.K X.mg W fs)) (hv : bootBuiltins x = some (.builtin id) := by first | exact PySem.boot_len | rfl) (hg : Gl X x := by rfl)
    (hn : x ≠ "__name__" := by decide) (hdb : (x == ("__debug__" : Str)) = false := by decide) (he : starEach (e :: es) X.env = (false, eval e X.env) :: starEach es X.env := by rfl) (hpl : (backTo pos (starEach es X.env)).any (·.1) = false := by rfl) :
    PE X (.Call (.Name x p) (e :: es) [] pos) (tE X.K X.mg W (app g fs)) := pe_blt hs hc hg hm hv ha hn hdb he hpl
theorem E_ty {x : Str} {T : String} {p : Pos} {r : List V → Hp → VK → Prop} {g : List D → Option D} (hs : Snd X r g) (hc : CallR X (.type T) r) (hm : X.mg x = none) (ha : PA X (e :: es) (tA X.K X.mg W fs)) (hv : bootBuiltins x = some (.type T) := by rfl) (hg : Gl X x := by rfl)
    (hn : x ≠ "__name__" := by decide) (hdb : (x == ("__debug__" : Str)) = false := by decide) (he : starEach (e :: es) X.env = (false, eval e X.env) :: starEach es X.env := by rfl) (hpl : (backTo pos (starEach es X.env)).any (·.1) = false := by rfl) :
    PE X (.Call (.Name x p) (e :: es) [] pos) (tE X.K X.mg W (app g fs)) := pe_bty hs hc hg hm hv ha hn hdb he hpl
theorem E_app {j : Nat} {x : Str} {fe : M EV} {apos cpos : Pos} (he : PE X e (tE X.K X.mg W fe)) (hj : X.N[j]? = some x := by rfl) (hv : Vis X.env.scope x := by first | exact Or.inl rfl | exact Or.inr (Or.inl rfl) | exact Or.inr (Or.inr rfl)) (hd : (x == ("__debug__" : Str)) = false := by decide) (hcd : (x == ("__classdict__" : Str)) = false := by decide)
    (hbase : attributeBase (.Name x p2) "append" X.env (eval (.Name x p2) X.env) = eval (.Name x p2) X.env := by rfl)
    (hfew : ((backTo cpos (starEach [e] X.env)).all (fun x => !x.1) && (backToKw cpos (keywordEach [] X.env)).all (fun x => x.1.isSome)
      && decide ([e].length + ([] : List Keyword).length + (if ([] : List Keyword).isEmpty then 0 else 1) < 30)) = true := by rfl)
    (hline : (apos.endLine == cpos.line) = true := by rfl) (hs : starEach [e] X.env = (false, eval e X.env) :: starEach [] X.env := by rfl) (hplain : (backTo cpos (starEach [] X.env)).any (·.1) = false := by rfl) :
    PE X (.Call (.Attribute (.Name x p2) "append" apos) [e] [] cpos) (tE X.K X.mg W (appd j fe)) := pe_append hj hv hd hcd he hbase hfew hline hs hplain
/-- what a body needs to call a def -/
structure Fit (X : Cx) (W : WX) (k : Nat) : Prop where
  gd : X.A.guards = some []
  room : Room k X.A
  tk : Takes X W
theorem Fit.blk {k : Nat} {s : Shared} {H0 : Hp} {scope : Scope} {cenv : PySem.Env} {fp : List Addr} (h : Fit X W k) : Fit (X.blk s H0 scope cenv fp) wF k := ⟨h.gd, h.room, fun u s' ⟨_, _, _, _, _, _, _, _, _, _, _, _, _, _, _, _, z⟩ => z.elim⟩
theorem E_ty1 {T : String} (hm : X.mg T = none) (hv : bootBuiltins (T : Str) = some (.type T) := by rfl) (hg : Gl X (T : Str) := by rfl) (hn : (T : Str) ≠ "__name__" := by decide) (hd : ((T : Str) == ("__debug__" : Str)) = false := by decide) : PE X (.Name (T : Str) pos) (tE X.K X.mg W (con (.op (.ty T)))) :=
  E_blt hm hv rfl hg hn hd
/-- a def as the module knows it -/
structure Def (P : Program) (w : World) (K : PySem.W.Frag) (mg : Str → Option Value) (base : Heap) (k : Nat) (x : Str) (f : Addr) (fd : FuncData) (ps : List Str) (g : FSem) : Prop where
  ok : FnG P w K mg base k f fd ps g
  mg : mg x = some (.ref f)
  kp : PySem.W.keepIn K (.ref f) = true
  bd : Binds K fd ps []
theorem E_call {k n : Nat} {fA : Addr} {fd : FuncData} {ps : List Str} {g : FSem} {x : Str} {p : Pos} (F : Def X.prog X.w X.K X.mg X.base k x fA fd ps g) (ft : Fit X W n) (ha : PA X (e :: es) (tA X.K X.mg W fs)) (hk : k ≤ n := by first | decide | omega) (hg : Gl X x := by rfl) (hdb : (x == ("__debug__" : Str)) = false := by decide)
    (he : starEach (e :: es) X.env = (false, eval e X.env) :: starEach es X.env := by rfl) (hpl : (backTo pos (starEach es X.env)).any (·.1) = false := by rfl) : PE X (.Call (.Name x p) (e :: es) [] pos) (tE X.K X.mg W (callF g fs)) :=
  pe_callG F.ok ft.gd (ft.room.mono hk) ft.tk hg F.mg F.kp F.bd ha hdb he hpl
variable {st : Stmt} {sts s1 s2 : List Stmt} {m1 m2 : M Fl}
theorem B_0 : PSs X [] (tS X.K X.mg W A sNx) := PSs.of pss_nil fun _ _ _ q => tS_nx q
theorem B_c (h : PS X st (tS X.K X.mg W A m1)) (h2 : PSs X sts (tS X.K X.mg W A m2)) : PSs X (st :: sts) (tS X.K X.mg W A (seq m1 m2)) := PSs.of (pss_cons h h2) fun _ _ _ q => tS_seq q
theorem B_1 (h : PS X st (tS X.K X.mg W A m1)) : PSs X [st] (tS X.K X.mg W A m1) := pss_one h
theorem S_if (h : PT X c (tT X.K X.mg W ta)) (h1 : PSs X s1 (tS X.K X.mg W A m1)) (h2 : PSs X s2 (tS X.K X.mg W A m2)) : PS X (.If c s1 s2 pos) (tS X.K X.mg W A (ite ta m1 m2)) := PS.of (ps_if h h1 h2) fun _ _ _ q => tS_if q
theorem S_ret (h : PE X e (tE X.K X.mg W f)) : PS X (.Return (some e) pos) (tS X.K X.mg W A (rtn f)) := PS.of (ps_ret h) fun _ _ _ q => tS_rtn q
/-- a def's own local handed back: it moves -/
theorem E_mov (i : Nat) {x : Str} (hN : X.N[i]? = some x := by rfl) (hv : Vis X.env.scope x := by first | exact Or.inl rfl | exact Or.inr (Or.inl rfl) | exact Or.inr (Or.inr rfl)) (hd : (x == ("__debug__" : Str)) = false := by decide) (hcd : (x == ("__classdict__" : Str)) = false := by decide) :
    PE X (.Name x pos) (tE X.K X.mg W (mov i)) := PE.of (pe_var hN hv hd hcd) fun _ _ _ => tE_mov
theorem S_ex (h : PE X e (tE X.K X.mg W f)) (hs : swapsWith e none pos.line X.env = pure false := by rfl) : PS X (.Expr e pos) (tS X.K X.mg W A (drp f)) := PS.of (ps_expr h hs) fun _ _ _ q => tS_drp q
theorem S_for {s : M (List D)} {g : Tg} (hp : PassesOwn (model X.prog X.w) X.A X.env X.xe) (hi : PI X tg iter (tI X.K X.mg W s)) (hg : PG X tg (tG X.K A g)) (hb : PSs X s1 (tS X.K X.mg W A m1)) (hc : X.calm = true := by rfl) (hs : ∀ x, foldedSetIterable iter X.env x = pure x := by intro _; rfl) :
    PS X (.For tg iter s1 [] pos) (tS X.K X.mg W A (forS s g m1)) := ps_forS hp hc hi hg hb hs
theorem S_set {i : Nat} {x : Str} {pos' : Pos} (he : PE X e (tE X.K X.mg W f)) (hN : X.N.Nodup) (hA : A i = true := by rfl) (hi : X.N[i]? = some x := by rfl) (hx : Loc X.env.scope x := by first | exact .inl rfl | exact .inr rfl) (hs : swapsWith e (some (.Name x pos')) pos.line X.env = pure false := by rfl)
    (hf : X.fn x = true ∨ X.env.scope.names.lookup x = some .local := by first | exact .inl rfl | exact .inr rfl) : PS X (.Assign [.Name x pos'] e pos) (tS X.K X.mg W A (asg f (gN i))) := ps_N hN hi hx hA he hs hf
theorem S_tg {g : Tg} (he : PE X e (tE X.K X.mg W f)) (hg : PG X tg (tG X.K A g)) (hs : swapsWithSole [tg] e pos.line X.env = pure false := by rfl) (hw : swappedStores [tg] e X.env = pure none := by rfl) (h1 : (assignEach [tg] X.env).map (·.2) = [assign tg X.env] := by rfl) :
    PS X (.Assign [tg] e pos) (tS X.K X.mg W A (asg f g)) := ps_G he hg hs hw h1
theorem G_n {i : Nat} {x : Str} (hN : X.N.Nodup) (hA : A i = true := by rfl) (hi : X.N[i]? = some x := by rfl) (hx : Loc X.env.scope x := by first | exact .inl rfl | exact .inr rfl) (hf : X.fn x = true ∨ X.env.scope.names.lookup x = some .local := by first | exact .inl rfl | exact .inr rfl) :
    PG X (.Name x pos) (tG X.K A (gN i)) := pg_N hN hi hx hA hf
theorem G_i {j : Nat} {x : Str} {fi : M EV} (hi : PE X b (tE X.K X.mg wF fi)) (hj : X.N[j]? = some x := by rfl) (hv : Vis X.env.scope x := by first | exact Or.inl rfl | exact Or.inr (Or.inl rfl) | exact Or.inr (Or.inr rfl)) (hd : (x == ("__debug__" : Str)) = false := by decide) (hcd : (x == ("__classdict__" : Str)) = false := by decide)
    (ha : ∀ v, assign (.Subscript (.Name x p2) b pos) X.env v = (do
      let ov ← holding [v] (eval (.Name x p2) X.env)
      let iv ← holding [v, ov] (eval b X.env)
      standAt pos
      holding [v, ov, iv] (setItem ov iv v)
      release [v, ov, iv] []) := by intro _; rfl) : PG X (.Subscript (.Name x p2) b pos) (tG X.K A (gI j fi)) := pg_I hj hv hd hcd hi ha
theorem Gs_0 : PGs X [] (tGs X.K A gs0) := pgs_0
theorem Gs_c {g : Tg} {gs : List D → M Unit} (h1 : PG X e (tG X.K A g)) (h2 : PGs X es (tGs X.K A gs)) (hs : (assignEach (e :: es) X.env).map (·.2) = assign e X.env :: (assignEach es X.env).map (·.2) := by rfl) : PGs X (e :: es) (tGs X.K A (gsC g gs)) := pgs_C h1 h2 hs
theorem G_t {k n : Nat} {gs : List D → M Unit} (h : PGs X es (tGs X.K A gs)) (hc : X.calm = true := by rfl) (hn : (assignEach es X.env).length = n := by rfl) (hst : (assignEach es X.env).findIdx? (·.1) = none := by rfl) : PG X (.Tuple es k pos) (tG X.K A (gT gs n)) := pg_T hc h hn hst
theorem S_par {i j : Nat} {x y : Str} {px py pt : Pos} {kt k2 pt2} (ha : PA X [a, b] (tA X.K X.mg W fs)) (hN : X.N.Nodup) (hAi : A i = true := by rfl) (hAj : A j = true := by rfl) (hi : X.N[i]? = some x := by rfl) (hj : X.N[j]? = some y := by rfl) (hij : i ≠ j := by decide) (hc : X.calm = true := by rfl)
    (hx : X.env.scope.names.lookup x = some .local := by rfl) (hy : X.env.scope.names.lookup y = some .local := by rfl) (hw : swappedStores [.Tuple [.Name x px, .Name y py] kt pt] (.Tuple [a, b] k2 pt2) X.env = pure (some [x, y]) := by rfl)
    (hs : swapsWithSole [.Tuple [.Name x px, .Name y py] kt pt] (.Tuple [a, b] k2 pt2) pos.line X.env = pure false := by rfl) : PS X (.Assign [.Tuple [.Name x px, .Name y py] kt pt] (.Tuple [a, b] k2 pt2) pos) (tS X.K X.mg W A (par i j fs)) := ps_P hc hN hi hj hij hAi hAj hx hy ha hw hs
theorem I_r1 {p : Pos} (hm : X.mg "range" = none) (ha : PE X a (tE X.K X.mg W fa)) (hg : Gl X "range" := by rfl) (h1 : starEach [a] X.env = [(false, eval a X.env)] := by rfl) : PI X tg (.Call (.Name "range" p) [a] [] pos) (tI X.K X.mg W (srcR1 (aCons fa aNil))) := pi_R1 hg hm (A_c ha A_0 h1) h1
theorem I_a (h : PE X l (tE X.K X.mg W f)) : PI X tg l (tI X.K X.mg W (srcA f)) := pi_A h
theorem E_lc {elt : Expr} {ifs : List Expr} {scope : Scope} {own : List (Str × Nat)} {s : M (List D)} {g : Tg} {cc : M Bool} {ee : M EV} (hN : X.N.Nodup) (hi : PI X tg iter (tI X.K X.mg W s)) (ok : BlkOk X.N X.env.scope scope own)
    (hg : ∀ (s : Shared) (H : Hp) (C : Addr) (cl : List (Str × Addr)) (fp : List Addr), PG (X.blk s H scope (compEnvC scope cl C X.env) fp) tg (tG X.K (ownA own) g)) (ht : ∀ (s : Shared) (H : Hp) (C : Addr) (cl : List (Str × Addr)) (fp : List Addr), PTs (X.blk s H scope (compEnvC scope cl C X.env) fp) ifs (tT X.K X.mg wF cc))
    (he : ∀ (s : Shared) (H : Hp) (C : Addr) (cl : List (Str × Addr)) (fp : List Addr), PE (X.blk s H scope (compEnvC scope cl C X.env) fp) elt (tE X.K X.mg wF ee)) (hc : X.calm = true := by rfl) (hs : ∀ x, foldedSetIterable iter X.env x = pure x := by intro _; rfl) :
    PE X (.ListComp elt [⟨tg, iter, ifs, 0⟩] scope pos) (tE X.K X.mg W (comp (own.map (·.2)) s g cc ee)) := pe_C hc hN hi ok hg ht he hs
theorem S_lc {i : Nat} {y : Str} {py spos : Pos} {elt : Expr} {ifs : List Expr} {scope : Scope} {own : List (Str × Nat)} {s : M (List D)} {g : Tg} {cc : M Bool} {ee : M EV} (hN : X.N.Nodup) (hi : PI X tg iter (tI X.K X.mg W s)) (ok : BlkOk X.N X.env.scope scope own)
    (hg : ∀ (s : Shared) (H : Hp) (C : Addr) (cl : List (Str × Addr)) (fp : List Addr), PG (X.blk s H scope (compEnvC scope cl C X.env) fp) tg (tG X.K (ownA own) g)) (ht : ∀ (s : Shared) (H : Hp) (C : Addr) (cl : List (Str × Addr)) (fp : List Addr), PTs (X.blk s H scope (compEnvC scope cl C X.env) fp) ifs (tT X.K X.mg wF cc))
    (he : ∀ (s : Shared) (H : Hp) (C : Addr) (cl : List (Str × Addr)) (fp : List Addr), PE (X.blk s H scope (compEnvC scope cl C X.env) fp) elt (tE X.K X.mg wF ee)) (hc : X.calm = true := by rfl) (hs : ∀ x, foldedSetIterable iter X.env x = pure x := by intro _; rfl)
    (hA : A i = true := by rfl) (hy : X.N[i]? = some y := by rfl) (hyl : X.env.scope.names.lookup y = some .local := by rfl) (hsw : swapsWith (.ListComp elt [⟨tg, iter, ifs, 0⟩] scope pos) (some (.Name y py)) spos.line X.env = pure true := by rfl) :
    PS X (.Assign [.Name y py] (.ListComp elt [⟨tg, iter, ifs, 0⟩] scope pos) spos) (tS X.K X.mg W A (asg (comp (own.map (·.2)) s g cc ee) (gN i))) := ps_C hc hN hy hyl hA hsw hi ok hg ht he hs
theorem Ts_0 : PTs X [] (tT X.K X.mg W yesT) := pts_N
theorem Ts_1 (h : PT X c (tT X.K X.mg W ta)) : PTs X [c] (tT X.K X.mg W ta) := pts_1 h
end
end Pm
namespace Pm
open PySem PySem.Spec PyProof.Rows L2
noncomputable def penS : FSem := mkF 1 1 [] (rtn (disp true .lst (aCons (app opList (aCons (cut (loc 0) none (some (con (.int 63)))) aNil)) (aCons (con (.int 0)) (aCons (con (.int 0)) aNil)))))
/-- f comes out at ρ with the value e and leaves ρ' -/
theorem seq_ok {a b : M Fl} {ρ ρ' : Env} (h : a ρ = .ok .nx ρ') : seq a b ρ = b ρ' := by unfold seq bnd; rw [h]
theorem ite_T {c : M Bool} {a b : M Fl} {ρ ρ' : Env} (h : c ρ = .ok true ρ') : ite c a b ρ = a ρ' := by unfold ite bnd; rw [h]; rfl
theorem ite_F {c : M Bool} {a b : M Fl} {ρ ρ' : Env} (h : c ρ = .ok false ρ') : ite c a b ρ = b ρ' := by unfold ite bnd; rw [h]; rfl
theorem shp_ints (n : Nat) : ∀ ns : List Int, (ns.map D.int).all (shp n) = true
  | [] => rfl
  | x :: ns => by
    rw [List.map_cons, List.all_cons, shp_ints n ns]
    cases n <;> rfl
theorem plain_ints : ∀ ns : List Int, plainL (ns.map D.int) = true
  | [] => rfl
  | x :: ns => by rw [List.map_cons, plainL, plain_ints ns]; rfl
theorem frz_ints : ∀ ns : List Int, frzL (ns.map D.int) = ns.map D.int
  | [] => rfl
  | x :: ns => by rw [List.map_cons, frzL, frz_ints ns]; rfl
theorem neNil (b c : Bool) (ns : List Int) : opNe [.node b .lst (ns.map D.int), .node c .lst []] = some (.bl (decide (ns ≠ []))) := by
  have h1 : shp 60 (.node b .lst (ns.map D.int)) = true := by
    show (ns.map D.int).all (shp 59) = true
    exact shp_ints 59 ns
  have h2 : shp 60 (.node c .lst []) = true := rfl
  show (if (shp 60 (.node b .lst (ns.map D.int)) && shp 60 (.node c .lst [])) = true then some (D.bl !deq (.node b .lst (ns.map D.int)) (.node c .lst [])) else none) = _
  rw [h1, h2]
  cases ns <;> rfl
/-- the pen: the cells, the place, what is left -/
def Pen (ns : List Int) (a : Int) (d : D) : Prop := ∃ (b : Bool) (at' left : Int), d = .node true .lst [.node b .lst (ns.map D.int), .int at', .int left] ∧ 0 ≤ at' ∧ at' ≤ a ∧ 0 ≤ left
theorem Pen.mono {ns : List Int} {a a' : Int} {d : D} (h : Pen ns a d) (l : a ≤ a') : Pen ns a' d := by
  obtain ⟨b, p, q, e, h1, h2, h3⟩ := h
  exact ⟨b, p, q, e, h1, by omega, h3⟩
theorem mulOkL {i j : Int} (h : i.natAbs < 2 ^ 64) : mulOk i j = true := decide_eq_true (.inl h)
theorem mulOkR {i j : Int} (h : j.natAbs < 2 ^ 64) : mulOk i j = true := decide_eq_true (.inr (.inl h))
theorem mulL {i j : Int} (h : i.natAbs < 2 ^ 64) : iMul i j = some (.int (i * j)) := by unfold iMul; rw [mulOkL h]; rfl
theorem mulR {i j : Int} (h : j.natAbs < 2 ^ 64) : iMul i j = some (.int (i * j)) := by unfold iMul; rw [mulOkR h]; rfl
theorem powN {i : Int} {j : Nat} (h : i.natAbs < 2 ^ 64) (hj : j ≤ 1000000) : iPow i (j : Int) = some (.int (i ^ j)) := by
  unfold iPow
  rw [if_pos]
  · rw [Int.toNat_natCast]
  · exact decide_eq_true ⟨by omega, by omega, h⟩
theorem pow10_18 : iPow 10 18 = some (.int 1000000000000000000) := rfl
theorem at_ints {ns : List Int} {p : Int} (hp : 0 ≤ p) (hn : ns ≠ []) : ∃ c, atI (ns.map D.int) (p % (ns.length : Int)) = some (.int c) := by
  have h1 : 0 < ns.length := List.length_pos_iff.mpr hn
  have h2 := Int.emod_nonneg p (show (ns.length : Int) ≠ 0 by omega)
  have h3 := Int.emod_lt_of_pos p (show (0 : Int) < ns.length by omega)
  have hi : (p % (ns.length : Int)).toNat < ns.length := by omega
  refine ⟨ns[(p % (ns.length : Int)).toNat], ?_⟩
  unfold atI ixN
  rw [List.length_map, if_pos h2, if_pos h3]
  simp [List.getElem?_map, List.getElem?_eq_getElem hi]
end Pm
namespace Pm
open PySem PySem.Spec PyProof.Rows L2
theorem whl_T {c : M Bool} {b : M Fl} {ρ ρ1 ρ2 : Env} (h : c ρ = .ok true ρ1) (h2 : b ρ1 = .ok .nx ρ2) : whl c b ρ = whl c b ρ2 := by rw [whl_eq, h]; simp only [h2]
theorem whl_C {c : M Bool} {b : M Fl} {ρ ρ1 ρ2 : Env} (h : c ρ = .ok true ρ1) (h2 : b ρ1 = .ok .ct ρ2) : whl c b ρ = whl c b ρ2 := by rw [whl_eq, h]; simp only [h2]
theorem whl_F {c : M Bool} {b : M Fl} {ρ ρ1 : Env} (h : c ρ = .ok false ρ1) : whl c b ρ = .ok .nx ρ1 := by rw [whl_eq, h]
theorem range_get {lo : Int} {n j : Nat} {d : D} (h : (rangeD lo n)[j]? = some d) : j < n ∧ d = .int (lo + (j : Int)) := by
  unfold rangeD at h
  rw [List.getElem?_map] at h
  by_cases hj : j < n
  · rw [List.getElem?_eq_getElem (by simpa using hj)] at h
    simp at h
    exact ⟨hj, h.symm⟩
  · rw [List.getElem?_eq_none (by simpa using Nat.le_of_not_lt hj)] at h
    cases h
theorem range_len {lo : Int} {n : Nat} : (rangeD lo n).length = n := by simp [rangeD]
theorem pen_ok {ns : List Int} (hl : ns.length ≤ 63) : ∃ d, penS [.scr (ns.map D.int)] = .ret d [.scr (ns.map D.int)] ∧ Pen ns 0 d := by
  have e1 : gCut none (some 63) (.node false .scr (ns.map D.int)) = some (.lst true (ns.map D.int)) := by
    have h := HT.sIx_nat (ns.map D.int).length (ns.map D.int).length 63
    have h' : HT.sIx (ns.map D.int).length (ns.map D.int).length (some 63) = (ns.map D.int).length := by
      rw [show ((63 : Nat) : Int) = (63 : Int) from rfl] at h
      rw [h, List.length_map]
      omega
    show (if plainL (ns.map D.int) = true then some (D.lst true (cutD (ns.map D.int) none (some 63))) else none) = _
    rw [if_pos (plain_ints ns)]
    unfold cutD
    rw [h', HT.sIx_none, List.drop_zero, Nat.sub_zero, List.take_length]
  have pl := plain_ints ns
  refine ⟨_, ?_, true, 0, 0, rfl, by omega, by omega, by omega⟩
  simp [penS, mkF, reFrz, ite, rtn, bnd, bin, un, app, aCons, aNil, loc, con, ret, peek1, peeks, use1, useL, D.plain, argsBack, disp, cap, cut, e1, pl, opList]
theorem Pen.owned {ns : List Int} {a : Int} {d : D} (h : Pen ns a d) : ∃ xs, d = .node true .lst xs := by
  obtain ⟨b, p, q, e, _⟩ := h
  exact ⟨_, e⟩
end Pm
namespace Pm
open PySem PySem.Spec PyProof.Rows L2
structure DK where
  c1 : Int
  c2 : Int
  p1 : Int
  q1 : Int
  r1 : Int
  p2 : Int
  s : Int
  t : Int
  p3 : Int
def DK.ok (k : DK) : Prop := (0 < k.c1 ∧ k.c1 < 4294967296) ∧ (0 < k.c2 ∧ k.c2 < 4294967296) ∧ (0 < k.p1 ∧ k.p1 < 4294967296) ∧ (0 < k.q1 ∧ k.q1 < 1000000) ∧ (0 < k.r1 ∧ k.r1 < 4294967296) ∧ (0 < k.p2 ∧ k.p2 < 4294967296) ∧ (0 < k.s ∧ k.s < 1000000) ∧ (0 < k.t ∧ k.t < 1000000) ∧ 0 < k.p3
/-- what a draw is to a law: a number below the bound, the pen one place further -/
def Draws (S : FSem) : Prop := ∀ (ns : List Int) (d : D) (a m : Int), ns.length ≤ 63 → Pen ns a d → a ≤ 1000000 → 0 < m → divOk m = true → ∃ (r : Int) (d' : D), S [d, .int m] = .ret (.int r) [d', .int m] ∧ 0 ≤ r ∧ r < m ∧ Pen ns (a + 1) d'
def mxA (k : DK) (cell p : Int) : Int := (cell % k.p1 + k.q1 * p + k.r1) ^ 5 % k.p2
theorem mxA_lt {k : DK} (h : k.ok) (cell p : Int) : 0 ≤ mxA k cell p ∧ mxA k cell p < 4294967296 := by
  obtain ⟨_, _, _, _, _, h6, _⟩ := h
  exact ⟨Int.emod_nonneg _ (by omega), Int.lt_trans (Int.emod_lt_of_pos _ h6.1) h6.2⟩
theorem k_pow5 {k : DK} (h : k.ok) {cell p : Int} (hp0 : 0 ≤ p) (hp : p ≤ 1000000) : iPow (cell % k.p1 + k.q1 * p + k.r1) 5 = some (.int ((cell % k.p1 + k.q1 * p + k.r1) ^ 5)) := by
  obtain ⟨_, _, h3, h4, h5, _⟩ := h
  have h1 := Int.emod_nonneg cell (show k.p1 ≠ 0 by omega)
  have h2 := Int.emod_lt_of_pos cell h3.1
  have h6 : k.q1 * p ≤ 1000000 * 1000000 := Int.mul_le_mul (by omega) hp hp0 (by decide)
  have h7 : 0 ≤ k.q1 * p := Int.mul_nonneg (by omega) hp0
  exact powN (j := 5) (by omega) (by decide)
end Pm
namespace Pm
open PySem PySem.Spec PyProof.Rows L2
noncomputable def drawEB (k : DK) : M Fl := (seq (ite (tst (bin (on2I iGt) (idx (aCons (loc 0) (aCons (con (.int 2)) aNil))) (con (.int 0)))) (seq (asg (bin (on2I iMod) (idx (aCons (loc 0) (aCons (con (.int 2)) aNil))) (loc 1)) (gN 2))
    (seq (asg (bin (on2I iDiv) (idx (aCons (loc 0) (aCons (con (.int 2)) aNil))) (loc 1)) (gI 0 (con (.int 2))))
    (rtn (mov 2)))) sNx)
    (seq (asg (idx (aCons (loc 0) (aCons (con (.int 1)) aNil))) (gN 3))
    (seq (asg (bin (on2I iAdd) (loc 3) (con (.int 1))) (gI 0 (con (.int 1))))
    (seq (asg (bin (on2I iAdd) (bin (on2I iMul) (con (.int k.c1)) (loc 3)) (con (.int k.c2))) (gN 4))
    (seq (ite (tst (bin opNe (idx (aCons (loc 0) (aCons (con (.int 0)) aNil))) (disp true .lst aNil))) (asg (idx (aCons (idx (aCons (loc 0) (aCons (con (.int 0)) aNil))) (aCons (bin (on2I iMod) (loc 3) (app opLen (aCons (idx (aCons (loc 0) (aCons (con (.int 0)) aNil))) aNil))) aNil))) (gN 4)) sNx)
    (seq (ite (andT (tst (bin (on2I iLt) (loc 3) (app opLen (aCons (idx (aCons (loc 0) (aCons (con (.int 0)) aNil))) aNil)))) (tst (bin (on2I iGe) (app opAbs (aCons (loc 4) aNil)) (bin (on2I iPow) (con (.int 10)) (con (.int 18)))))) (seq (asg (bin (on2I iAdd) (bin (on2I iMul) (con (.int 2)) (bin (on2I iSub) (app opAbs (aCons (loc 4) aNil)) (bin (on2I iPow) (con (.int 10)) (con (.int 18))))) (app opInt1 (aCons (bin (on2I iLt) (loc 4) (con (.int 0))) aNil))) (gN 5))
    (seq (asg (bin (on2I iDiv) (loc 5) (loc 1)) (gI 0 (con (.int 2))))
    (rtn (bin (on2I iMod) (loc 5) (loc 1))))) sNx)
    (seq (asg (bin (on2I iMod) (bin (on2I iPow) (bin (on2I iAdd) (bin (on2I iAdd) (bin (on2I iMod) (loc 4) (con (.int k.p1))) (bin (on2I iMul) (con (.int k.q1)) (loc 3))) (con (.int k.r1))) (con (.int 5))) (con (.int k.p2))) (gN 6))
    (seq (asg (bin (on2I iMod) (bin (on2I iPow) (bin (on2I iAdd) (bin (on2I iAdd) (bin (on2I iMul) (loc 6) (bin (on2I iAdd) (bin (on2I iMul) (con (.int 2)) (loc 3)) (con (.int k.s)))) (bin (on2I iMul) (bin (on2I iMul) (con (.int k.t)) (loc 3)) (loc 3))) (con (.int 7))) (con (.int 3))) (con (.int k.p3))) (gN 6))
    (rtn (bin (on2I iMod) (bin (on2I iDiv) (loc 6) (con (.int 32))) (loc 1)))))))))))
noncomputable def drawE (k : DK) : FSem := mkF 2 7 [] (drawEB k)
def mvE (k : DK) (cell p : Int) : Int := (mxA k cell p * (2 * p + k.s) + k.t * p * p + 7) ^ 3 % k.p3
theorem pw3E {k : DK} (h : k.ok) {cell p : Int} (hp0 : 0 ≤ p) (hp : p ≤ 1000000) : iPow (mxA k cell p * (2 * p + k.s) + k.t * p * p + 7) 3 = some (.int ((mxA k cell p * (2 * p + k.s) + k.t * p * p + 7) ^ 3)) := by
  obtain ⟨h1, h2⟩ := mxA_lt h cell p
  obtain ⟨_, _, _, _, _, _, h7, h8, _⟩ := h
  have h3 : mxA k cell p * (2 * p + k.s) ≤ 4294967296 * 3000000 := Int.mul_le_mul (by omega) (by omega) (by omega) (by decide)
  have h4 : 0 ≤ mxA k cell p * (2 * p + k.s) := Int.mul_nonneg h1 (by omega)
  have h5 : k.t * p ≤ 1000000 * 1000000 := Int.mul_le_mul (by omega) hp hp0 (by decide)
  have h6 : 0 ≤ k.t * p := Int.mul_nonneg (by omega) hp0
  have h9 : k.t * p * p ≤ 1000000 * 1000000 * 1000000 := Int.mul_le_mul h5 hp hp0 (by decide)
  have h10 : 0 ≤ k.t * p * p := Int.mul_nonneg h6 hp0
  exact powN (j := 3) (by omega) (by decide)
theorem drawE_left {k : DK} {c : D} {p left m : Int} (h0 : 0 < left) (hm : 0 < m) (hd : divOk m = true) : drawE k [.node true .lst [c, .int p, .int left], .int m] = .ret (.int (left % m)) [.node true .lst [c, .int p, .int (left / m)], .int m] := by
  simp [drawE, drawEB, mkF, reFrz, seq, Pm.ite, rtn, mov, asg, drp, sNx, bnd, Pm.bin, Pm.un, app, aCons, aNil, idx, loc, con, Pm.ret, peek1, peeks, itemOf, on2I, iAdd, iSub, iGt, iGe, iLt, iLe, iDiv, iMod, use1, useL, gI, gN, tst, andT, orT, notT, andE, orE, notE, ifE, ixN, D.frz, D.plain, plainL, argsBack, opLen, opAbs, opInt1, opNeg, disp, cap, callF, takes, puts, selA, sel, aApp, par, gT, gsC, gs0, appF, opDivmod, frzL, plainL, hm, hd, h0]
theorem drawE_small {k : DK} (hk : k.ok) {ns : List Int} {c : Int} {b : Bool} {p left m : Int} (h0 : ¬ 0 < left) (hm : 0 < m) (hd : divOk m = true) (hp : 0 ≤ p) (hp2 : p ≤ 1000000) (hl : ns.length ≤ 63) (hc : (ns = [] ∧ c = k.c1 * p + k.c2) ∨ (ns ≠ [] ∧ atI (ns.map D.int) (p % (ns.length : Int)) = some (.int c)))
    (hs : ¬ (p < (ns.length : Int) ∧ 1000000000000000000 ≤ (if c < 0 then -c else c))) :
    drawE k [.node true .lst [.node b .lst (ns.map D.int), .int p, .int left], .int m] = .ret (.int (mvE k c p / 32 % m)) [.node true .lst [.node false .lst (ns.map D.int), .int (p + 1), .int left], .int m] := by
  have e1 := k_pow5 hk (cell := c) hp hp2
  have e2 := pw3E hk (cell := c) hp hp2
  obtain ⟨x1, x2⟩ := mxA_lt hk c p
  obtain ⟨h1, h2, h3, h4, h5, h6, h7, h8, h9⟩ := hk
  have e3 : iMul k.c1 p = some (.int (k.c1 * p)) := mulL (by omega)
  have e4 : iMul k.q1 p = some (.int (k.q1 * p)) := mulL (by omega)
  have e5 : iMul 2 p = some (.int (2 * p)) := mulL (by decide)
  have e9 : iMul k.t p = some (.int (k.t * p)) := mulL (by omega)
  have e10 : iMul (k.t * p) p = some (.int (k.t * p * p)) := mulR (by omega)
  have e6 : iMul (mxA k c p) (2 * p + k.s) = some (.int (mxA k c p * (2 * p + k.s))) := mulR (by omega)
  have e8 : divOk 32 = true := by decide
  have y1 := h3.1
  have y2 := h6.1
  have pl := plain_ints ns
  have fz := frz_ints ns
  simp only [mxA] at e2 e6
  rcases hc with ⟨rfl, rfl⟩ | ⟨hn, hc⟩
  · have z1 : ¬ p < 0 := by omega
    have e7 : opNe [.node false .lst [], .node true .lst []] = some (.bl false) := rfl
    cases b <;> simp [drawE, drawEB, mkF, reFrz, seq, Pm.ite, rtn, mov, asg, drp, sNx, bnd, Pm.bin, Pm.un, app, aCons, aNil, idx, loc, con, Pm.ret, peek1, peeks, itemOf, on2I, iAdd, iSub, iGt, iGe, iLt, iLe, iDiv, iMod, use1, useL, gI, gN, tst, andT, orT, notT, andE, orE, notE, ifE, ixN, D.frz, D.plain, plainL, argsBack, opLen, opAbs, opInt1, opNeg, disp, cap, callF, takes, puts, selA, sel, aApp, par, gT, gsC, gs0, appF, opDivmod, frzL, plainL, hm, hd, h0, e1, e2, e3, e4, e5, e6, e7, e8, e9, e10, y1, y2, h9, z1, frzL, mvE, mxA, pow10_18]
  · have e7 : opNe [.node false .lst (ns.map D.int), .node true .lst []] = some (.bl true) := by rw [neNil, decide_eq_true hn]
    have z1 : 0 < ns.length := List.length_pos_iff.mpr hn
    have z2 : ns.length ≤ 1000000 := by omega
    by_cases q : p < (ns.length : Int)
    · have q2 : ¬ 1000000000000000000 ≤ (if c < 0 then -c else c) := fun z => hs ⟨q, z⟩
      cases b <;> simp [drawE, drawEB, mkF, reFrz, seq, Pm.ite, rtn, mov, asg, drp, sNx, bnd, Pm.bin, Pm.un, app, aCons, aNil, idx, loc, con, Pm.ret, peek1, peeks, itemOf, on2I, iAdd, iSub, iGt, iGe, iLt, iLe, iDiv, iMod, use1, useL, gI, gN, tst, andT, orT, notT, andE, orE, notE, ifE, ixN, D.frz, D.plain, plainL, argsBack, opLen, opAbs, opInt1, opNeg, disp, cap, callF, takes, puts, selA, sel, aApp, par, gT, gsC, gs0, appF, opDivmod, frzL, plainL, hm, hd, h0, e1, e2, e3, e4, e5, e6, e7, e8, e9, e10, y1, y2, h9, z1, z2, pl, fz, hc, q, q2, mvE, mxA, pow10_18]
    · cases b <;> simp [drawE, drawEB, mkF, reFrz, seq, Pm.ite, rtn, mov, asg, drp, sNx, bnd, Pm.bin, Pm.un, app, aCons, aNil, idx, loc, con, Pm.ret, peek1, peeks, itemOf, on2I, iAdd, iSub, iGt, iGe, iLt, iLe, iDiv, iMod, use1, useL, gI, gN, tst, andT, orT, notT, andE, orE, notE, ifE, ixN, D.frz, D.plain, plainL, argsBack, opLen, opAbs, opInt1, opNeg, disp, cap, callF, takes, puts, selA, sel, aApp, par, gT, gsC, gs0, appF, opDivmod, frzL, plainL, hm, hd, h0, e1, e2, e3, e4, e5, e6, e7, e8, e9, e10, y1, y2, h9, z1, z2, pl, fz, hc, q, mvE, mxA, pow10_18]
theorem drawE_great {k : DK} (hk : k.ok) {ns : List Int} {c : Int} {b : Bool} {p left m : Int} (h0 : ¬ 0 < left) (hm : 0 < m) (hd : divOk m = true) (hn : ns ≠ []) (hl : ns.length ≤ 63) (hp0 : 0 ≤ p) (hp2 : p ≤ 1000000) (hc : atI (ns.map D.int) (p % (ns.length : Int)) = some (.int c))
    (q : p < (ns.length : Int)) (q2 : 1000000000000000000 ≤ (if c < 0 then -c else c)) :
    ∃ g : Int, 0 ≤ g ∧ drawE k [.node true .lst [.node b .lst (ns.map D.int), .int p, .int left], .int m] = .ret (.int (g % m)) [.node true .lst [.node false .lst (ns.map D.int), .int (p + 1), .int (g / m)], .int m] := by
  obtain ⟨h1, h2, h3, h4, h5, h6, h7, h8, h9⟩ := hk
  have e3 : iMul k.c1 p = some (.int (k.c1 * p)) := mulL (by omega)
  have e7 : opNe [.node false .lst (ns.map D.int), .node true .lst []] = some (.bl true) := by rw [neNil, decide_eq_true hn]
  have z1 : 0 < ns.length := List.length_pos_iff.mpr hn
  have z2 : ns.length ≤ 1000000 := by omega
  have pl := plain_ints ns
  have fz := frz_ints ns
  refine ⟨2 * ((if c < 0 then -c else c) - 1000000000000000000) + (if c < 0 then 1 else 0), by split at q2 <;> split <;> omega, ?_⟩
  have e4 : iMul 2 ((if c < 0 then -c else c) - 1000000000000000000) = some (.int (2 * ((if c < 0 then -c else c) - 1000000000000000000))) := mulL (by decide)
  by_cases hc0 : c < 0
  · rw [if_pos hc0] at q2 e4
    cases b <;> simp [drawE, drawEB, mkF, reFrz, seq, Pm.ite, rtn, mov, asg, drp, sNx, bnd, Pm.bin, Pm.un, app, aCons, aNil, idx, loc, con, Pm.ret, peek1, peeks, itemOf, on2I, iAdd, iSub, iGt, iGe, iLt, iLe, iDiv, iMod, use1, useL, gI, gN, tst, andT, orT, notT, andE, orE, notE, ifE, ixN, D.frz, D.plain, plainL, argsBack, opLen, opAbs, opInt1, opNeg, disp, cap, callF, takes, puts, selA, sel, aApp, par, gT, gsC, gs0, appF, opDivmod, frzL, plainL, hm, hd, h0, e3, e4, e7, z1, z2, pl, fz, hc, q, q2, hc0, pow10_18]
  · rw [if_neg hc0] at q2 e4
    cases b <;> simp [drawE, drawEB, mkF, reFrz, seq, Pm.ite, rtn, mov, asg, drp, sNx, bnd, Pm.bin, Pm.un, app, aCons, aNil, idx, loc, con, Pm.ret, peek1, peeks, itemOf, on2I, iAdd, iSub, iGt, iGe, iLt, iLe, iDiv, iMod, use1, useL, gI, gN, tst, andT, orT, notT, andE, orE, notE, ifE, ixN, D.frz, D.plain, plainL, argsBack, opLen, opAbs, opInt1, opNeg, disp, cap, callF, takes, puts, selA, sel, aApp, par, gT, gsC, gs0, appF, opDivmod, frzL, plainL, hm, hd, h0, e3, e4, e7, z1, z2, pl, fz, hc, q, q2, hc0, pow10_18]
theorem drawsE (k : DK) (hk : k.ok) : Draws (drawE k) := by
  intro ns d a m hl h ha hm hd
  obtain ⟨b, p, left, rfl, hp, hpa, hl0⟩ := h
  have rng : ∀ x : Int, 0 ≤ x % m ∧ x % m < m := fun x => ⟨Int.emod_nonneg x (by omega), Int.emod_lt_of_pos x hm⟩
  by_cases h0 : 0 < left
  · exact ⟨_, _, drawE_left h0 hm hd, (rng _).1, (rng _).2, b, _, _, rfl, by omega, by omega, Int.ediv_nonneg hl0 (by omega)⟩
  · by_cases hn : ns = []
    · subst hn
      refine ⟨_, _, drawE_small hk (c := k.c1 * p + k.c2) h0 hm hd hp (by omega) hl (.inl ⟨rfl, rfl⟩) (fun z => ?_), (rng _).1, (rng _).2, false, _, _, rfl, by omega, by omega, hl0⟩
      have z1 := z.1
      rw [List.length_nil] at z1
      omega
    · obtain ⟨c, hc⟩ := at_ints hp hn
      by_cases hs : p < (ns.length : Int) ∧ 1000000000000000000 ≤ (if c < 0 then -c else c)
      · obtain ⟨g, hg, e⟩ := drawE_great hk (b := b) h0 hm hd hn hl hp (by omega) hc hs.1 hs.2
        exact ⟨_, _, e, (rng _).1, (rng _).2, false, _, _, rfl, by omega, by omega, Int.ediv_nonneg hg (by omega)⟩
      · exact ⟨_, _, drawE_small hk h0 hm hd hp (by omega) hl (.inr ⟨hn, hc⟩) hs, (rng _).1, (rng _).2, false, _, _, rfl, by omega, by omega, hl0⟩
end Pm
set_option maxHeartbeats 2000000
namespace Pm
open PySem PySem.Spec PyProof.Rows L2
abbrev TM := L2.St → Hp → Addr → (Hp → Prop) → Prop
end Pm
namespace Pm
open PySem PySem.Spec PyProof.Rows L2
section
variable {K : PySem.W.Frag} {mg : Str → Option Value} {W : WX} {Z H : Hp} {S : Fp} {σ : Sl} {X : Cx} {A : Nat → Bool}
/-- what stands within a clause: the slots and what was made so far -/
abbrev In := Env → List D → Res (List D)
variable {elt tg0 i0 tg1 i1 tg2 i2 : Expr} {ifs0 ifs1 ifs2 : List Expr} {scope : Scope} {own : List (Str × Nat)} {vs1 vs2 : List Nat} {pos : Pos} {s0 s1 s2 : M (List D)} {g0 g1 g2 : Tg} {c0 c1 c2 : M Bool} {e : M EV}
end
end Pm
namespace Pm
open PySem PySem.Spec PyProof.Rows L2
section
variable {K : PySem.W.Frag} {mg : Str → Option Value} {W : WX} {Z H : Hp} {S : Fp} {σ : Sl} {X : Cx}
def strRep (x : Str) (n : Int) : Str := if n < 1 then Str.empty else if (n == 1 || x.length == 0) = true then x else ⟨(List.replicate n.toNat x.cps).foldl (· ++ ·) #[]⟩
theorem op_repS : OpR X (binaryOp .Mult) (fun x y H Q => ∃ a k, x = .str a ∧ y = .int k ∧ k ≤ 1000000 ∧ -1000000 ≤ k ∧ a.length * k.toNat ≤ sizeLine ∧ Q (.str (strRep a k)) H) := by
  intro pins s σ H x y v u Q I rx ry h
  obtain ⟨a, k, rfl, rfl, h1, h2, hz, q⟩ := h
  obtain ⟨t, rfl⟩ := rx
  obtain ⟨t', rfl⟩ := ry
  refine PySem.P.mul_str (by
    rw [decide_eq_false (show ¬ k < -(2 ^ 63 : Int) by omega), decide_eq_false (show ¬ k ≥ 2 ^ 63 by omega)]; rfl) (fun h3 _ => ?_) (fun h3 _ => ?_) ?_
  · have e : (a.length : Int) ≤ (2 ^ 63 - 1) / k := by
      rw [Int.le_ediv_iff_mul_le (by omega)]
      have e2 : ((a.length * k.toNat : Nat) : Int) = (a.length : Int) * k := by rw [Int.natCast_mul, Int.toNat_of_nonneg (by omega)]
      have e3 : a.length * k.toNat ≤ 2 ^ 63 - 1 := Nat.le_trans hz (by rw [sizeLine_eq]; decide)
      omega
    omega
  · exact decide_eq_false (Nat.not_lt.mpr hz)
  · unfold strRep at q
    split
    · rename_i c
      rw [if_pos c] at q
      exact ⟨by decide, ⟨.str _, H, I.tok _, ⟨_, rfl⟩, q⟩⟩
    · rename_i c
      rw [if_neg c] at q
      split
      · rename_i c2
        rw [if_pos c2] at q
        exact ⟨.str _, H, I, ⟨_, rfl⟩, q⟩
      · rename_i c2
        rw [if_neg c2] at q
        exact ⟨fits_reps (decide_eq_false (Nat.not_lt.mpr hz)), ⟨.str _, H, I.tok _, ⟨_, rfl⟩, q⟩⟩
def gAddS : List D → Option D
  | [.str a, .str b] => if a.length + b.length ≤ cap then some (.str (a ++ b)) else none
  | _ => none
def gMulS : List D → Option D
  | [.str a, .int k] => if k ≤ 1000000 ∧ -1000000 ≤ k ∧ a.length * k.toNat ≤ cap then some (.str (strRep a k)) else none
  | _ => none
theorem opd_addS : Opd X (binaryOp .Add) gAddS := by
  refine ⟨_, op_add_str, snd_pure fun Z H S ds vs d Q w rb e k => ?_⟩
  unfold gAddS at e
  split at e
  · split at e
    · rename_i a b c
      obtain ⟨v, u, rfl, rv, ru⟩ := rb2 rb
      obtain rfl : v = .str a := rv
      obtain rfl : u = .str b := ru
      cases e
      exact ⟨_, _, rfl, a, b, rfl, rfl, cap_le c, k _ rfl⟩
    · cases e
  · cases e
theorem opd_mulS : Opd X (binaryOp .Mult) gMulS := by
  refine ⟨_, op_repS, snd_pure fun Z H S ds vs d Q w rb e k => ?_⟩
  unfold gMulS at e
  split at e
  · split at e
    · rename_i a b c
      obtain ⟨v, u, rfl, rv, ru⟩ := rb2 rb
      obtain rfl : v = .str a := rv
      obtain rfl : u = .int b := ru
      cases e
      exact ⟨_, _, rfl, a, b, rfl, rfl, c.1, c.2.1, cap_le c.2.2, k _ rfl⟩
    · cases e
  · cases e
def gAdd : List D → Option D
  | [.str a, .str b] => gAddS [.str a, .str b]
  | ds => on2I iAdd ds
def gMul : List D → Option D
  | [.str a, .int k] => gMulS [.str a, .int k]
  | ds => on2I iMul ds
theorem opd_gAdd : Opd X (binaryOp .Add) gAdd := Opd.or opd_addS opd_addI fun ds d h => by
  unfold gAdd at h
  split at h
  · exact .inl h
  · exact .inr h
theorem opd_gMul : Opd X (binaryOp .Mult) gMul := Opd.or opd_mulS opd_mulI fun ds d h => by
  unfold gMul at h
  split at h
  · exact .inl h
  · exact .inr h
def opInt : List D → Option D
  | [.str a] => if a.length ≤ 640 then (PySem.intText? a).map D.int else none
  | ds => opInt1 ds
theorem snd_int : Snd X (fun xs H Q => ((∃ i, xs = [.int i] ∧ Q (.int i) H) ∨ ∃ k, xs = [.bl k] ∧ Q (.int (if k then 1 else 0)) H) ∨ ∃ a n, xs = [.str a] ∧ PySem.intText? a = some n ∧ a.length ≤ 640 ∧ Q (.int n) H) opInt := by
  intro Z H S ds vs d Q w rb e k
  unfold opInt at e
  split at e
  · rename_i a
    split at e
    · rename_i c
      cases hn : PySem.intText? a with
      | none => rw [hn] at e; cases e
      | some n =>
        rw [hn] at e
        simp only [Option.map_some, Option.some.injEq] at e
        subst e
        obtain ⟨v, rfl, rv⟩ := rb1 rb
        obtain rfl : v = .str a := rv
        refine .inr ⟨a, n, rfl, hn, c, k _ Z H Fp0 ?_ (Same.refl H) (fun _ _ x => x) rfl⟩
        exact w.nil
    · cases e
  · exact .inl (snd_int1 Z H S ds vs d Q w rb e k)
theorem call_intA : CallR X (.type "int") (fun xs H Q => ((∃ i, xs = [.int i] ∧ Q (.int i) H) ∨ ∃ k, xs = [.bl k] ∧ Q (.int (if k then 1 else 0)) H) ∨ ∃ a n, xs = [.str a] ∧ PySem.intText? a = some n ∧ a.length ≤ 640 ∧ Q (.int n) H) := CallR.or call_int1 call_int_str
end
end Pm
namespace Pm
open PySem PySem.Spec PyProof.Rows L2
section
variable {K : PySem.W.Frag} {mg : Str → Option Value} {W : WX} {Z Z' H H' : Hp} {S S' : Fp} {σ : Sl} {X : Cx} {a b c e : Expr} {pos : Pos} {fa fb fc : M EV}
def chI (p q : Int → Int → Bool) (fa fb fc : M EV) : M EV := bnd fa fun ea => bnd fb fun eb => fun ρ => match peek1 ρ ea, peek1 ρ eb with
  | some (.int i), some (.int j) => if p i j = true then (bnd fc fun ec => fun ρ' => match peek1 ρ' ec with
      | some (.int l) => .ok (.val (.bl (q j l))) ρ'
      | _ => .stuck) ρ else .ok (.val (.bl false)) ρ
  | _, _ => .stuck
theorem int_of {ev : EV} {v : V} {i : Int} {ρ : Env} (h : peek1 ρ ev = some (.int i)) (r : EVR K Z H σ ev v S) (er : EnvR K Z' H' ρ σ S') : v = .int i := by
  cases ev with
  | val d =>
    have e : d = .int i := Option.some.inj h
    subst e
    exact r
  | ref j => exact peek1_rep (Z := Z') (H := H') (Sa := Fp0) (e := .ref j) er r h
theorem tE_chI {p q : Int → Int → Bool} {Q : VK} (h : tE K mg W (chI p q fa fb fc) σ H Q) : tChain (rI0 fun i j => .bl (p i j)) (rI0 fun i j => .bl (q i j)) (tE K mg W fa) (tE K mg W fb) (tE K mg W fc) σ H Q := by
  obtain ⟨Z, ρ, S, w, er, o⟩ := h
  refine ⟨Z, ρ, S, w, er, ?_⟩
  simp only [chI, bnd] at o
  cases e1 : fa ρ with
  | stuck => rw [e1] at o; exact o
  | exc x ρ1 => rw [e1] at o; exact o
  | ok ea ρ1 =>
    rw [e1] at o
    intro x Z1 H1 S1 Sa st1 dj1 er1 r1
    have t1 := st1.less (S2 := S1) fun a x => .inl x
    refine ⟨Z1, ρ1, S1, t1.wd, er1, ?_⟩
    have o1 := OutE.after (K := K) (mg := mg) (W := W) (σ := σ) (Q := Q) t1 o
    cases e2 : fb ρ1 with
    | stuck => simp only [e2] at o1; exact o1
    | exc x ρ2 => simp only [e2] at o1; exact o1
    | ok eb ρ2 =>
      simp only [e2] at o1
      intro y Z2 H2 S2 Sb st2 dj2 er2 r2
      have t2 := st2.less (S2 := S2) fun a x => .inl x
      have o2 := OutE.after (K := K) (mg := mg) (W := W) (σ := σ) (Q := Q) t2 o1
      split at o2
      · rename_i i j h1 h2
        have ex := int_of h1 r1 er2
        have ey := int_of h2 r2 er2
        refine ⟨i, j, ex, ey, p i j, rfl, ?_⟩
        cases hp : p i j with
        | false =>
          rw [hp] at o2
          exact o2 (.bl false) Z2 H2 S2 Fp0 t2.wd.nil (fun _ _ x => x) er2 rfl
        | true =>
          rw [hp] at o2
          simp only [if_true] at o2 ⊢
          refine ⟨Z2, ρ2, S2, t2.wd, er2, ?_⟩
          cases e3 : fc ρ2 with
          | stuck => simp only [e3] at o2; exact o2
          | exc x ρ3 => simp only [e3] at o2; exact o2
          | ok ec ρ3 =>
            simp only [e3] at o2
            intro z Z3 H3 S3 Sc st3 dj3 er3 r3
            have t3 := st3.less (S2 := S3) fun a x => .inl x
            have o3 := OutE.after (K := K) (mg := mg) (W := W) (σ := σ) (Q := Q) t3 o2
            split at o3
            · rename_i l h3
              exact ⟨j, l, ey, int_of h3 r3 er3, o3 (.bl (q j l)) Z3 H3 S3 Fp0 t3.wd.nil (fun _ _ x => x) er3 rfl⟩
            · exact o3.elim
      · exact o2.elim
theorem E_ch {op op' : CmpOp} {p q : Int → Int → Bool} (h1 : OpR X (compareOp op) (rI0 fun i j => .bl (p i j))) (h2 : OpR X (compareOp op') (rI0 fun i j => .bl (q i j))) (ha : PE X a (tE X.K X.mg W fa)) (hb : PE X b (tE X.K X.mg W fb)) (hc : PE X c (tE X.K X.mg W fc))
    (hm : lastMarks [op, op'] [b, c] = false := by with_unfolding_all rfl) : PE X (.Compare a [op, op'] [b, c] pos) (tE X.K X.mg W (chI p q fa fb fc)) := PE.of (pe_chain h1 h2 ha hb hc hm) fun _ _ _ q => tE_chI q
theorem tT_tstOf {f : M EV} {t : TE} {Q : Bool → Hp → Prop} (i : ∀ σ H Q, tE K mg W f σ H Q → t σ H Q) (h : tT K mg W (tst f) σ H Q) : tTest t σ H Q := i _ _ _ (tT_tst h)
theorem T_ch {op op' : CmpOp} {p q : Int → Int → Bool} (h1 : OpR X (compareOp op) (rI0 fun i j => .bl (p i j))) (h2 : OpR X (compareOp op') (rI0 fun i j => .bl (q i j))) (ha : PE X a (tE X.K X.mg W fa)) (hb : PE X b (tE X.K X.mg W fb)) (hc : PE X c (tE X.K X.mg W fc))
    (hm : lastMarks [op, op'] [b, c] = false := by with_unfolding_all rfl) : PT X (.Compare a [op, op'] [b, c] pos) (tT X.K X.mg W (tst (chI p q fa fb fc))) := PT.of (pt_chain h1 h2 ha hb hc hm) fun _ _ _ q => tT_tstOf (fun _ _ _ => tE_chI) q
def cLt (i j : Int) : Bool := decide (i < j)
def cLe (i j : Int) : Bool := decide (i ≤ j)
theorem oc_lt : OpR X (compareOp .Lt) (rI0 fun i j => .bl (cLt i j)) := op_lt
theorem oc_le : OpR X (compareOp .LtE) (rI0 fun i j => .bl (cLe i j)) := op_le
def subS (i j : Str) : Bool := !(Builtin.Str.occurrences j i 0 j.length 1).isEmpty
def opInS : List D → Option D
  | [.str i, .str j] => some (.bl (subS i j))
  | _ => none
def opNotInS : List D → Option D
  | [.str i, .str j] => some (.bl (!(subS i j)))
  | _ => none
theorem opd_notInS : Opd X (compareOp .NotIn) opNotInS := by
  refine ⟨_, op_notin_str, snd_pure fun Z H S ds vs d Q w rb e k => ?_⟩
  unfold opNotInS at e
  split at e
  · rename_i x y
    obtain ⟨v, u, rfl, rv, ru⟩ := rb2 rb
    obtain rfl : v = .str x := rv
    obtain rfl : u = .str y := ru
    cases e
    exact ⟨_, _, rfl, x, y, rfl, rfl, k _ rfl⟩
  · cases e
end
end Pm
namespace Pm
open PySem PySem.Spec PyProof.Rows L2
section
variable {K : PySem.W.Frag} {mg : Str → Option Value} {W : WX} {Z Z' H H' : Hp} {S S' : Fp} {σ : Sl} {X : Cx} {a b c e : Expr} {pos : Pos} {fa fb fc : M EV}
theorem RepL.joinP : ∀ {ds es : List D} {vs ws : List V}, RepL K Z H ds vs Fp0 → RepL K Z H es ws Fp0 → RepL K Z H (ds ++ es) (vs ++ ws) Fp0 := fun {ds es vs ws} h1 h2 => RepL.append h1 h2 (fun _ x => x) (fun _ x => x) fun _ x _ => x
def opCatL : List D → Option D
  | [.node _ .lst xs, .node _ .lst ys] => if plainL xs = true ∧ plainL ys = true ∧ xs.length + ys.length ≤ cap then some (.lst true (xs ++ ys)) else none
  | _ => none
theorem opd_catL : Opd X (binaryOp .Add) opCatL := by
  refine ⟨_, op_cat, fun Z H S ds vs d Q w rb e k => ?_⟩
  unfold opCatL at e
  split at e
  · split at e
    · rename_i hp
      obtain ⟨v, u, rfl, rv, ru⟩ := rb2 rb
      obtain ⟨a, ys, rfl, c, rl⟩ := rep_lst w.same rv
      obtain ⟨a', ys', rfl, c', rl'⟩ := rep_lst w.same ru
      cases e
      refine ⟨_, _, rfl, a, a', ys, ys', rfl, rfl, c, c', by rw [← rl.length, ← rl'.length]; exact cap_le hp.2.2, fun p np => ?_⟩
      obtain ⟨f1, f2, f3, f4⟩ := fresh_lst w np ((rl.plain hp.1).joinP (rl'.plain hp.2.1))
      exact k _ _ _ _ f1 f2 f3 f4
    · cases e
  · cases e
def opCatT : List D → Option D
  | [.node _ .tup xs, .node _ .tup ys] => if plainL xs = true ∧ plainL ys = true ∧ xs.length + ys.length ≤ cap then some (.tup (xs ++ ys)) else none
  | _ => none
theorem opd_catT : Opd X (binaryOp .Add) opCatT := by
  refine ⟨_, op_catA, fun Z H S ds vs d Q w rb e k => ?_⟩
  unfold opCatT at e
  split at e
  · split at e
    · rename_i o1 xs o2 zs hp
      obtain ⟨v, u, rfl, rv, ru⟩ := rb2 rb
      have rv0 : Rep X.K Z H (.tup xs) v Fp0 := Rep.plain (rep_wk rv) (by simp [D.plain, hp.1])
      have ru0 : Rep X.K Z H (.tup zs) u Fp0 := Rep.plain (rep_wk ru) (by simp [D.plain, hp.2.1])
      obtain ⟨a, ys, rfl, c, rl⟩ := rep_tup w.same rv0
      obtain ⟨a', ys', rfl, c', rl'⟩ := rep_tup w.same ru0
      cases e
      have l1 := rl.length
      have l2 := rl'.length
      refine ⟨_, _, rfl, a, a', ys, ys', rfl, rfl, c, c', by rw [← l1, ← l2]; exact cap_le hp.2.2, fun h => ?_, fun _ h => ?_, fun _ _ p np => ?_⟩
      · have ex : xs = [] := List.length_eq_zero_iff.mp (by rw [l1, h]; rfl)
        rw [ex, List.nil_append] at k
        exact k _ _ _ Fp0 w.nil (Same.refl H) (fun _ _ x => x) ru0
      · have ex : zs = [] := List.length_eq_zero_iff.mp (by rw [l2, h]; rfl)
        rw [ex, List.append_nil] at k
        exact k _ _ _ Fp0 w.nil (Same.refl H) (fun _ _ x => x) rv0
      · obtain ⟨f1, f2, f3⟩ := fresh_tup w np ((rl.plain hp.1).joinP (rl'.plain hp.2.1))
        exact k _ _ _ _ f1 f2 (fun _ _ x => x) f3
    · cases e
  · cases e
/-- everything that is added -/
def hAdd : List D → Option D
  | [.str a, .str b] => gAddS [.str a, .str b]
  | [.node p .lst xs, .node q .lst ys] => opCatL [.node p .lst xs, .node q .lst ys]
  | [.node p .tup xs, .node q .tup ys] => opCatT [.node p .tup xs, .node q .tup ys]
  | ds => on2I iAdd ds
theorem opd_hAdd : Opd X (binaryOp .Add) hAdd := by
  refine Opd.or (g1 := gAdd) (g2 := fun ds => match opCatL ds with | some d => some d | none => opCatT ds) opd_gAdd (Opd.or opd_catL opd_catT fun ds d h => ?_) fun ds d h => ?_
  · cases e : opCatL ds with
    | some d' => simp only [e] at h; exact .inl h
    | none => simp only [e] at h; exact .inr h
  · unfold hAdd at h
    split at h
    · exact .inl h
    · exact .inr (by simp only [h])
    · exact .inr (by
        rename_i p xs q ys
        have e : opCatL [D.node p .tup xs, .node q .tup ys] = none := rfl
        simp only [e]
        exact h)
    · refine .inl ?_
      unfold gAdd
      split
      · rename_i n1 _ _
        exact absurd rfl (n1 _ _)
      · exact h
def flt : D → Option V
  | .non => some .non
  | .bl b => some (.bl b)
  | .int i => some (.int i)
  | .str x => some (.str x)
  | _ => none
def fltL : List D → Option (List V)
  | [] => some []
  | d :: ds => match flt d, fltL ds with
    | some v, some vs => some (v :: vs)
    | _, _ => none
theorem flt_ok {d : D} {v v' : V} (h : flt d = some v) (r : Rep K Z H d v' S) : v' = v ∧ flatV v = true := by
  cases d with
  | non => cases h; exact ⟨r, rfl⟩
  | bl b => cases h; exact ⟨r, rfl⟩
  | int i => cases h; exact ⟨r, rfl⟩
  | str x => cases h; exact ⟨r, rfl⟩
  | op u => cases h
  | node o k xs => cases h
theorem fltL_ok : ∀ {ds : List D} {vs vs' : List V} {S : Fp}, fltL ds = some vs → RepL K Z H ds vs' S → vs' = vs ∧ vs.all flatV = true
  | [], vs, [], _, h, _ => by cases h; exact ⟨rfl, rfl⟩
  | [], _, _ :: _, _, _, r => r.elim
  | _ :: _, _, [], _, _, r => r.elim
  | d :: ds, vs, v' :: vs', _, h, ⟨_, _, _, _, _, r, q⟩ => by
    unfold fltL at h
    split at h
    · rename_i v us h1 h2
      cases h
      obtain ⟨e1, f1⟩ := flt_ok h1 r
      obtain ⟨e2, f2⟩ := fltL_ok h2 q
      exact ⟨by rw [e1, e2], by rw [List.all_cons, f1, f2]; rfl⟩
    · cases h
def opInQ (neg : Bool) : List D → Option D
  | [x, .node _ .lst xs] => match flt x, fltL xs with
    | some v, some vs => some (.bl (if neg then !inV v vs else inV v vs))
    | _, _ => none
  | [x, .node _ .tup xs] => match flt x, fltL xs with
    | some v, some vs => some (.bl (if neg then !inV v vs else inV v vs))
    | _, _ => none
  | _ => none
theorem snd_inQ {neg : Bool} : Snd X (fun vs H Q => ∃ x y, vs = [x, y] ∧ rIn X.K neg x y H Q) (opInQ neg) := by
  refine snd_pure fun Z H S ds vs d Q w rb e k => ?_
  unfold opInQ at e
  split at e
  · split at e
    · rename_i v us h1 h2
      obtain ⟨v', u', rfl, rv, ru⟩ := rb2 rb
      obtain ⟨a, ys, rfl, c, rl⟩ := rep_lst w.same ru
      obtain ⟨e1, f1⟩ := flt_ok h1 rv
      obtain ⟨e2, f2⟩ := fltL_ok h2 rl
      subst e1
      subst e2
      cases e
      exact ⟨_, _, rfl, a, _, rfl, .inl (SqL.of c), f1, f2, k _ rfl⟩
    · cases e
  · split at e
    · rename_i v us h1 h2
      obtain ⟨v', u', rfl, rv, ru⟩ := rb2 rb
      obtain ⟨a, ys, rfl, c, rl⟩ := rep_tup w.same ru
      obtain ⟨e1, f1⟩ := flt_ok h1 rv
      obtain ⟨e2, f2⟩ := fltL_ok h2 rl
      subst e1
      subst e2
      cases e
      exact ⟨_, _, rfl, a, _, rfl, .inr c, f1, f2, k _ rfl⟩
    · cases e
  · cases e
def opIn : List D → Option D
  | [.str i, .str j] => opInS [.str i, .str j]
  | ds => opInQ false ds
def opNotIn : List D → Option D
  | [.str i, .str j] => opNotInS [.str i, .str j]
  | ds => opInQ true ds
theorem opd_notIn : Opd X (compareOp .NotIn) opNotIn := Opd.or opd_notInS ⟨_, op_notIn_seq, snd_inQ⟩ fun ds d h => by
  unfold opNotIn at h
  split at h
  · exact .inl h
  · exact .inr h
end
end Pm
namespace Pm
open PySem PySem.Spec PyProof.Rows L2
section
variable {K : PySem.W.Frag} {mg : Str → Option Value} {W : WX} {Z Z' H H' : Hp} {S S' : Fp} {σ : Sl} {X : Cx} {a b c e o : Expr} {pos : Pos} {fa fb fc : M EV}
def smet1 (g : List D → Option D) (f fe : M EV) : M EV := bnd f fun e1 => fun ρ => match peek1 ρ e1 with
  | some (.str a) => (bnd fe fun e2 => fun ρ' => match peek1 ρ' e2 with
    | some d => match g [.str a, d] with
      | some d' => .ok (.val d') ρ'
      | none => .stuck
    | none => .stuck) ρ
  | _ => .stuck
theorem str_of {ev : EV} {v : V} {x : Str} {ρ : Env} (h : peek1 ρ ev = some (.str x)) (r : EVR K Z H σ ev v S) (er : EnvR K Z' H' ρ σ S') : v = .str x := by
  cases ev with
  | val d =>
    have e : d = .str x := Option.some.inj h
    subst e
    exact r
  | ref j => exact peek1_rep (Z := Z') (H := H') (Sa := Fp0) (e := .ref j) er r h
theorem tE_smet1 {g : List D → Option D} {r : V → List V → Hp → VK → Prop} {Q : VK} (hs : Snd X (fun vs H Q => ∃ x y, vs = [x, y] ∧ r x [y] H Q) g) (h : tE X.K X.mg W (smet1 g fa fb) σ H Q) : tM1 r (tE X.K X.mg W fa) (tE X.K X.mg W fb) σ H Q := by
  obtain ⟨Z, ρ, S, w, er, o⟩ := h
  refine ⟨Z, ρ, S, w, er, ?_⟩
  simp only [smet1, bnd] at o
  cases e1 : fa ρ with
  | stuck => rw [e1] at o; exact o
  | exc x ρ1 => rw [e1] at o; exact o
  | ok ea ρ1 =>
    rw [e1] at o
    intro x Z1 H1 S1 Sa st1 dj1 er1 r1
    have t1 := st1.less (S2 := S1) fun a x => .inl x
    simp only at o
    have o1 := OutE.after (K := X.K) (mg := X.mg) (W := W) (σ := σ) (Q := Q) t1 o
    split at o1
    · rename_i z hz
      have ex := str_of hz r1 er1
      subst ex
      refine ⟨⟨z, rfl⟩, Z1, ρ1, S1, t1.wd, er1, ?_⟩
      cases e2 : fb ρ1 with
      | stuck => simp only [e2] at o1; exact o1
      | exc x ρ2 => simp only [e2] at o1; exact o1
      | ok eb ρ2 =>
        simp only [e2] at o1
        intro y Z2 H2 S2 Sb st2 dj2 er2 r2
        have o2 := OutE.after (K := X.K) (mg := X.mg) (W := W) (σ := σ) (Q := Q) st2 o1
        split at o2
        · rename_i d hd
          split at o2
          · rename_i d' hg
            obtain ⟨x', y', hx, q⟩ := hs Z2 H2 _ [.str z, d] [.str z, y] d' Q st2.wd ⟨rfl, peek1_rep er2 r2 hd, trivial⟩ hg fun v Z3 H3 Sd st3 sm dj3 rd =>
              o2 v Z3 H3 S2 Sd (st3.less fun a x => x.elim (fun y => .inl (.inl y)) .inr) (fun a x y => dj3 a (.inl x) y) (er2.move st3.zz (fun a ob _ e => sm a ob e) fun _ x => x) rd
            cases hx
            exact q
          · exact o2.elim
        · exact o2.elim
    · exact o1.elim
def strsD : List D → Option (List Str)
  | [] => some []
  | .str x :: ds => (strsD ds).map (x :: ·)
  | _ => none
theorem strsD_map : ∀ xs : List Str, strsD (xs.map D.str) = some xs
  | [] => rfl
  | x :: xs => by rw [List.map_cons, strsD, strsD_map xs]; rfl
theorem strsD_inv : ∀ {ds : List D} {xs : List Str}, strsD ds = some xs → ds = xs.map D.str
  | [], xs, h => by
    simp only [strsD, Option.some.injEq] at h
    subst h
    rfl
  | d :: ds, xs, h => by
    cases d with
    | str x =>
      simp only [strsD, Option.map_eq_some_iff] at h
      obtain ⟨ys, h1, rfl⟩ := h
      rw [strsD_inv h1]
      rfl
    | _ => simp [strsD] at h
theorem reps_strs : ∀ {xs : List Str} {vs : List V} {S : Fp}, RepL K Z H (xs.map D.str) vs S → vs = xs.map V.str
  | [], [], _, _ => rfl
  | [], _ :: _, _, h => h.elim
  | _ :: _, [], _, h => h.elim
  | x :: xs, v :: vs, S, ⟨_, _, _, _, _, r, q⟩ => by
    have e : v = .str x := r
    rw [e, reps_strs q]
    rfl
def opJoin : List D → Option D
  | [.str a, .node _ .lst xs] => match strsD xs with
    | some ys => if (ys.map (·.length)).sum + ys.length * a.length ≤ cap then some (.str (Txt.join a ys)) else none
    | none => none
  | [.str a, .node _ .tup xs] => match strsD xs with
    | some ys => if (ys.map (·.length)).sum + ys.length * a.length ≤ cap then some (.str (Txt.join a ys)) else none
    | none => none
  | _ => none
def rJoin (K : PySem.W.Frag) : V → List V → Hp → VK → Prop := fun x xs H Q => ∃ a p, ∃ ys : List Str, x = .str a ∧ xs = [.ref p] ∧ (SqL K H p (ys.map V.str) ∨ SqT K H p (ys.map V.str)) ∧ (ys.map (·.length)).sum + ys.length * a.length ≤ 16777216 ∧ Q (.str (Txt.join a ys)) H
theorem snd_join : Snd X (fun vs H Q => ∃ x y, vs = [x, y] ∧ rJoin X.K x [y] H Q) opJoin := by
  refine snd_pure fun Z H S ds vs d Q w rb e k => ?_
  unfold opJoin at e
  split at e
  · split at e
    · rename_i ys hy
      split at e
      · rename_i hl
        obtain ⟨v, u, rfl, rv, ru⟩ := rb2 rb
        obtain ⟨p, zs, rfl, c, rl⟩ := rep_lst w.same ru
        rw [strsD_inv hy] at rl
        have ez := reps_strs rl
        subst ez
        cases e
        exact ⟨_, _, rfl, _, p, ys, rv, rfl, .inl (SqL.of c), Nat.le_trans hl (by decide), k _ rfl⟩
      · cases e
    · cases e
  · split at e
    · rename_i ys hy
      split at e
      · rename_i hl
        obtain ⟨v, u, rfl, rv, ru⟩ := rb2 rb
        obtain ⟨p, zs, rfl, c, rl⟩ := rep_tup w.same ru
        rw [strsD_inv hy] at rl
        have ez := reps_strs rl
        subst ez
        cases e
        exact ⟨_, _, rfl, _, p, ys, rv, rfl, .inr c, Nat.le_trans hl (by decide), k _ rfl⟩
      · cases e
    · cases e
  · cases e
theorem E_join {apos : Pos} (ho : PE X o (tE X.K X.mg W fa)) (he : PE X e (tE X.K X.mg W fb)) (hs : starEach [e] X.env = [(false, eval e X.env)] := by rfl) (hbase : attributeBase o "join" X.env (eval o X.env) = eval o X.env := by rfl) (hline : (apos.endLine == pos.line) = true := by rfl) :
    PE X (.Call (.Attribute o "join" apos) [e] [] pos) (tE X.K X.mg W (smet1 opJoin fa fb)) := PE.of (pe_join ho he hs hbase hline) fun _ _ _ q => tE_smet1 (r := rJoin X.K) snd_join q
def onSS (g : Str → Str → D) : List D → Option D
  | [.str a, .str b] => some (g a b)
  | _ => none
theorem snd_SS {r : V → List V → Hp → VK → Prop} {g : Str → Str → D} {hv : Str → Str → V} (hr : ∀ a b H Q, Q (hv a b) H → r (.str a) [.str b] H Q) (hg : ∀ a b Z H, Rep X.K Z H (g a b) (hv a b) Fp0) : Snd X (fun vs H Q => ∃ x y, vs = [x, y] ∧ r x [y] H Q) (onSS g) := by
  refine snd_pure fun Z H S ds vs d Q w rb e k => ?_
  unfold onSS at e
  split at e
  · rename_i a b
    obtain ⟨v, u, rfl, rv, ru⟩ := rb2 rb
    obtain rfl : v = .str a := rv
    obtain rfl : u = .str b := ru
    cases e
    exact ⟨_, _, rfl, hr _ _ _ _ (k _ (hg a b Z H))⟩
  · cases e
abbrev opCountS : List D → Option D := onSS fun a b => .int (Txt.count a b)
theorem snd_count : Snd X (fun vs H Q => ∃ x y, vs = [x, y] ∧ (fun (x : V) (xs : List V) (H : Hp) (Q : VK) => ∃ a b, x = .str a ∧ xs = [.str b] ∧ Q (.int (Txt.count a b)) H) x [y] H Q) opCountS :=
  snd_SS (r := fun (x : V) (xs : List V) (H : Hp) (Q : VK) => ∃ a b, x = .str a ∧ xs = [.str b] ∧ Q (.int (Txt.count a b)) H) (g := fun a b => .int (Txt.count a b)) (hv := fun a b => .int (Txt.count a b)) (fun a b H Q h => ⟨a, b, rfl, rfl, h⟩) fun _ _ _ _ => rfl
theorem E_count {apos : Pos} (ho : PE X o (tE X.K X.mg W fa)) (he : PE X e (tE X.K X.mg W fb)) (hs : starEach [e] X.env = [(false, eval e X.env)] := by rfl) (hbase : attributeBase o "count" X.env (eval o X.env) = eval o X.env := by rfl) (hline : (apos.endLine == pos.line) = true := by rfl) :
    PE X (.Call (.Attribute o "count" apos) [e] [] pos) (tE X.K X.mg W (smet1 opCountS fa fb)) :=
  PE.of (pe_m1 F.slot_str_count F.type_str_count mt_count ho he hs hbase hline) fun _ _ _ q => tE_smet1 (g := opCountS) snd_count q
end
end Pm
namespace Pm
open PySem PySem.Spec PyProof.Rows L2
section
variable {K : PySem.W.Frag} {mg : Str → Option Value} {W : WX} {Z Z' H H' : Hp} {S S' : Fp} {σ : Sl} {X : Cx} {a b c e o : Expr} {pos : Pos} {fa fb fc : M EV}
theorem RepL.erase : ∀ {ds : List D} {vs : List V} {S : Fp} {i : Nat} {d : D}, RepL K Z H ds vs S → ds[i]? = some d →
    ∃ v, ∃ S1 S2 : Fp, vs[i]? = some v ∧ (∀ a, S1 a → S a) ∧ (∀ a, S2 a → S a) ∧ (∀ a, S1 a → S2 a → False) ∧ Rep K Z H d v S1 ∧ RepL K Z H (ds.eraseIdx i) (vs.eraseIdx i) S2
  | [], _, _, _, _, _, e => by simp at e
  | _ :: _, [], _, _, _, h, _ => h.elim
  | d :: ds, v :: vs, S, 0, d', ⟨S1, S2, s1, s2, dj, r, q⟩, e => by
    simp only [List.getElem?_cons_zero, Option.some.injEq] at e
    subst e
    exact ⟨v, S1, S2, rfl, s1, s2, dj, r, q⟩
  | d :: ds, v :: vs, S, i + 1, d', ⟨S1, S2, s1, s2, dj, r, q⟩, e => by
    simp only [List.getElem?_cons_succ] at e
    obtain ⟨u, U1, U2, hu, u1, u2, uj, ru, rest⟩ := RepL.erase q e
    exact ⟨u, U1, fun a => S1 a ∨ U2 a, by simpa using hu, fun a x => s2 a (u1 a x), fun a x => x.elim (s1 a) fun y => s2 a (u2 a y), fun a x y => y.elim (fun z => dj a z (u1 a x)) (uj a x), ru, S1, U2, fun _ x => .inl x, fun _ x => .inr x, fun a x y => dj a x (u2 a y), r, rest⟩
theorem pop_item {i j : Nat} {xs : List D} {ρ : Env} {d : D} (w : Wd Z H S) (er : EnvR K Z H ρ σ S) (e : ρ.getD j none = some (.node true .lst xs)) (hi : xs[i]? = some d) :
    ∃ p ys y, ∃ S' T : Fp, σ[j]? = some (some (.ref p)) ∧ H p = some (.lst ys) ∧ ys.length = xs.length ∧ ys[i]? = some y ∧ (∀ a, S' a → S a) ∧ (∀ a, T a → S a) ∧ (∀ a, S' a → T a → False) ∧ S p ∧
      Rep K Z (upd H p (.lst (ys.eraseIdx i))) d y T ∧ EnvR K Z (upd H p (.lst (ys.eraseIdx i))) (ρ.set j (some (.node true .lst (xs.eraseIdx i)))) σ S' := by
  obtain ⟨u, U1, U2, hv, u1, u2, uj, ru, eu⟩ := er.take (getD_some e)
  obtain ⟨p, ys, U', rfl, c, sa, na, sub, rl⟩ := ru
  obtain ⟨hj, ej⟩ := List.getElem?_eq_some_iff.mp hv
  have es : σ.set j (some (.ref p)) = σ := by rw [← ej, List.set_getElem_self]
  have hl : j < ρ.length := by rw [er.length]; exact hj
  obtain ⟨y, T1, T2, hy, t1, t2, tj, ry, rest⟩ := rl.erase hi
  have keep : ∀ {B : Fp}, (∀ a, B a → a = p → False) → ∀ a o, B a → H a = some o → upd H p (.lst (ys.eraseIdx i)) a = some o := fun {B} n a o b q => by rw [upd_ne fun z => n a b z]; exact q
  have n1 : ∀ a, U' a → a = p → False := fun a x y => na (by rw [← y]; exact x)
  have rn : Rep K Z (upd H p (.lst (ys.eraseIdx i))) (.node true .lst (xs.eraseIdx i)) (.ref p) (fun a => a = p ∨ T2 a) := ⟨p, ys.eraseIdx i, T2, rfl, upd_same, .inl rfl, fun x => n1 p (t2 p x) rfl, fun _ x => .inr x, rest.move (Same.refl Z) (keep fun a x => n1 a (t2 a x)) fun _ x => x⟩
  have q := EnvR.put (S := fun a => (a = p ∨ T2 a) ∨ U2 a) (eu.move (Same.refl Z) (keep fun a x y => uj p sa (by rw [← y]; exact x)) fun _ x => x) hl rn (fun _ x => .inl x) (fun _ x => .inr x) fun a x y => by
    rcases x with x | x
    · exact uj p sa (by rw [← x]; exact y)
    · exact uj a (sub a (t2 a x)) y
  rw [es] at q
  refine ⟨p, ys, y, _, T1, hv, c, rl.length.symm, hy, fun a x => ?_, fun a x => u1 a (sub a (t1 a x)), fun a x t => ?_, u1 p sa, ry.move (Same.refl Z) (keep fun a x => n1 a (t1 a x)) fun _ x => x, q⟩
  · rcases x with (x | x) | x
    · rw [x]; exact u1 p sa
    · exact u1 a (sub a (t2 a x))
    · exact u2 a x
  · rcases x with (x | x) | x
    · exact n1 a (t1 a t) x
    · exact tj a t x
    · exact uj a (sub a (t1 a t)) x
def popi (j : Nat) (fi : M EV) : M EV := fun ρ0 => match ρ0.getD j none with
  | some (.node true .lst _) => bnd fi (fun ei => fun ρ => match ρ.getD j none, peek1 ρ ei with
    | some (.node true .lst xs), some (.int k) => match ixN xs.length k with
      | some i => match xs[i]? with
        | some d => if xs.length ≤ cap then .ok (.val d) (ρ.set j (some (.node true .lst (xs.eraseIdx i)))) else .stuck
        | none => .stuck
      | none => .stuck
    | _, _ => .stuck) ρ0
  | _ => .stuck
theorem tE_popi {j : Nat} {Q : VK} (h : tE K mg W (popi j fa) σ H Q) : tBM K "list" rPopAt (tVar j) (tCons (tE K mg W fa) tNil) σ H Q := by
  obtain ⟨Z, ρ, S, w, er, o⟩ := h
  simp only [popi] at o
  split at o
  · rename_i xs0 h0
    obtain ⟨u, U1, U2, hv, u1, u2, uj, ru, eu⟩ := er.take (getD_some h0)
    obtain ⟨p0, ys0, U', rfl, c0, _⟩ := ru
    refine ⟨.ref p0, hv, .inl ⟨rfl, ys0, SqL.of c0⟩, Z, ρ, S, w, er, ?_⟩
    simp only [bnd] at o
    cases e1 : fa ρ with
    | stuck => rw [e1] at o; exact o
    | exc x ρ1 => rw [e1] at o; exact o
    | ok ev ρ1 =>
      simp only [e1] at o
      intro v Z1 H1 S1 Sa st1 dj1 er1 r1
      have t1 := st1.less (S2 := S1) fun a x => .inl x
      have o1 := OutE.after (K := K) (mg := mg) (W := W) (σ := σ) (Q := Q) t1 o
      split at o1
      · rename_i xs k hx hk
        have ev' := int_of hk r1 er1
        subst ev'
        split at o1
        · rename_i i hi
          split at o1
          · rename_i d hd
            split at o1
            · rename_i hz
              obtain ⟨p, ys, y, S', T, hv2, hp, hl, hy, m1, m2, dj, sp, rd, er'⟩ := pop_item t1.wd er1 hx hd
              rw [hv] at hv2
              cases hv2
              obtain ⟨q1, q2, q3, q4⟩ := ixN_seq hi
              have hz' : xs.length ≤ 1000000 := hz
              refine ⟨p0, ys, k, i, y, rfl, rfl, hp, by omega, by omega, by rw [hl]; exact q1, hy, ?_⟩
              exact o1 y Z1 _ S' T ((Step.write t1.wd sp).less fun a x => x.elim (m1 a) (m2 a)) dj er' rd
            · exact o1.elim
          · exact o1.elim
        · exact o1.elim
      · exact o1.elim
  · exact o.elim
theorem E_popi {j : Nat} {x : Str} {p2 apos cpos : Pos} (he : PE X e (tE X.K X.mg W fa)) (hj : X.N[j]? = some x := by rfl) (hv : Vis X.env.scope x := by first | exact Or.inl rfl | exact Or.inr (Or.inl rfl) | exact Or.inr (Or.inr rfl)) (hd : (x == ("__debug__" : Str)) = false := by decide) (hcd : (x == ("__classdict__" : Str)) = false := by decide)
    (hbase : attributeBase (.Name x p2) "pop" X.env (eval (.Name x p2) X.env) = eval (.Name x p2) X.env := by rfl)
    (hfew : ((backTo cpos (starEach [e] X.env)).all (fun x => !x.1) && (backToKw cpos (keywordEach [] X.env)).all (fun x => x.1.isSome)
      && decide ([e].length + ([] : List Keyword).length + (if ([] : List Keyword).isEmpty then 0 else 1) < 30)) = true := by rfl)
    (hline : (apos.endLine == cpos.line) = true := by rfl) (hs : starEach [e] X.env = (false, eval e X.env) :: starEach [] X.env := by rfl) (hplain : (backTo cpos (starEach [] X.env)).any (·.1) = false := by rfl) :
    PE X (.Call (.Attribute (.Name x p2) "pop" apos) [e] [] cpos) (tE X.K X.mg W (popi j fa)) :=
  PE.of (pe_bm PySem.F.plainAttrs_list PySem.F.slot_list_pop PySem.F.type_list_pop mt_popAt (pe_var hj hv hd hcd) (pa_cons he pa_nil hs) hbase hfew hline hs hplain) fun _ _ _ q => tE_popi q
end
end Pm
namespace Pm
open PySem PySem.Spec PyProof.Rows L2
section
variable {K : PySem.W.Frag} {mg : Str → Option Value} {W : WX} {Z Z' H H' : Hp} {S S' : Fp} {σ : Sl} {X : Cx} {a b c e o : Expr} {pos : Pos} {fa fb fc : M EV}
def sortI (ns : List Int) : List Int := ns.mergeSort fun i j => decide (i ≤ j)
theorem sortI_perm (ns : List Int) : (sortI ns).Perm ns := List.mergeSort_perm ns _
theorem sortI_pair (ns : List Int) : (sortI ns).Pairwise (· ≤ ·) := by
  have h := List.pairwise_mergeSort (le := fun (i j : Int) => decide (i ≤ j)) (fun a b c h1 h2 => by simp at *; omega) (fun a b => by simp; omega) ns
  exact h.imp fun h => of_decide_eq_true h
theorem sortI_of {ns ms : List Int} (h : ms.Perm ns) (h2 : ms.Pairwise (· ≤ ·)) : ms = sortI ns := List.Perm.eq_of_pairwise (le := (· ≤ ·)) (fun a b _ _ h1 h2 => by omega) h2 (sortI_pair ns) (h.trans (sortI_perm ns).symm)
def leS (x y : Str) : Bool := !decide (y.cps.toList < x.cps.toList)
theorem leS_trans (a b c : Str) (h1 : leS a b = true) (h2 : leS b c = true) : leS a c = true := by
  unfold leS at *
  simp only [Bool.not_eq_true', decide_eq_false_iff_not] at *
  exact List.not_lt.mpr (List.le_trans (List.not_lt.mp h1) (List.not_lt.mp h2))
theorem leS_total (a b : Str) : (leS a b || leS b a) = true := by
  unfold leS
  rcases List.le_total a.cps.toList b.cps.toList with h | h
  · have h' : ¬ b.cps.toList < a.cps.toList := List.not_lt.mpr h
    simp [h']
  · have h' : ¬ a.cps.toList < b.cps.toList := List.not_lt.mpr h
    simp [h']
theorem leS_anti (a b : Str) (h1 : leS a b = true) (h2 : leS b a = true) : a = b := by
  unfold leS at *
  simp only [Bool.not_eq_true', decide_eq_false_iff_not] at *
  have e := List.le_antisymm (List.not_lt.mp h1) (List.not_lt.mp h2)
  cases a
  cases b
  congr
  exact Array.toList_inj.mp e
def sortS (xs : List Str) : List Str := xs.mergeSort leS
theorem sortS_perm (xs : List Str) : (sortS xs).Perm xs := List.mergeSort_perm xs _
theorem sortS_pair (xs : List Str) : (sortS xs).Pairwise fun x y => leS x y = true := List.pairwise_mergeSort leS_trans leS_total xs
theorem rising_pair : ∀ (p : Str) (xs : List Str), risingS p xs = true → (p :: xs).Pairwise fun x y => leS x y = true
  | p, [], _ => List.pairwise_singleton _ _
  | p, x :: xs, h => by
    unfold risingS at h
    rw [Bool.and_eq_true] at h
    have ih := rising_pair x xs h.2
    have hp : leS p x = true := (PyProof.Rows.le_meets p x).trans h.1
    refine List.Pairwise.cons (fun y hy => ?_) ih
    rcases List.mem_cons.mp hy with rfl | hy
    · exact hp
    · exact leS_trans _ _ _ hp ((List.pairwise_cons.mp ih).1 y hy)
theorem sortS_of {xs ys : List Str} (h : ys.Perm xs) (h2 : sortedS ys = true) : ys = sortS xs := by
  refine List.Perm.eq_of_pairwise (le := fun x y => leS x y = true) (fun a b _ _ h1 h2 => leS_anti a b h1 h2) ?_ (sortS_pair xs) (h.trans (sortS_perm xs).symm)
  cases ys with
  | nil => exact List.Pairwise.nil
  | cons y ys => exact rising_pair y ys h2
def opSorted : List D → Option D
  | [.node _ .lst xs] => match intsD xs with
    | some ns => some (.lst true ((sortI ns).map D.int))
    | none => match strsD xs with
      | some ys => if ys.length < 64 then some (.lst true ((sortS ys).map D.str)) else none
      | none => none
  | _ => none
theorem reps_strsV : ∀ xs : List Str, RepL K Z H (xs.map D.str) (xs.map V.str) Fp0
  | [] => trivial
  | x :: xs => ⟨Fp0, Fp0, fun _ x => x, fun _ x => x, fun _ x _ => x, rfl, reps_strsV xs⟩
theorem reps_ints0 : ∀ ns : List Int, RepL K Z H (ns.map D.int) (ns.map V.int) Fp0
  | [] => trivial
  | x :: xs => ⟨Fp0, Fp0, fun _ x => x, fun _ x => x, fun _ x _ => x, rfl, reps_ints0 xs⟩
theorem snd_sorted : Snd X (fun vs H Q => rSortedI X.K vs H Q ∨ rSortedS X.K vs H Q) opSorted := by
  intro Z H S ds vs d Q w rb e k
  unfold opSorted at e
  split at e
  · split at e
    · rename_i ns hn
      obtain ⟨v, rfl, rv⟩ := rb1 rb
      obtain ⟨a, ys, rfl, c, rl⟩ := rep_lst w.same rv
      rw [intsD_inv hn] at rl
      have ey := reps_intsV rl
      subst ey
      cases e
      refine .inl ⟨a, ns, rfl, SqL.of c, fun ms p h1 h2 np => ?_⟩
      rw [sortI_of h1 h2]
      obtain ⟨f1, f2, f3, f4⟩ := fresh_lst w np (reps_ints0 (K := X.K) (Z := Z) (H := H) (sortI ns))
      exact k _ _ _ _ f1 f2 f3 f4
    · split at e
      · rename_i ys hy
        split at e
        · rename_i hl
          obtain ⟨v, rfl, rv⟩ := rb1 rb
          obtain ⟨a, zs, rfl, c, rl⟩ := rep_lst w.same rv
          rw [strsD_inv hy] at rl
          have ez := reps_strs rl
          subst ez
          cases e
          refine .inr ⟨a, ys, rfl, SqL.of c, hl, fun ms p h1 h2 np => ?_⟩
          rw [sortS_of h1 h2]
          obtain ⟨f1, f2, f3, f4⟩ := fresh_lst w np (reps_strsV (K := X.K) (Z := Z) (H := H) (sortS ys))
          exact k _ _ _ _ f1 f2 f3 f4
        · cases e
      · cases e
  · cases e
theorem call_sortedA : CallR X (.builtin "sorted") (fun vs H Q => rSortedI X.K vs H Q ∨ rSortedS X.K vs H Q) := CallR.or cr_sortedI cr_sortedS
end
end Pm
namespace Pm
open PySem PySem.Spec PyProof.Rows L2
end Pm
namespace Pm
open PySem PySem.Spec PyProof.Rows L2
section
variable {K : PySem.W.Frag} {mg : Str → Option Value} {W : WX} {Z Z' H H' : Hp} {S S' : Fp} {σ : Sl} {X : Cx} {a b c e e2 o : Expr} {pos : Pos} {fa fb fc : M EV}
theorem WalkR.more {J : It} {ds : List D} (h : WalkR K J Z ds) (s : Same Z Z') : WalkR K J Z' ds := fun Z1 H1 z1 z2 => h Z1 H1 (s.trans z1) z2
end
end Pm
namespace Pm
open PySem PySem.Spec PyProof.Rows L2
end Pm
namespace Pm
open PySem PySem.Spec PyProof.Rows L2
end Pm
namespace Pm
open PySem PySem.Spec PyProof.Rows L2
end Pm
namespace Pm
open PySem PySem.Spec PyProof.Rows L2 StX
section
variable {K : PySem.W.Frag} {mg : Str → Option Value} {W : WX} {Z Z' H H' : Hp} {S S' : Fp} {σ : Sl} {X : Cx} {A : Nat → Bool} {a b c e o : Expr} {es : List Expr} {pos p : Pos} {fa fb fc f : M EV} {fs : M (List EV)}
def onS2 (g : Str → Str → Bool) : List D → Option D
  | [.str a, .str b] => some (.bl (g a b))
  | _ => none
def orS (g : Int → Int → Option D) (q : Str → Str → Bool) : List D → Option D
  | [.str i, .str j] => onS2 q [.str i, .str j]
  | ds => on2I g ds
abbrev opGtA : List D → Option D := orS iGt fun a b => decide (b.cps.toList < a.cps.toList)
def opRepL : List D → Option D
  | [.node true .lst xs, .int k] => if plainL xs = true ∧ -(2 ^ 63) ≤ k ∧ k < 2 ^ 63 ∧ xs.length * k.toNat ≤ cap then some (.lst true (List.replicate k.toNat xs).flatten) else none
  | _ => none
theorem reps_rep {ds : List D} {vs : List V} (r : RepL K Z H ds vs Fp0) : ∀ n : Nat, RepL K Z H (List.replicate n ds).flatten (List.replicate n vs).flatten Fp0
  | 0 => trivial
  | n + 1 => by
    rw [List.replicate_succ, List.replicate_succ, List.flatten_cons, List.flatten_cons]
    exact r.joinP (reps_rep r n)
theorem opd_repL : Opd X (binaryOp .Mult) opRepL := by
  refine ⟨_, op_rep, fun Z H S ds vs d Q w rb e k => ?_⟩
  unfold opRepL at e
  split at e
  · split at e
    · rename_i xs n hp
      obtain ⟨v, u, rfl, rv, ru⟩ := rb2 rb
      obtain ⟨a, ys, S', rfl, c, sa, na, sub, rl⟩ := rv
      obtain rfl : u = .int n := ru
      cases e
      refine ⟨_, _, rfl, a, n, ys, rfl, rfl, c, hp.2.1, hp.2.2.1, by rw [← rl.length]; exact cap_le hp.2.2.2, fun p np => ?_⟩
      obtain ⟨f1, f2, f3, f4⟩ := fresh_lst w np (reps_rep (rl.plain (H' := H) hp.1) n.toNat)
      exact k _ _ _ _ f1 f2 f3 f4
    · cases e
  · cases e
/-- everything that is multiplied -/
def hMul : List D → Option D
  | [.node o .lst xs, .int k] => opRepL [.node o .lst xs, .int k]
  | ds => gMul ds
theorem opd_hMul : Opd X (binaryOp .Mult) hMul := Opd.or opd_gMul opd_repL fun ds d h => by
  unfold hMul at h
  split at h
  · exact .inr h
  · exact .inl h
end
end Pm
namespace Pm
open PySem PySem.Spec PyProof.Rows L2
section
variable {K : PySem.W.Frag} {mg : Str → Option Value} {W : WX} {Z Z' H H' : Hp} {S S' : Fp} {σ : Sl} {X : Cx} {A : Nat → Bool} {a b c e o : Expr} {pos : Pos} {fa fb fc f : M EV}
def newD : M EV := con (.dct true [] [])
theorem tE_newD {Q : VK} (h : tE K mg W newD σ H Q) : tDNewK σ H Q := by
  obtain ⟨Z, ρ, S, w, er, o⟩ := h
  intro p np
  have r0 : RepL K Z H ([] : List D) ([] : List V) Fp0 := trivial
  have st := Step.alloc (o := .dK []) w np
  refine o (.ref p) Z _ S (fun a => a = p) st (fun a s e => w.dom a s (by rw [e]; exact np)) (er.move (Same.refl _) (fun a o _ e => by rw [upd_ne (ne_of_none e np)]; exact e) fun _ x => x) ?_
  exact ⟨p, [], Fp0, rfl, ⟨rfl, upd_same⟩, rfl, fun x => x, fun _ x => x.elim, trivial⟩
theorem E_D0 : PE X (.Dict [] [] pos) (tE X.K X.mg W newD) := PE.of pe_dnewK fun _ _ _ q => tE_newD q
def keyP : Key → PyData
  | .inl i => .int i
  | .inr x => .str x
def pyF : V → PyData
  | .bl b => .bool b
  | .int i => .int i
  | .str x => .str x
  | _ => .none
theorem reads_flat {h : Heap} {v : V} {u : Value} (hf : flatV v = true) (r : RelV v u) : Reads h u (pyF v) [] := by
  cases v with
  | non => cases r; exact .none
  | bl b => cases r; exact .bool b
  | int i => obtain ⟨t, rfl⟩ := r; exact .int i t
  | str x => obtain ⟨t, rfl⟩ := r; exact .str x t
  | _ => cases hf
theorem pairsRead_of {h : Heap} : ∀ {kvs : List (Key × V)} {vs : List (Key × Value)}, KV kvs vs → (kvs.all fun kv => flatV kv.2) = true → PyProof.V.PairsRead h keyP vs (kvs.map fun kv => (keyP kv.1, pyF kv.2)) []
  | [], _, r, _ => by cases r; exact .nil
  | p :: kvs, _, r, hf => by
    rw [List.all_cons, Bool.and_eq_true] at hf
    cases r with
    | @cons a b as bs h1 h2 =>
      obtain ⟨k, u⟩ := b
      obtain ⟨k', v⟩ := p
      obtain ⟨e, ru⟩ := h1
      cases e
      exact .cons (as := []) (reads_flat hf.1 ru) (pairsRead_of h2 hf.2)
def dctP (ks : List Key) (vs : List V) : PyData := .dict ((ks.zip vs).map fun kv => (keyP kv.1, pyF kv.2))
def rReprD : List V → Hp → VK → Prop := fun xs H Q => ∃ a kvs, xs = [.ref a] ∧ Rd H a (.dK kvs) ∧ (kvs.all fun kv => flatV kv.2) = true ∧ PyData.showable (.dict (kvs.map fun kv => (keyP kv.1, pyF kv.2))) = true ∧
  PyData.depth (.dict (kvs.map fun kv => (keyP kv.1, pyF kv.2))) ≤ 60 ∧ (PyData.shown (.dict (kvs.map fun kv => (keyP kv.1, pyF kv.2)))).length ≤ sizeLine ∧ Q (.str (PyData.shown (.dict (kvs.map fun kv => (keyP kv.1, pyF kv.2))))) H
theorem call_reprD (hg : X.A.guards = some []) (hu : X.A.units + 64 < cLine) : CallR X (.builtin "repr") rReprD := by
  intro pins s σ H xs us Q I r h
  obtain ⟨a, kvs, rfl, hr, hf, hs, hp, hz, q⟩ := h
  obtain ⟨u, rfl, rx⟩ := vals1 r
  cases rx
  obtain ⟨_, hd, vs, rel, dd⟩ := dk_rd I.hok hr
  have rd : Reads s.heap (.ref a) (.dict (kvs.map fun kv => (keyP kv.1, pyF kv.2))) (a :: []) := PyProof.V.reads_dictOf (fun k key hk => by
    rcases keyIs_shape (show keyIs k key = true from hk) with ⟨i, t, rfl, rfl⟩ | ⟨x, t, rfl, rfl⟩
    · exact .int i t
    · exact .str x t) dd (pairsRead_of rel hf)
  refine repr_of_reads' rd hs (fun _ hm => ?_) hg (by omega) (fun _ _ e => e) (fun h' u tk k => ⟨.str _, H, I.kept k, ⟨_, rfl⟩, q⟩) hz
  rcases List.mem_cons.mp hm with e | e
  · rw [← e] at hd
    exact absurd hd (by simp)
  · cases e
theorem zip_all : ∀ (ks : List Key) (vs : List V), vs.all flatV = true → ((ks.zip vs).all fun kv => flatV kv.2) = true
  | [], _, _ => rfl
  | _ :: _, [], _ => rfl
  | k :: ks, v :: vs, h => by
    rw [List.all_cons, Bool.and_eq_true] at h
    rw [List.zip_cons_cons, List.all_cons, Bool.and_eq_true]
    exact ⟨h.1, zip_all ks vs h.2⟩
def isDct : D → Bool
  | .node _ (.dct _) _ => true
  | _ => false
def dItemP : D → Option PyData
  | .node _ (.dct ks) xs => match fltL xs with
    | some vs => if ks.length = vs.length then some (dctP ks vs) else none
    | none => none
  | d => (flt d).map pyF
def dItemsP : List D → Option (List PyData)
  | [] => some []
  | d :: ds => match dItemP d, dItemsP ds with
    | some p, some ps => some (p :: ps)
    | _, _ => none
/-- an item as it is read -/
inductive ItP (H : Hp) : V → PyData → Prop where
  | flat {v : V} : flatV v = true → ItP H v (pyF v)
  | dct {a : Addr} {kvs : List (Key × V)} : Rd H a (.dK kvs) → (kvs.all fun kv => flatV kv.2) = true → ItP H (.ref a) (.dict (kvs.map fun kv => (keyP kv.1, pyF kv.2)))
inductive ItPs (H : Hp) : List V → List PyData → Prop where
  | nil : ItPs H [] []
  | cons {v : V} {vs : List V} {p : PyData} {ps : List PyData} : ItP H v p → ItPs H vs ps → ItPs H (v :: vs) (p :: ps)
theorem dItemP_ok {K : PySem.W.Frag} {Z H : Hp} {S : Fp} (w : Sam Z H) {d : D} {v : V} {p : PyData} (h : dItemP d = some p) (r : Rep K Z H d v S) : ItP H v p := by
  unfold dItemP at h
  split at h
  · rename_i o ks xs
    split at h
    · rename_i vs' hv
      split at h
      · rename_i hl
        cases h
        cases o with
        | false =>
          obtain ⟨a, ys, rfl, c, rl⟩ := r
          obtain ⟨e1, f1⟩ := fltL_ok hv rl
          subst e1
          exact .dct (.inl (w.get _ _ c.2 nt_dK)) (zip_all _ _ f1)
        | true =>
          obtain ⟨a, ys, S', rfl, c, sa, na, sub, rl⟩ := r
          obtain ⟨e1, f1⟩ := fltL_ok hv rl
          subst e1
          exact .dct (.inl c.2) (zip_all _ _ f1)
      · cases h
    · cases h
  · obtain ⟨u, hu, rfl⟩ := Option.map_eq_some_iff.mp h
    obtain ⟨e1, f1⟩ := flt_ok hu r
    subst e1
    exact .flat f1
theorem dItemsP_ok {K : PySem.W.Frag} {Z H : Hp} (w : Sam Z H) : ∀ {ds : List D} {vs : List V} {ps : List PyData} {S : Fp}, dItemsP ds = some ps → RepL K Z H ds vs S → ItPs H vs ps
  | [], [], _, _, h, _ => by cases h; exact .nil
  | [], _ :: _, _, _, _, r => r.elim
  | _ :: _, [], _, _, _, r => r.elim
  | d :: ds, v :: vs, ps, _, h, ⟨_, _, _, _, _, r, q⟩ => by
    unfold dItemsP at h
    split at h
    · rename_i p ps' h1 h2
      cases h
      exact .cons (dItemP_ok w h1 r) (dItemsP_ok w h2 q)
    · cases h
def rReprT (K : PySem.W.Frag) : List V → Hp → VK → Prop := fun xs H Q => ∃ (a : Addr) (ys : List V) (ps : List PyData), xs = [.ref a] ∧ SqT K H a ys ∧ ItPs H ys ps ∧ PyData.showable (.tuple ps) = true ∧ PyData.depth (.tuple ps) ≤ 60 ∧ (PyData.shown (.tuple ps)).length ≤ sizeLine ∧ Q (.str (PyData.shown (.tuple ps))) H
section
variable {X : Cx} {pins : List (Addr × Obj)} {σ : L2.St} {H : Hp} {s : Shared}
theorem itp_read (I : Inv X pins σ H s) {v : V} {p : PyData} {u : Value} (h : ItP H v p) (r : RelV v u) : ∃ as, Reads s.heap u p as ∧ sysModules ∉ as := by
  cases h with
  | flat f => exact ⟨[], reads_flat f r, by simp⟩
  | @dct a kvs hr hf =>
    cases r
    obtain ⟨_, hd, vs, rel, dd⟩ := dk_rd I.hok hr
    have rd : Reads s.heap (.ref a) (.dict (kvs.map fun kv => (keyP kv.1, pyF kv.2))) (a :: []) := PyProof.V.reads_dictOf (fun k key hk => by
      rcases keyIs_shape (show keyIs k key = true from hk) with ⟨i, t, rfl, rfl⟩ | ⟨x, t, rfl, rfl⟩
      · exact .int i t
      · exact .str x t) dd (pairsRead_of rel hf)
    refine ⟨_, rd, fun hm => ?_⟩
    rcases List.mem_cons.mp hm with e | e
    · rw [← e] at hd
      exact absurd hd (by simp)
    · cases e
theorem itps_read (I : Inv X pins σ H s) : ∀ {vs : List V} {ps : List PyData} {us : List Value}, ItPs H vs ps → Vals vs us → ∃ as, ReadsAll s.heap us ps as ∧ sysModules ∉ as
  | _, _, _, .nil, .nil => ⟨[], .nil, by simp⟩
  | _, _, _, .cons h t, .cons r q => by
    obtain ⟨as, h1, h2⟩ := itp_read I h r
    obtain ⟨bs, h3, h4⟩ := itps_read I t q
    exact ⟨as ++ bs, .cons h1 h3, fun m => (List.mem_append.mp m).elim h2 h4⟩
theorem call_reprT (hg : X.A.guards = some []) (hu : X.A.units + 64 < cLine) : CallR X (.builtin "repr") (rReprT X.K) := by
  intro pins s σ H xs us Q I r h
  obtain ⟨a, ys, ps, rfl, hr, hi, hs, hp, hz, q⟩ := h
  obtain ⟨u, rfl, rx⟩ := vals1 r
  cases rx
  obtain ⟨its, rv, ⟨o, ho, hc, n, hd⟩, _⟩ := I.tuple hr
  obtain ⟨as, h1, h2⟩ := itps_read I hi rv
  have rd : Reads s.heap (.ref a) (.tuple ps) as := .tuple ho hc hd (by simpa using h1)
  exact repr_of_reads' rd hs (fun _ => h2) hg (by omega) (fun _ _ e => e) (fun h' u tk k => ⟨.str _, H, I.kept k, ⟨_, rfl⟩, q⟩) hz
end
def opReprT : List D → Option D
  | [.node _ .tup xs] => match dItemsP xs with
    | some ps => if PyData.showable (.tuple ps) = true ∧ PyData.depth (.tuple ps) ≤ 60 ∧ (PyData.shown (.tuple ps)).length ≤ cap then some (.str (PyData.shown (.tuple ps))) else none
    | none => none
  | _ => none
theorem snd_reprT : Snd X (rReprT X.K) opReprT := by
  refine snd_pure fun Z H S ds vs d Q w rb e k => ?_
  unfold opReprT at e
  split at e
  · rename_i o xs
    split at e
    · rename_i ps hps
      split at e
      · rename_i c
        obtain ⟨c1, c2, c3⟩ := c
        obtain ⟨v, rfl, rv⟩ := rb1 rb
        cases e
        obtain ⟨a, ys, rfl, c, rl⟩ := rep_tup w.same rv
        exact ⟨a, ys, ps, rfl, c, dItemsP_ok w.same hps rl, c1, c2, cap_le c3, k _ rfl⟩
      · cases e
    · cases e
  · cases e
/-- repr of everything -/
def opReprA : List D → Option D
  | [.node o (.dct ks) xs] => match fltL xs with
    | some vs => if ks.length = vs.length ∧ PyData.showable (dctP ks vs) = true ∧ PyData.depth (dctP ks vs) ≤ 60 ∧ (PyData.shown (dctP ks vs)).length ≤ cap then some (.str (PyData.shown (dctP ks vs))) else none
    | none => none
  | [.node o .tup xs] => if xs.any isDct = true then opReprT [.node o .tup xs] else opRepr [.node o .tup xs]
  | ds => opRepr ds
def rReprA (K : PySem.W.Frag) : List V → Hp → VK → Prop := fun xs H Q => rRepr K xs H Q ∨ rReprD xs H Q ∨ rReprT K xs H Q
theorem call_reprB (hg : X.A.guards = some []) (hu : X.A.units + 64 < cLine) : CallR X (.builtin "repr") (rReprA X.K) := by
  intro pins s σ H xs us Q I r h
  rcases h with h | h | h
  · exact call_reprA hg hu pins s σ H xs us Q I r h
  · exact call_reprD hg hu pins s σ H xs us Q I r h
  · exact call_reprT hg hu pins s σ H xs us Q I r h
theorem snd_reprA : Snd X (rReprA X.K) opReprA := by
  intro Z H S ds vs d Q w rb e k
  unfold opReprA at e
  split at e
  · rename_i o ks xs
    split at e
    · rename_i vs' hv
      split at e
      · rename_i c
        obtain ⟨c1, c2, c3, c4⟩ := c
        obtain ⟨v, rfl, rv⟩ := rb1 rb
        cases e
        have hh : ∃ a, v = .ref a ∧ H a = some (.dK (ks.zip vs')) ∧ vs'.all flatV = true := by
          cases o with
          | false =>
            obtain ⟨a, ys, rfl, c, rl⟩ := rv
            obtain ⟨e1, f1⟩ := fltL_ok hv rl
            subst e1
            exact ⟨a, rfl, w.same.get _ _ c.2 nt_dK, f1⟩
          | true =>
            obtain ⟨a, ys, S', rfl, c, sa, na, sub, rl⟩ := rv
            obtain ⟨e1, f1⟩ := fltL_ok hv rl
            subst e1
            exact ⟨a, rfl, c.2, f1⟩
        obtain ⟨a, rfl, ha, hf⟩ := hh
        refine .inr (.inl ⟨a, ks.zip vs', rfl, .inl ha, zip_all _ _ hf, c2, c3, cap_le c4, k _ _ _ Fp0 w.nil (Same.refl H) (fun _ _ x => x) rfl⟩)
      · cases e
    · cases e
  · split at e
    · exact .inr (.inr (snd_reprT Z H S _ vs d Q w rb e k))
    · exact .inl (snd_repr Z H S _ vs d Q w rb e k)
  · exact .inl (snd_repr Z H S ds vs d Q w rb e k)
end
end Pm
namespace Pm
open PySem PySem.Spec PyProof.Rows L2
/-- of at most e bits -/
def Sm (e : Nat) (x : Int) : Prop := x.natAbs < 2 ^ e
theorem Sm.mono {e f : Nat} {x : Int} (h : Sm e x) (l : e ≤ f) : Sm f x := Nat.lt_of_lt_of_le h (Nat.pow_le_pow_right (by decide) l)
theorem Sm.mul {e f : Nat} {x y : Int} (h : Sm e x) (k : Sm f y) : Sm (e + f) (x * y) := by
  unfold Sm at *
  rw [Int.natAbs_mul, Nat.pow_add]
  exact Nat.mul_lt_mul'' h k
theorem Sm.add {e : Nat} {x y : Int} (h : Sm e x) (k : Sm e y) : Sm (e + 1) (x + y) := by
  unfold Sm at *
  have := Int.natAbs_add_le x y
  rw [Nat.pow_succ]
  omega
theorem Sm.between {e : Nat} {x y : Int} (h : Sm e y) (h0 : 0 ≤ x) (h1 : x ≤ y) : Sm e x := by unfold Sm at *; omega
theorem Sm.mod {e : Nat} {x m : Int} (h : Sm e m) (hm : 0 < m) : Sm e (x % m) := h.between (Int.emod_nonneg _ (by omega)) (Int.le_of_lt (Int.emod_lt_of_pos _ hm))
theorem Sm.divOk {e : Nat} {x : Int} (h : Sm e x) (l : e ≤ 9000) : divOk x = true := by
  refine decide_eq_true ?_
  by_cases hx : x.natAbs = 0
  · rw [hx]; decide
  · exact (Nat.log2_lt hx).mpr (h.mono l)
theorem eq_int' (x y : Int) : opEq [.int x, .int y] = some (.bl (x == y)) := rfl
theorem comp_of {own : List Nat} {s : M (List D)} {g : Tg} {c : M Bool} {e : M EV} {ρ ρ1 ρ2 : Env} {ds acc : List D} (hs : s ρ = .ok ds ρ1) (hc : compIt own g c e ds (wipeE ρ1 own) [] = .ok acc ρ2) : comp own s g c e ρ = .ok (.val (.lst true acc)) (backE ρ1 ρ2 own) := by
  unfold comp bnd
  simp only [hs, hc]
theorem forS_of {s : M (List D)} {g : Tg} {b : M Fl} {ρ ρ1 : Env} {ds : List D} (hs : s ρ = .ok ds ρ1) : forS s g b ρ = forIt g b ds ρ1 := by
  unfold forS bnd
  simp only [hs]
theorem src_r1 {f : M (List EV)} {ρ ρ1 : Env} {es : List EV} {n : Nat} (h : f ρ = .ok es ρ1) (hp : peeks ρ1 es = some [.int n]) (hn : n ≤ 1000000) : srcR1 f ρ = .ok (rangeD 0 n) ρ1 := by
  have h62 : sm62 (n : Int) = true := sm62_of ⟨by omega, by omega⟩
  unfold srcR1 bnd
  simp only [h, hp, h62, if_true, Int.toNat_natCast]
theorem mkF_rt {n m : Nat} {reb : List Nat} {b : M Fl} {ds as : List D} {d : D} {ρ : Env} (h : b ((reFrz reb 0 ds).map some ++ List.replicate (m - n) none) = .ok (.rt d) ρ) (ha : argsBack reb ρ 0 (reFrz reb 0 ds) = some as) (hl : ds.length = n ∧ n ≤ m := by exact ⟨rfl, by decide⟩) : mkF n m reb b ds = .ret d as := by
  unfold mkF
  rw [if_pos hl, h]
  simp only [ha]
end Pm
namespace Pm
open PySem PySem.Spec PyProof.Rows L2
end Pm
namespace Pm
open PySem PySem.Spec PyProof.Rows L2
def ItES (x : Str) : It := ⟨fun i _ => i < x.cps.size, fun i H v H' => ∃ T c, v = .ref T ∧ H T = none ∧ H' = upd H T (.tup [.int (i : Nat), .str ⟨#[c]⟩]) ∧ x.cps[i]? = some c, fun i _ => x.cps.size ≤ i⟩
theorem turn_enumS {P : Program} {w : World} {K : PySem.W.Frag} {elts : List Expr} {kk : Nat} {tpos : Pos} (e it : Addr) (x : Str) (t : Tok) (ty : String) (hty : ty = "str_ascii_iterator" ∨ ty = "str_iterator") :
    Turn P w K (.Tuple elts kk tpos) (ItES x) [e, it] e (fun i h => i ≤ x.cps.size ∧ (∃ old, IsEnum h e it ((i : Nat) : Int) old) ∧ h.IsStrIter it ty x t i ∧ e ≠ it) where
  mem := by simp
  obj := fun i h st b hb => by
    obtain ⟨_, ⟨old, he⟩, ⟨o, ho, hc, hd⟩, _⟩ := st
    have e' : b = e ∨ b = it := by simpa using hb
    rcases e' with z | z
    · rw [z]; exact ⟨_, he, fun v q => nomatch q⟩
    · rw [z]; exact ⟨o, ho, fun v q => by rw [hd] at q; cases q⟩
  keep := fun i h h' st k => let ⟨hi, ⟨old, he⟩, ⟨o, ho, r⟩, hne⟩ := st; ⟨hi, ⟨old, k e (by simp) _ he⟩, ⟨o, k it (by simp) o ho, r⟩, hne⟩
  item := by
    intro X hP hw hK hc i pins s σ H E I hf st hg
    subst hP hw hK
    obtain ⟨hi, ⟨old, he⟩, hit, hne⟩ := st
    have hg : i < x.cps.size := hg
    have hel : e < s.heap.objs.size := Heap.lt_size he
    have hil : it < s.heap.objs.size := by obtain ⟨_, q, _⟩ := hit; exact Heap.lt_size q
    have D : PySem.Draws X.prog X.w X.A.in1 it [it] x.cps.size (fun i v => ∃ c u, x.cps[i]? = some c ∧ v = .str ⟨#[c]⟩ u) (fun i h => h.IsStrIter it ty x t i) := by
      rcases hty with e | e
      · rw [e]; exact PySem.Draws.strAscii (A := X.A.in1) (by show X.A.handled = none; exact I.ok.hd hc) it x t
      · rw [e]; exact PySem.Draws.strWide (A := X.A.in1) (by show X.A.handled = none; exact I.ok.hd hc) it x t
    refine wpAny_pyNext_enum_itemD D he hit hg hne (by simpa using hne) fun u h' tk hP ho hit' hT hsz hk => ?_
    obtain ⟨c, tc, hcx, rfl⟩ := hP
    refine ⟨_, rfl, wpAny_letOwnedTupleGo_enum (s := { s with heap := h', toks := tk + 1 }) ho fun h'' he' sb => ?_⟩
    have hT2 : h''.get? s.heap.objs.size = some { cls := .type "tuple", data := .seq #[.int i tk, .str ⟨#[c]⟩ tc] } := (sb.2 _ (Nat.ne_of_gt hel)).trans hT
    have new : ObjOk X.prog X.w (upd H s.heap.objs.size (.tup [.int (i : Nat), .str ⟨#[c]⟩])) h'' s.heap.objs.size (.tup [.int (i : Nat), .str ⟨#[c]⟩]) :=
      ⟨by show 2 ≤ sizeLine; decide, [.int i tk, .str ⟨#[c]⟩ tc], .cons ⟨_, rfl⟩ (.cons ⟨_, rfl⟩ .nil), ⟨_, hT2, rfl, _, rfl⟩⟩
    have I1 : Inv X pins σ (upd H s.heap.objs.size (.tup [.int (i : Nat), .str ⟨#[c]⟩])) { s with heap := h'', toks := tk + 1 } :=
      I.turnedNew (ch := [e, it]) (fun b ob hb q => (sb.2 b (fun z => hb (by simp [z]))).trans (hk b ob (fun z => hb (by simp [z])) (fun z => hb (by simp [z])) q)) hf (Nat.le_refl _) new
    refine ⟨.ref s.heap.objs.size, _, I1, rfl, ⟨_, c, rfl, I.hok.fresh (Nat.le_refl _), rfl, hcx⟩, ⟨hg, ⟨.str ⟨#[c]⟩ tc, ?_⟩, ?_, hne⟩, fun b hb => ?_⟩
    · have e1 : ((i + 1 : Nat) : Int) = (i : Int) + 1 := by omega
      rw [e1]; exact he'
    · obtain ⟨o, q, r⟩ := hit'
      exact ⟨o, (sb.2 it (Ne.symm hne)).trans q, r⟩
    · have hb' : b < s.heap.objs.size := by
        have e' : b = e ∨ b = it := by simpa using hb
        rcases e' with z | z
        · rw [z]; exact hel
        · rw [z]; exact hil
      rw [upd_ne (Nat.ne_of_lt hb')]
      exact (hf b hb).1
  done := by
    intro X hP hw hK hc i pins s σ H E I hf st hg
    subst hP hw hK
    obtain ⟨hi, ⟨old, he⟩, hit, hne⟩ := st
    obtain ⟨f0, f1, f2, f3, f4, f5⟩ := hf it (by simp)
    have ei : i = x.cps.size := Nat.le_antisymm hi hg
    have D : PySem.Draws X.prog X.w X.A.in1 it [it] x.cps.size (fun i v => ∃ c u, x.cps[i]? = some c ∧ v = .str ⟨#[c]⟩ u) (fun i h => h.IsStrIter it ty x t i) := by
      rcases hty with e | e
      · rw [e]; exact PySem.Draws.strAscii (A := X.A.in1) (by show X.A.handled = none; exact I.ok.hd hc) it x t
      · rw [e]; exact PySem.Draws.strWide (A := X.A.in1) (by show X.A.handled = none; exact I.ok.hd hc) it x t
    exact wpAny_pyNext_enum_endD D he (by rw [← ei]; exact hit) fun h' eb => ⟨rfl, I.turned (t' := s.toks) (fun b o hb q => eb b o hb q) f0 f1 f3 f4 f5⟩
  self := fun A i s Q E st h => let ⟨_, ⟨_, he⟩, _⟩ := st; wpAny_pyIter_enum he h
def iEnumS (te : TE) : TI := fun σ H R => te σ H fun v H1 => ∃ x, v = .str x ∧ R (ItES x) H1
theorem pi_enumS {X : Cx} {e : Expr} {te : TE} {p pos tpos : Pos} {elts : List Expr} {kk : Nat} (hg : Gl X "enumerate") (hm : X.mg "enumerate" = none) (he0 : PE X e te) (hs : starEach [e] X.env = [(false, eval e X.env)] := by rfl) :
    PI X (.Tuple elts kk tpos) (.Call (.Name "enumerate" p) [e] [] pos) (iEnumS te) := by
  refine ⟨fun pins s σ H R I h => ?_⟩
  have ha : PA X [e] (tCons te tNil) := pa_cons he0 pa_nil hs
  have h2 : (tCons te tNil) σ H (fun vs H1 => ∃ x, vs = [.str x] ∧ R (ItES x) H1) := by
    have key : ∀ v H1, (∃ x, v = .str x ∧ R (ItES x) H1) → tNil σ H1 (fun xs H2 => ∃ x, v :: xs = [V.str x] ∧ R (ItES x) H2) := fun v H1 ⟨x, ex, r⟩ => ⟨x, by rw [ex], r⟩
    have e1 : (fun v H1 => ∃ x, v = V.str x ∧ R (ItES x) H1) = fun v H1 => tNil σ H1 (fun xs H2 => ∃ x, v :: xs = [V.str x] ∧ R (ItES x) H2) := by
      funext v H1
      refine propext ⟨key v H1, fun ⟨x, ex, r⟩ => ⟨x, (List.cons.inj ex).1, r⟩⟩
    show te σ H (fun v H1 => tNil σ H1 (fun xs H2 => ∃ x, v :: xs = [V.str x] ∧ R (ItES x) H2))
    rw [← e1]
    exact h
  refine Call_ (ld_blt I hg hm boot_enumerate (PyProof.Rows.callWith_type1 (thn (ha.run pos pins s σ H _ I h2) fun us s1 ⟨vs, H1, I1, r1, q1⟩ => ?_) hs rfl))
  obtain ⟨x, ex, q⟩ := q1
  subst ex
  cases r1 with
  | cons r rr =>
    cases rr
    obtain ⟨t, rfl⟩ := r
    refine call_enumerate_str fun h' he hit hsz hk => wpAny_pyIter_enum he ?_
    have I2 : Inv X pins σ H1 { s1 with heap := h' } := I1.kept (t' := s1.toks) hk
    have hty : strIterType x = "str_ascii_iterator" ∨ strIterType x = "str_iterator" := by
      unfold strIterType
      split
      · exact .inl rfl
      · exact .inr rfl
    refine ⟨s1.heap.objs.size + 1, [s1.heap.objs.size + 1, s1.heap.objs.size], _, _, H1, rfl, I2, turn_enumS (s1.heap.objs.size + 1) s1.heap.objs.size x t _ hty, ⟨Nat.zero_le _, ⟨.none, he⟩, hit, Nat.succ_ne_self _⟩, fun b hb => ?_, q⟩
    have e' : b = s1.heap.objs.size + 1 ∨ b = s1.heap.objs.size := by simpa using hb
    have hle : s1.heap.objs.size ≤ b := by
      rcases e' with z | z
      · rw [z]; exact Nat.le_add_right _ _
      · rw [z]; exact Nat.le_refl _
    exact I1.fpOk hle (I1.hok.fresh hle)
section
variable {K : PySem.W.Frag} {mg : Str → Option Value} {W : WX} {Z Z' H H' : Hp} {S S' : Fp} {σ : Sl} {X : Cx} {a b c e o : Expr} {pos : Pos} {fa fb fc : M EV}
def enumS (x : Str) : List D := x.cps.toList.zipIdx.map fun p => .tup [.int (p.2 : Int), .str ⟨#[p.1]⟩]
theorem walk_enumS (x : Str) : WalkR K (ItES x) Z (enumS x) := by
  intro Z' H' z1 z2
  refine ⟨fun i hi => by unfold enumS at hi; rw [List.length_map, List.length_zipIdx, Array.length_toList] at hi; exact hi, fun i d hd => ?_⟩
  unfold enumS at hd
  rw [List.getElem?_map, List.getElem?_zipIdx] at hd
  cases e : x.cps.toList[i]? with
  | none => rw [e] at hd; cases hd
  | some c =>
    rw [e] at hd
    have hl : i < x.cps.size := by
      have := (List.getElem?_eq_some_iff.mp e).1
      simpa using this
    refine ⟨hl, fun y H'' S' w h => ?_⟩
    obtain ⟨T, c', rfl, nT, rfl, hc'⟩ := h
    have ec : c' = c := by
      have e' : x.cps[i]? = some c := by simpa using e
      rw [e'] at hc'
      exact (Option.some.inj hc').symm
    subst ec
    cases hd
    have st2 := Step.allocZ (o := .tup [.int ((i : Nat) : Int), .str ⟨#[c']⟩]) w nT
    refine ⟨_, st2, fun a o e => by rw [upd_ne (ne_of_none e nT)]; exact e, T, [.int ((i : Nat) : Int), .str ⟨#[c']⟩], rfl, SqT.of upd_same, Fp0, Fp0, fun _ x => x, fun _ x => x, fun _ x _ => x, by simp [Rep], Fp0, Fp0, fun _ x => x, fun _ x => x, fun _ x _ => x, rfl, trivial⟩
def srcEnumS (f : M EV) : M (List D) := bnd f fun e => fun ρ => match peek1 ρ e with
  | some (.str x) => .ok (enumS x) ρ
  | _ => .stuck
theorem tI_enumS {R : It → Hp → Prop} (h : tI K mg W (srcEnumS fa) σ H R) : iEnumS (tE K mg W fa) σ H R := by
  obtain ⟨Z, ρ, S, w, er, o⟩ := h
  refine ⟨Z, ρ, S, w, er, ?_⟩
  simp only [srcEnumS, bnd] at o
  cases e1 : fa ρ with
  | stuck => rw [e1] at o; exact o
  | exc x ρ1 => rw [e1] at o; exact o
  | ok ev ρ1 =>
    simp only [e1] at o
    intro v Z1 H1 S1 Sa st dj er1 r1
    split at o
    · rename_i x hx
      obtain rfl := str_of hx r1 er1
      exact ⟨x, rfl, o (ItES x) Z1 H1 S1 (st.less fun a x => .inl x) er1 (walk_enumS x)⟩
    · exact o.elim
theorem I_enumS {p tpos : Pos} {elts : List Expr} {kk : Nat} (hm : X.mg "enumerate" = none) (h : PE X e (tE X.K X.mg W fa)) (hg : Gl X "enumerate" := by rfl) (hs : starEach [e] X.env = [(false, eval e X.env)] := by rfl) :
    PI X (.Tuple elts kk tpos) (.Call (.Name "enumerate" p) [e] [] pos) (tI X.K X.mg W (srcEnumS fa)) := PI.of (pi_enumS hg hm h hs) fun _ _ _ q => tI_enumS q
end
end Pm
namespace Pm
open PySem PySem.Spec PyProof.Rows L2
/-- a small thing: at most n deep, numbers of at most two hundred bits -/
def low : Nat → D → Bool
  | _, .non => true
  | _, .bl _ => true
  | _, .int i => decide (i.natAbs.log2 < 200)
  | _, .str x => PyData.strOk x
  | n + 1, .node _ .lst xs => xs.all (low n)
  | n + 1, .node _ .tup xs => xs.all (low n)
  | _, _ => false
theorem low_shp : ∀ (n : Nat) (d : D), low n d = true → shp n d = true
  | _, .non, _ => by unfold shp; rfl
  | _, .bl _, _ => by unfold shp; rfl
  | _, .int _, _ => by unfold shp; rfl
  | n, .str x, h => by cases n <;> simpa [low, shp] using h
  | n, .op _, h => by cases n <;> simp [low] at h
  | 0, .node _ k xs, h => by cases k <;> simp [low] at h
  | n + 1, .node o k xs, h => by
    cases k with
    | lst => simp only [low, List.all_eq_true] at h; simp only [shp, List.all_eq_true]; exact fun x hx => low_shp n x (h x hx)
    | tup => simp only [low, List.all_eq_true] at h; simp only [shp, List.all_eq_true]; exact fun x hx => low_shp n x (h x hx)
    | scr => simp [low] at h
    | dct ks => simp [low] at h
    | obj C fs => simp [low] at h
    | ins C fs => simp [low] at h
theorem low_shw : ∀ (n : Nat) (d : D), low n d = true → shw n d = true
  | _, .non, _ => by unfold shw; rfl
  | _, .bl _, _ => by unfold shw; rfl
  | n, .int i, h => by
    have h' : i.natAbs.log2 < 200 := by cases n <;> simpa [low] using h
    cases n <;> exact decide_eq_true (Nat.lt_trans h' (by decide))
  | n, .str x, h => by unfold shw; rfl
  | n, .op _, h => by cases n <;> simp [low] at h
  | 0, .node _ k xs, h => by cases k <;> simp [low] at h
  | n + 1, .node o k xs, h => by
    cases k with
    | lst => simp only [low, List.all_eq_true] at h; simp only [shw, List.all_eq_true]; exact fun x hx => low_shw n x (h x hx)
    | tup => simp only [low, List.all_eq_true] at h; simp only [shw, List.all_eq_true]; exact fun x hx => low_shw n x (h x hx)
    | scr => simp [low] at h
    | dct ks => simp [low] at h
    | obj C fs => simp [low] at h
    | ins C fs => simp [low] at h
theorem low_mono : ∀ {n m : Nat} {d : D}, low n d = true → n ≤ m → low m d = true
  | _, _, .non, _, _ => by unfold low; rfl
  | _, _, .bl _, _, _ => by unfold low; rfl
  | n, m, .int i, h, _ => by cases n <;> cases m <;> simpa [low] using h
  | n, m, .str x, h, _ => by cases n <;> cases m <;> simpa [low] using h
  | n, _, .op _, h, _ => by cases n <;> simp [low] at h
  | 0, _, .node _ k xs, h, _ => by cases k <;> simp [low] at h
  | n + 1, 0, .node _ k xs, _, l => by omega
  | n + 1, m + 1, .node o k xs, h, l => by
    cases k with
    | lst => simp only [low, List.all_eq_true] at h ⊢; exact fun x hx => low_mono (h x hx) (by omega)
    | tup => simp only [low, List.all_eq_true] at h ⊢; exact fun x hx => low_mono (h x hx) (by omega)
    | scr => simp [low] at h
    | dct ks => simp [low] at h
    | obj C fs => simp [low] at h
    | ins C fs => simp [low] at h
theorem int_short {i : Int} (h : i.natAbs.log2 < 200) : (PyData.shown (.int i)).length ≤ 201 := by
  have e := int_text_length_le (a := i) (k := 200) (by decide) h
  show (Str.ofString (toString i)).length ≤ 201
  rw [PySem.ofString_length]
  exact e
theorem leaves_all (B : Nat) : ∀ xs : List D, (∀ x ∈ xs, (toP x).leavesShort B = true) → PyData.leavesShortAll B (toPL xs) = true
  | [], _ => rfl
  | x :: xs, h => by
    simp only [toPL, PyData.leavesShortAll]
    rw [h x List.mem_cons_self, leaves_all B xs fun y hy => h y (List.mem_cons_of_mem _ hy)]
    rfl
theorem low_leaves : ∀ (n : Nat) (d : D), low n d = true → (toP d).leavesShort 201 = true
  | _, .non, _ => rfl
  | _, .bl _, _ => rfl
  | n, .int i, h => by
    have h' : i.natAbs.log2 < 200 := by cases n <;> simpa [low] using h
    exact decide_eq_true (int_short h')
  | n, .str x, h => by
    have h' : PyData.strOk x = true := by cases n <;> simpa [low] using h
    have h0 : x.cps.all (· < 0x110000) = true := h'
    show (x.cps.toList.all fun c => decide (c < 16 ^ 8)) = true
    rw [List.all_eq_true]
    intro c hc
    rw [Array.all_eq_true'] at h0
    have := h0 c (by simpa using hc)
    simp only [decide_eq_true_eq] at this ⊢
    exact Nat.lt_trans this (by decide)
  | n, .op _, h => by cases n <;> simp [low] at h
  | 0, .node _ k xs, h => by cases k <;> simp [low] at h
  | n + 1, .node o k xs, h => by
    cases k with
    | lst => simp only [low, List.all_eq_true] at h; simp only [toP, PyData.leavesShort]; exact leaves_all _ xs fun x hx => low_leaves n x (h x hx)
    | tup => simp only [low, List.all_eq_true] at h; simp only [toP, PyData.leavesShort]; exact leaves_all _ xs fun x hx => low_leaves n x (h x hx)
    | scr => simp [low] at h
    | dct ks => simp [low] at h
    | obj C fs => simp [low] at h
    | ins C fs => simp [low] at h
/-- how much a thing holds -/
def mass (d : D) : Nat := (toP d).bulk
theorem mass_bl (b : Bool) : mass (.bl b) = 0 := rfl
theorem mass_int (i : Int) : mass (.int i) = 0 := rfl
theorem mass_str (x : Str) : mass (.str x) = x.cps.size := rfl
theorem repr_low {n : Nat} {d : D} (h : low n d = true) (hn : n ≤ 60) (hm : mass d ≤ 4000) : opRepr [d] = some (.str (reprD d)) := by
  have h60 := low_mono h hn
  have h1 := low_shp 60 d h60
  have h2 := low_shw 60 d h60
  have h3 := PyData.shown_le_bulk 201 (by decide) (toP d) (low_leaves 60 d h60)
  have h4 : (reprD d).length ≤ cap := by
    show (toP d).shown.length ≤ 1000000
    have : (toP d).bulk ≤ 4000 := hm
    omega
  unfold opRepr
  split
  · rename_i i e
    obtain rfl := List.singleton_inj.mp e
    rw [if_pos h2]
  · rename_i d' _ e
    obtain rfl := List.singleton_inj.mp e
    rw [h1, h2, decide_eq_true h4]
    rfl
  · rename_i h' 
    exact absurd rfl (h' d)
theorem reprA_low {n : Nat} {d : D} (h : low n d = true) (hn : n ≤ 60) (hm : mass d ≤ 4000) : opReprA [d] = some (.str (reprD d)) := by
  rw [← repr_low h hn hm]
  unfold opReprA
  split
  · rename_i o ks xs e
    obtain rfl := List.singleton_inj.mp e
    cases n <;> simp [low] at h
  · rename_i o xs e
    obtain rfl := List.singleton_inj.mp e
    have hx : xs.any isDct = false := by
      cases n with
      | zero => simp [low] at h
      | succ n =>
        rw [List.any_eq_false]
        intro x hx
        have hl := List.all_eq_true.mp h x hx
        cases x with
        | node o k ys => cases k <;> cases n <;> simp [low, isDct] at hl ⊢
        | _ => simp [isDct]
    rw [hx]
    rfl
  · rename_i e
    rfl
def isStr : D → Bool
  | .str _ => true
  | _ => false
def isBl : D → Bool
  | .bl _ => true
  | _ => false
def isWhl : D → Bool
  | .int _ => true
  | .bl _ => true
  | _ => false
theorem isi_str {d : D} (h : (tyN d).isSome = true) : opIsi [d, .op (.ty "str")] = some (.bl (isStr d)) := by
  cases d with
  | node o k xs => cases k <;> first | rfl | cases h
  | op v => cases h
  | _ => rfl
theorem isi_bl {d : D} (h : (tyN d).isSome = true) : opIsi [d, .op (.ty "bool")] = some (.bl (isBl d)) := by
  cases d with
  | node o k xs => cases k <;> first | rfl | cases h
  | op v => cases h
  | _ => rfl
theorem isi_int {d : D} (h : (tyN d).isSome = true) : opIsi [d, .op (.ty "int")] = some (.bl (isWhl d)) := by
  cases d with
  | node o k xs => cases k <;> first | rfl | cases h
  | op v => cases h
  | _ => rfl
theorem asg_val {f : M EV} {ρ ρ1 : Env} {d : D} {i : Nat} (h : f ρ = .ok (.val d) ρ1) (hi : i < ρ1.length) : asg f (gN i) ρ = .ok .nx (ρ1.set i (some d)) := by
  simp [asg, bnd, h, use1, gN, hi]
theorem hAdd_ii (i j : Int) : hAdd [.int i, .int j] = some (.int (i + j)) := rfl
theorem hAdd_ss {x y : Str} (h : x.length + y.length ≤ cap) : hAdd [.str x, .str y] = some (.str (x ++ y)) := by
  show gAddS [.str x, .str y] = _
  unfold gAddS
  simp only [if_pos h]
theorem opGtA_ii (i j : Int) : opGtA [.int i, .int j] = some (.bl (decide (j < i))) := rfl
theorem ne_nil (o p : Bool) {xs : List D} (h : ∀ x ∈ xs, shp 59 x = true) : opNe [.node o .lst xs, .node p .lst []] = some (.bl (decide (xs ≠ []))) := by
  have h1 : shp 60 (.node o .lst xs) = true := by
    show xs.all (shp 59) = true
    rw [List.all_eq_true]
    exact h
  have h2 : shp 60 (.node p .lst []) = true := rfl
  show (if (shp 60 (.node o .lst xs) && shp 60 (.node p .lst [])) = true then some (D.bl !deq (.node o .lst xs) (.node p .lst [])) else none) = _
  rw [h1, h2]
  cases xs <;> rfl
theorem ne_ss (x y : Str) : opNe [.str x, .str y] = some (.bl (!(x == y))) := rfl
theorem eq_ss (x y : Str) : opEq [.str x, .str y] = some (.bl (x == y)) := rfl
end Pm
namespace Pm
open PySem PySem.Spec PyProof.Rows L2
/-- a whole number or None -/
def oD : Option Int → D
  | none => .non
  | some i => .int i
theorem oD_plain (o : Option Int) : (oD o).plain = true := by cases o <;> rfl
end Pm
namespace Pm
open PySem PySem.Spec PyProof.Rows L2
/-- m comes out without an exception, and Q holds of what it gives -/
@[irreducible] def Wp {α : Type} (m : M α) (ρ : Env) (Q : α → Env → Prop) : Prop := match m ρ with
  | .ok a ρ' => Q a ρ'
  | _ => False
theorem Wp.ok {α : Type} {m : M α} {ρ : Env} {Q : α → Env → Prop} (h : Wp m ρ Q) : ∃ a ρ', m ρ = .ok a ρ' ∧ Q a ρ' := by
  unfold Wp at h
  split at h
  · rename_i a ρ' e
    exact ⟨a, ρ', e, h⟩
  · exact h.elim
theorem Wp.of {α : Type} {m : M α} {ρ ρ' : Env} {a : α} {Q : α → Env → Prop} (e : m ρ = .ok a ρ') (h : Q a ρ') : Wp m ρ Q := by
  unfold Wp
  rw [e]
  exact h
theorem Wp.mono {α : Type} {m : M α} {ρ : Env} {Q R : α → Env → Prop} (h : Wp m ρ Q) (i : ∀ a ρ', Q a ρ' → R a ρ') : Wp m ρ R := by
  obtain ⟨a, ρ', e, q⟩ := h.ok
  exact .of e (i a ρ' q)
theorem wp_seq {a b : M Fl} {ρ : Env} {Q : Fl → Env → Prop} (h : ∀ K : Fl → Env → Prop, (∀ ρ', Wp b ρ' Q → K .nx ρ') → (∀ d ρ', Q (.rt d) ρ' → K (.rt d) ρ') → (∀ ρ', Q .bk ρ' → K .bk ρ') → (∀ ρ', Q .ct ρ' → K .ct ρ') → Wp a ρ K) : Wp (seq a b) ρ Q := by
  have h' := h (fun f ρ' => match f with | .nx => Wp b ρ' Q | f => Q f ρ') (fun _ q => q) (fun _ _ q => q) (fun _ q => q) (fun _ q => q)
  obtain ⟨f, ρ', e, q⟩ := h'.ok
  cases f with
  | nx =>
    obtain ⟨f2, ρ2, e2, q2⟩ := Wp.ok q
    exact .of (a := f2) (ρ' := ρ2) (by rw [seq_ok e, e2]) q2
  | bk => exact .of (a := .bk) (ρ' := ρ') (by unfold seq bnd; rw [e]; rfl) q
  | ct => exact .of (a := .ct) (ρ' := ρ') (by unfold seq bnd; rw [e]; rfl) q
  | rt d => exact .of (a := .rt d) (ρ' := ρ') (by unfold seq bnd; rw [e]; rfl) q
theorem wp_end {a : M Fl} {ρ : Env} {Q : Fl → Env → Prop} (h : ∀ K : Fl → Env → Prop, (∀ ρ', Q .nx ρ' → K .nx ρ') → (∀ d ρ', Q (.rt d) ρ' → K (.rt d) ρ') → (∀ ρ', Q .bk ρ' → K .bk ρ') → (∀ ρ', Q .ct ρ' → K .ct ρ') → Wp a ρ K) : Wp a ρ Q :=
  h Q (fun _ q => q) (fun _ _ q => q) (fun _ q => q) fun _ q => q
theorem wp_ite {c : M Bool} {a b : M Fl} {ρ : Env} {Q : Fl → Env → Prop} (h : Wp c ρ fun t ρ' => (t = true → Wp a ρ' Q) ∧ (t = false → Wp b ρ' Q)) : Wp (Pm.ite c a b) ρ Q := by
  obtain ⟨t, ρ', e, q1, q2⟩ := h.ok
  cases t with
  | true =>
    obtain ⟨f, ρ2, e2, q⟩ := (q1 rfl).ok
    exact .of (by rw [ite_T e, e2]) q
  | false =>
    obtain ⟨f, ρ2, e2, q⟩ := (q2 rfl).ok
    exact .of (by rw [ite_F e, e2]) q
/-- what a turn leaves -/
def Tn (J : Env → Prop) (Q : Fl → Env → Prop) : Fl → Env → Prop
  | .nx, ρ => J ρ
  | .ct, ρ => J ρ
  | .bk, ρ => Q .nx ρ
  | .rt d, ρ => Q (.rt d) ρ
theorem wp_forIt {g : Tg} {b : M Fl} {Q : Fl → Env → Prop} : ∀ {ds : List D} (I : Nat → Env → Prop),
    (∀ (j : Nat) (d : D) (ρ : Env), ds[j]? = some d → I j ρ → ∃ ρ1, g d ρ = .ok () ρ1 ∧ Wp b ρ1 (Tn (I (j + 1)) Q)) → (∀ ρ, I ds.length ρ → Q .nx ρ) → ∀ ρ, I 0 ρ → Wp (forIt g b ds) ρ Q
  | [], I, _, he, ρ, h0 => .of (a := .nx) (ρ' := ρ) rfl (he ρ h0)
  | d :: ds, I, hs, he, ρ, h0 => by
    obtain ⟨ρ1, e1, w⟩ := hs 0 d ρ rfl h0
    obtain ⟨f, ρ2, e2, q⟩ := w.ok
    have rest : I 1 ρ2 → Wp (forIt g b ds) ρ2 Q := fun i1 => wp_forIt (fun j => I (j + 1)) (fun j d' ρ' hd hi => hs (j + 1) d' ρ' (by simpa using hd) hi) (fun ρ' hi => he ρ' hi) ρ2 i1
    cases f with
    | nx =>
      obtain ⟨f3, ρ3, e3, q3⟩ := (rest q).ok
      exact .of (a := f3) (ρ' := ρ3) (by rw [forIt]; simp only [e1]; unfold bnd; rw [e2]; exact e3) q3
    | ct =>
      obtain ⟨f3, ρ3, e3, q3⟩ := (rest q).ok
      exact .of (a := f3) (ρ' := ρ3) (by rw [forIt]; simp only [e1]; unfold bnd; rw [e2]; exact e3) q3
    | bk => exact .of (Q := Q) (a := .nx) (ρ' := ρ2) (by rw [forIt]; simp only [e1]; unfold bnd; rw [e2]; rfl) (show Q .nx ρ2 from q)
    | rt d' => exact .of (Q := Q) (a := .rt d') (ρ' := ρ2) (by rw [forIt]; simp only [e1]; unfold bnd; rw [e2]; rfl) (show Q (.rt d') ρ2 from q)
/-- for: the invariant I speaks of the turns done -/
theorem wp_for {s : M (List D)} {g : Tg} {b : M Fl} {Q : Fl → Env → Prop} {ρ ρ1 : Env} {ds : List D} (hs : s ρ = .ok ds ρ1) (I : Nat → Env → Prop) (h0 : I 0 ρ1)
    (ht : ∀ (j : Nat) (d : D) (ρ : Env), ds[j]? = some d → I j ρ → ∃ ρ1, g d ρ = .ok () ρ1 ∧ Wp b ρ1 (Tn (I (j + 1)) Q)) (he : ∀ ρ, I ds.length ρ → Q .nx ρ) : Wp (forS s g b) ρ Q := by
  obtain ⟨f, ρ2, e, q⟩ := (wp_forIt I ht he ρ1 h0).ok
  exact .of (by rw [forS_of hs, e]) q
/-- while: the invariant I bears a measure -/
theorem wp_whl {c : M Bool} {b : M Fl} {Q : Fl → Env → Prop} (I : Nat → Env → Prop)
    (ht : ∀ (n : Nat) (ρ : Env), I n ρ → Wp c ρ fun t ρ1 => (t = true → Wp b ρ1 (Tn (fun ρ2 => ∃ m, m < n ∧ I m ρ2) Q)) ∧ (t = false → Q .nx ρ1)) : ∀ (n : Nat) (ρ : Env), I n ρ → Wp (whl c b) ρ Q := by
  intro n
  induction n using Nat.strongRecOn with
  | ind n ih =>
    intro ρ hi
    obtain ⟨t, ρ1, e1, q1, q2⟩ := (ht n ρ hi).ok
    cases t with
    | false => exact .of (a := .nx) (ρ' := ρ1) (whl_F e1) (q2 rfl)
    | true =>
      obtain ⟨f, ρ2, e2, q⟩ := (q1 rfl).ok
      cases f with
      | nx =>
        obtain ⟨m, hm, im⟩ := q
        obtain ⟨f3, ρ3, e3, q3⟩ := (ih m hm ρ2 im).ok
        exact .of (a := f3) (ρ' := ρ3) (by rw [whl_T e1 e2, e3]) q3
      | ct =>
        obtain ⟨m, hm, im⟩ := q
        obtain ⟨f3, ρ3, e3, q3⟩ := (ih m hm ρ2 im).ok
        exact .of (a := f3) (ρ' := ρ3) (by rw [whl_C e1 e2, e3]) q3
      | bk => exact .of (Q := Q) (a := .nx) (ρ' := ρ2) (by rw [whl_eq, e1]; simp only [e2]) (show Q .nx ρ2 from q)
      | rt d => exact .of (Q := Q) (a := .rt d) (ρ' := ρ2) (by rw [whl_eq, e1]; simp only [e2]) (show Q (.rt d) ρ2 from q)
/-- what a def comes to -/
def Wf (S : FSem) (as : List D) (Q : D → List D → Prop) : Prop := ∃ d bs, S as = .ret d bs ∧ Q d bs
/-- how a body ends a def -/
def Fin (reb : List Nat) (ds : List D) (Q : D → List D → Prop) : Fl → Env → Prop
  | .nx, ρ => ∃ as, argsBack reb ρ 0 (reFrz reb 0 ds) = some as ∧ Q .non as
  | .rt d, ρ => ∃ as, argsBack reb ρ 0 (reFrz reb 0 ds) = some as ∧ Q d as
  | _, _ => False
theorem wf_mkF {n m : Nat} {reb : List Nat} {b : M Fl} {ds : List D} {Q : D → List D → Prop} (h : Wp b ((reFrz reb 0 ds).map some ++ List.replicate (m - n) none) (Fin reb ds Q)) (hl : ds.length = n ∧ n ≤ m := by exact ⟨rfl, by decide⟩) : Wf (mkF n m reb b) ds Q := by
  obtain ⟨f, ρ, e, q⟩ := h.ok
  cases f with
  | nx =>
    obtain ⟨as, ha, qa⟩ := q
    exact ⟨.non, as, by unfold mkF; rw [if_pos hl, e]; simp only [ha], qa⟩
  | rt d =>
    obtain ⟨as, ha, qa⟩ := q
    exact ⟨d, as, by unfold mkF; rw [if_pos hl, e]; simp only [ha], qa⟩
  | bk => exact q.elim
  | ct => exact q.elim
/-- a comprehension: the invariant I speaks of the turns done, the slots and what is made -/
theorem compIt_wp {own : List Nat} {g : Tg} {c : M Bool} {e : M EV} : ∀ {ds : List D} (I : Nat → Env → List D → Prop) (acc : List D) (ρ : Env), I 0 ρ acc → acc.length + ds.length ≤ cap →
    (∀ (j : Nat) (d : D) (ρ : Env) (acc : List D), ds[j]? = some d → I j ρ acc → ∃ ρ1, g d ρ = .ok () ρ1 ∧ Wp c ρ1 fun t ρ2 => (t = true → Wp e ρ2 fun ev ρ3 => ∃ d' ρ4, use1 ev ρ3 = .ok d' ρ4 ∧ I (j + 1) (wipeE ρ4 own) (acc ++ [d'])) ∧ (t = false → I (j + 1) (wipeE ρ2 own) acc)) →
    ∃ acc' ρ', compIt own g c e ds ρ acc = .ok acc' ρ' ∧ I ds.length ρ' acc'
  | [], I, acc, ρ, h0, _, _ => ⟨acc, ρ, rfl, h0⟩
  | d :: ds, I, acc, ρ, h0, hl, ht => by
    rw [List.length_cons] at hl
    obtain ⟨ρ1, e1, w⟩ := ht 0 d ρ acc rfl h0
    obtain ⟨t, ρ2, e2, q1, q2⟩ := w.ok
    have ht' : ∀ (j : Nat) (d : D) (ρ : Env) (acc : List D), ds[j]? = some d → I (j + 1) ρ acc → _ := fun j d' ρ' acc' hd hi => ht (j + 1) d' ρ' acc' (by simpa using hd) hi
    cases t with
    | true =>
      obtain ⟨ev, ρ3, e3, d', ρ4, e4, hi⟩ := (q1 rfl).ok
      obtain ⟨acc', ρ', e5, q⟩ := compIt_wp (fun j => I (j + 1)) (acc ++ [d']) (wipeE ρ4 own) hi (by rw [List.length_append, List.length_singleton]; omega) ht'
      exact ⟨acc', ρ', by rw [compIt]; simp only [e1, e2, e3, e4]; rw [if_pos (by omega), e5], q⟩
    | false =>
      obtain ⟨acc', ρ', e5, q⟩ := compIt_wp (fun j => I (j + 1)) acc (wipeE ρ2 own) (q2 rfl) (by omega) ht'
      exact ⟨acc', ρ', by rw [compIt]; simp only [e1, e2]; rw [e5], q⟩
theorem comp_wp {own : List Nat} {s : M (List D)} {g : Tg} {c : M Bool} {e : M EV} {ρ ρ1 : Env} {ds : List D} (hs : s ρ = .ok ds ρ1) (I : Nat → Env → List D → Prop) (h0 : I 0 (wipeE ρ1 own) []) (hl : ds.length ≤ cap)
    (ht : ∀ (j : Nat) (d : D) (ρ : Env) (acc : List D), ds[j]? = some d → I j ρ acc → ∃ ρ1, g d ρ = .ok () ρ1 ∧ Wp c ρ1 fun t ρ2 => (t = true → Wp e ρ2 fun ev ρ3 => ∃ d' ρ4, use1 ev ρ3 = .ok d' ρ4 ∧ I (j + 1) (wipeE ρ4 own) (acc ++ [d'])) ∧ (t = false → I (j + 1) (wipeE ρ2 own) acc)) :
    ∃ acc ρ', comp own s g c e ρ = .ok (.val (.lst true acc)) (backE ρ1 ρ' own) ∧ I ds.length ρ' acc := by
  obtain ⟨acc, ρ', e, q⟩ := compIt_wp I [] _ h0 (by rw [List.length_nil]; omega) ht
  exact ⟨acc, ρ', comp_of hs e, q⟩
/-- a comprehension that leaves the slots: each item gives one or none -/
theorem comp_fm {own : List Nat} {s : M (List D)} {g : Tg} {c : M Bool} {e : M EV} {ρ ρ1 : Env} {ds : List D} (F : D → Option D) (hs : s ρ = .ok ds ρ1) (hw : wipeE ρ1 own = ρ1) (hb : backE ρ1 ρ1 own = ρ1) (hl : ds.length ≤ cap)
    (ht : ∀ d ∈ ds, ∃ ρ2, g d ρ1 = .ok () ρ2 ∧ Wp c ρ2 fun t ρ3 => (t = true → Wp e ρ3 fun ev ρ4 => ∃ d' ρ5, use1 ev ρ4 = .ok d' ρ5 ∧ F d = some d' ∧ wipeE ρ5 own = ρ1) ∧ (t = false → F d = none ∧ wipeE ρ3 own = ρ1)) :
    comp own s g c e ρ = .ok (.val (.lst true (ds.filterMap F))) ρ1 := by
  obtain ⟨acc, ρ', e1, rfl, rfl⟩ := comp_wp hs (fun j ρ acc => ρ = ρ1 ∧ acc = (ds.take j).filterMap F) ⟨hw, by simp⟩ hl fun j d ρ acc hd ⟨er, ea⟩ => by
    subst er
    obtain ⟨ρ2, e2, w⟩ := ht d (List.mem_of_getElem? hd)
    have tk : ds.take (j + 1) = ds.take j ++ [d] := by
      rw [List.take_add_one, hd]
      rfl
    refine ⟨ρ2, e2, w.mono fun t ρ3 ⟨q1, q2⟩ => ⟨fun h => (q1 h).mono fun ev ρ4 ⟨d', ρ5, e5, hF, hw5⟩ => ⟨d', ρ5, e5, hw5, ?_⟩, fun h => ⟨(q2 h).2, ?_⟩⟩⟩
    · rw [tk, List.filterMap_append, ea]
      simp [hF]
    · rw [tk, List.filterMap_append, ea]
      simp [(q2 h).1]
  rw [e1, hb, List.take_length]
/-- the same without tests -/
theorem comp_map {own : List Nat} {s : M (List D)} {g : Tg} {c : M Bool} {e : M EV} {ρ ρ1 : Env} {ds : List D} (F : D → D) (hs : s ρ = .ok ds ρ1) (hw : wipeE ρ1 own = ρ1) (hb : backE ρ1 ρ1 own = ρ1) (hl : ds.length ≤ cap)
    (ht : ∀ d ∈ ds, ∃ ρ2, g d ρ1 = .ok () ρ2 ∧ Wp c ρ2 fun t ρ3 => t = true ∧ Wp e ρ3 fun ev ρ4 => ∃ ρ5, use1 ev ρ4 = .ok (F d) ρ5 ∧ wipeE ρ5 own = ρ1) :
    comp own s g c e ρ = .ok (.val (.lst true (ds.map F))) ρ1 := by
  have h := comp_fm (own := own) (g := g) (c := c) (e := e) (fun d => some (F d)) hs hw hb hl fun d hd => by
    obtain ⟨ρ2, e2, w⟩ := ht d hd
    refine ⟨ρ2, e2, w.mono fun t ρ3 ⟨h1, q⟩ => ⟨fun _ => q.mono fun ev ρ4 ⟨ρ5, e5, hw5⟩ => ⟨_, ρ5, e5, rfl, hw5⟩, fun h2 => by rw [h1] at h2; cases h2⟩⟩
  rw [h]
  congr 4
  induction ds with
  | nil => rfl
  | cons d ds ih => simp
end Pm
set_option maxHeartbeats 2000000
namespace Pm
open PySem PySem.HandSPX
open PySem.Builtin PySem.Builtin.ObjectAttr
/-- what is asked of the built-in class: BN gives __new__ -/
structure XF (BN newId initId : String) (bmN bmB : List Value) : Prop where
  new : ExcBaseFacts BN newId initId bmN
  has : bmB.contains (.type BN) = true
  noA : bmB.contains (.type "AttributeError") = false
  noN : bmB.contains (.type "NameError") = false
  obj : bmB.contains (.type "object") = true
  ne : bmB.isEmpty = false
  pass : ∀ self : Value, refuseLoop self "__setattr__" bmB = pure ()
/-- own classes, then the built-in tail -/
def tailR (bmB : List Value) : List Value → Bool
  | .ref _ :: r => tailR bmB r
  | l => l == bmB
section
variable {bmB : List Value}
theorem tailR_cases : ∀ l : List Value, tailR bmB l = true → (∃ c r, l = .ref c :: r ∧ tailR bmB r = true) ∨ l = bmB
  | [], e => .inr (beq_iff_eq.mp e)
  | .ref c :: r, e => .inl ⟨c, r, rfl, e⟩
  | .none :: _, e => .inr (beq_iff_eq.mp e)
  | .ellipsis :: _, e => .inr (beq_iff_eq.mp e)
  | .notImplemented :: _, e => .inr (beq_iff_eq.mp e)
  | .bool _ :: _, e => .inr (beq_iff_eq.mp e)
  | .int _ _ :: _, e => .inr (beq_iff_eq.mp e)
  | .float _ _ :: _, e => .inr (beq_iff_eq.mp e)
  | .str _ _ :: _, e => .inr (beq_iff_eq.mp e)
  | .bytes _ _ :: _, e => .inr (beq_iff_eq.mp e)
  | .type _ :: _, e => .inr (beq_iff_eq.mp e)
  | .builtin _ :: _, e => .inr (beq_iff_eq.mp e)
theorem tailR_all {P : List Value → Prop} (h0 : P bmB) (h1 : ∀ c r, P r → P (.ref c :: r)) : ∀ l : List Value, tailR bmB l = true → P l := by
  intro l
  induction l with
  | nil =>
    intro e
    rcases tailR_cases [] e with ⟨c, r, q, _⟩ | q
    · cases q
    · rw [q]; exact h0
  | cons a r ih =>
    intro e
    rcases tailR_cases (a :: r) e with ⟨c, r', q, h⟩ | q
    · obtain ⟨rfl, rfl⟩ := List.cons.inj q
      exact h1 c r (ih h)
    · rw [q]; exact h0
theorem tailR_has {X : String} {l : List Value} (h : tailR bmB l = true) : l.contains (.type X) = bmB.contains (.type X) :=
  tailR_all (P := fun l => l.contains (.type X) = bmB.contains (.type X)) rfl (fun c r q => by rw [List.contains_cons, q]; rfl) l h
theorem tailR_ne {l : List Value} (h : tailR bmB l = true) (hn : bmB.isEmpty = false) : l.isEmpty = false :=
  tailR_all (P := fun l => l.isEmpty = false) hn (fun c r q => rfl) l h
theorem tailR_pass {l : List Value} (h : tailR bmB l = true) (hp : ∀ self : Value, refuseLoop self "__setattr__" bmB = pure ()) (self : Value) : refuseLoop self "__setattr__" l = pure () :=
  tailR_all (P := fun l => refuseLoop self "__setattr__" l = pure ()) (hp self) (fun c r q => by rw [refuseLoop_ref]; exact q) l h
end
section
variable {prog : Program} {w : World} {A : Around} {E : Value → Shared → Prop} {R : Result → Shared → Prop} {h : Heap} {g : Array GenState} {d : Drawn} {t : Nat} {os : OsState}
variable {nm q : Str} {C N : Addr} {bs bm bmN bmB : List Value} {hdct : Bool} {sn : List Str} {sub : List Value} {ab : Bool} {col : Option Bool} {dd : Option Addr} {k0 k1 k2 k3 k5 : Option Value} {B newId initId : String}
theorem xf_check (F : XF B newId initId bmN bmB) (hT : tailR bmB bm = true) {M : Model} {rest : List Value} {Q : Unit → Shared → Prop}
    (hC : h.get? C = some (excClassObj nm q C N bs bm hdct sn sub ab col dd k0 k1 k2 k3 k5 newId)) (hq : Q () ⟨h, g, d, t, os⟩) : wpAny M A (checkBuiltinCall newId ⟨.ref C :: rest, []⟩) Q E ⟨h, g, d, t, os⟩ := by
  have hcont : (Value.ref C :: bm).contains (.type B) = true := by rw [List.contains_cons, tailR_has hT, F.has, Bool.or_true]
  have hstar := F.new.noStar
  simp only [checkBuiltinCall, F.new.newKind, F.new.newSplit, F.new.newRow]
  repeat (first | refine wpAny_loadPart_at hC ?_ | (refine wpAny_isSubtype_exc hC ?_; rw [hcont]) | refine wpAny_staticBase_exc hC ?_ | refine wpAny_madeBy_exc hC ?_ | simp only [bne_self_eq_false, Bool.false_eq_true, if_false] | wp_step)
  exact hq
theorem xf_new (F : XF B newId initId bmN bmB) (hT : tailR bmB bm = true) {rest : List Value}
    (hC : h.get? C = some (excClassObj nm q C N bs bm hdct sn sub ab col dd k0 k1 k2 k3 k5 newId))
    (hq : R (.ok (.ret (.ref (h.objs.size + 1)))) ⟨(h.push { cls := .type "tuple", data := .seq rest.toArray }).push
      { cls := .ref C, data := .fields #[.ref h.objs.size, .none, .none, .none, .bool false, .none] }, g, d, t, os⟩) (hrest : rest.length ≤ sizeLine) :
    codeAny (model prog w) A (.builtin newId ⟨.ref C :: rest, []⟩) R ⟨h, g, d, t, os⟩ := by
  have hends := F.new.ends
  have hcB : (Value.ref C :: bm).contains (.type B) = true := by rw [List.contains_cons, tailR_has hT, F.has, Bool.or_true]
  have hcA : (Value.ref C :: bm).contains (.type "AttributeError") = false := by rw [List.contains_cons, tailR_has hT, F.noA]; rfl
  have hcN : (Value.ref C :: bm).contains (.type "NameError") = false := by rw [List.contains_cons, tailR_has hT, F.noN]; rfl
  refine codeAny_builtinAt F.new.entry ?_
  unfold Builtin.«BaseException.__new__»
  refine wpAt_bind ?_
  show wpAt _ _ _ (stack >>= _) _ _ _
  refine wpAt_bind (wpAt_stack fun p below => wpAt_of_wpAny ?_)
  wp_walk
  refine wpAt_of_wpAny ?_
  rw [F.new.owner]
  repeat (first | with_reducible refine wpAny_madeHere_exc F.new.canon hC ?_ | with_reducible refine wpAny_loadPart_at hC ?_ | (with_reducible refine wpAny_isSubtype_exc hC ?_; first | rw [hcB] | rw [hcA] | rw [hcN]) | wp_step)
  show R _ _
  rw [Heap.size_push]
  exact hq
theorem xf_type (F : XF B newId initId bmN bmB) (hT : tailR bmB bm = true) {rest : List Value} {fI : Addr} {Q : PySem.Fin → Shared → Prop}
    (hC : h.get? C = some (excClassObj nm q C N bs bm hdct sn sub ab col dd k0 k1 k2 k3 k5 newId))
    (hi : W.Looks (model prog w) h (typeLookup (.ref C) "__init__") (some (.ref fI))) (hb : ∀ self, W.Looks (model prog w) h (bindSpecial (.ref fI) self) (.ref fI, [self])) (hrest : rest.length ≤ sizeLine)
    (hq : codeAny (model prog w) A (.call (.ref fI) ⟨.ref (h.objs.size + 1) :: rest, []⟩)
      (fun r s' => match r with | .ok (.ret v) => v = .none ∧ Q (.done (.ret (.ref (h.objs.size + 1)))) s' | .ok _ => False | .error e => E e s')
      ⟨(h.push (W.kdv_tup rest)).push (excO C h.objs.size), g, d, t, os⟩) :
    wpAny (model prog w) A (Builtin.«type.__call__» ⟨.ref C :: rest, []⟩) Q E ⟨h, g, d, t, os⟩ := by
  repeat (first | with_reducible refine wpAny_loadPart_at hC ?_ | with_reducible refine wpAny_madeBy_exc hC ?_ | wp_step)
  refine codeAny_call_builtin_code (Code.quiet_builtin _ F.new.quiet) (xf_check F hT hC ?_)
  refine xf_new F hT hC ?_ hrest
  show wpAny _ _ _ _ _ _
  have k : ∀ b o, h.get? b = some o → ((h.push (W.kdv_tup rest)).push (excO C h.objs.size)).get? b = some o := fun b o e => Heap.get?_push_of_some _ (Heap.get?_push_of_some _ e)
  have hC₁ := k _ _ hC
  have hget : ((h.push (W.kdv_tup rest)).push (excO C h.objs.size)).get? (h.objs.size + 1) = some (excO C h.objs.size) := by heap_get
  have hcC : (Value.ref C :: bm).contains (.ref C) = true := by simp
  have i1 := hi.keeps k
  have b1 := (hb (.ref (h.objs.size + 1))).keeps k
  unfold isInstance
  repeat (first | with_reducible refine wpAny_loadPart_at hget ?_ | (with_reducible refine wpAny_isSubtype_exc hC₁ ?_; rw [hcC]) | wp_step)
  show wpAny _ _ (typeLookup (.ref C) _) _ _ _
  refine i1.at ?_
  refine wpAny_holding (wpAny_bind (b1.at ?_))
  refine wpAny_bind (wpAny_call (codeAny_mono hq fun r s' z => ?_))
  rcases r with e | (v | _ | _ | _) <;> first | exact z | exact z.elim | skip
  obtain ⟨rfl, z⟩ := z
  first
    | exact wpAny_pure (wpAny_pure z)
    | (wp_walk; exact z)
theorem xf_call (F : XF B newId initId bmN bmB) (hT : tailR bmB bm = true) {rest : List Value} {fI : Addr}
    (hC : h.get? C = some (excClassObj nm q C N bs bm hdct sn sub ab col dd k0 k1 k2 k3 k5 newId))
    (hi : W.Looks (model prog w) h (typeLookup (.ref C) "__init__") (some (.ref fI))) (hb : ∀ self, W.Looks (model prog w) h (bindSpecial (.ref fI) self) (.ref fI, [self])) (hrest : rest.length ≤ sizeLine)
    (hq : codeAny (model prog w) (A.under (.builtin "type.__call__" ⟨.ref C :: rest, []⟩)) (.call (.ref fI) ⟨.ref (h.objs.size + 1) :: rest, []⟩) (W.InitBack (h.objs.size + 1) R)
      ⟨(h.push (W.kdv_tup rest)).push (excO C h.objs.size), g, d, t, os⟩) :
    codeAny (model prog w) A (.call (.ref C) ⟨rest, []⟩) R ⟨h, g, d, t, os⟩ := by
  have f1 := tc_lookup
  have f2 := tc_bind (.ref C)
  have hTy : (⟨h, g, d, t, os⟩ : Shared).TypeIs (.ref C) "type" := ⟨_, hC, rfl⟩
  refine codeAny_of_tree ?_
  show wpAny _ _ (callAny (.ref C) _) _ _ _
  repeat (any_goals (first | assumption | with_reducible refine wpAny_loadPart_at hC ?_ | wp_step))
  refine ⟨rfl, ?_⟩
  refine codeAny_call_builtin_at (Code.quiet_builtin _ (by decide +kernel)) entry_typeCall (wpAny_check_type_call_sub hC (xf_type F hT hC hi hb hrest ?_))
  refine codeAny_mono hq fun r s' z => ?_
  rcases r with e | (v | _ | _ | _) <;> exact z
end
end Pm
set_option maxHeartbeats 2000000
namespace Pm
open PySem PySem.HandSPX
open PySem.Builtin PySem.Builtin.ObjectAttr
abbrev tlLookup : List Value := [.type "LookupError", .type "Exception", .type "BaseException", .type "object"]
abbrev tlKey : List Value := [.type "KeyError", .type "LookupError", .type "Exception", .type "BaseException", .type "object"]
abbrev tlValue : List Value := [.type "ValueError", .type "Exception", .type "BaseException", .type "object"]
theorem xf_key : XF "LookupError" "LookupError.__new__" "LookupError.__init__" tlLookup tlKey := ⟨PySem.F.excBase_LookupError, by decide +kernel, by decide +kernel, by decide +kernel, by decide +kernel, rfl, fun self => by kernel_rfl⟩
theorem xf_value : XF "ValueError" "ValueError.__new__" "ValueError.__init__" tlValue tlValue := ⟨PySem.F.excBase_ValueError, by decide +kernel, by decide +kernel, by decide +kernel, by decide +kernel, rfl, fun self => by kernel_rfl⟩
section
variable {prog : Program} {w : World} {A : Around} {E : Value → Shared → Prop} {R : Result → Shared → Prop} {hp : Heap} {g : Array GenState} {d : Drawn} {t : Nat} {os : OsState}
/-- self.f = v on an exception without a dict -/
theorem xf_store {K : W.Frag} {name : Str} {tk : Tok} {v : Value} {x C : Addr} {fv : Array Value} {cd : ClassData} {bmB : List Value}
    (X : K.In hp) (hx : hp.get? x = some { cls := .ref C, data := .fields fv }) (hcd : W.clsIn K C = some cd) (hm : tailR bmB cd.mro = true) (hn : bmB.isEmpty = false) (hob0 : bmB.contains (.type "object") = true) (hps : ∀ self : Value, refuseLoop self "__setattr__" bmB = pure ()) (hh : cd.hasDict = true) (ha : W.findIn K (.ref C) name = some none)
    (hq : ∀ h' tk' dx, (∀ b o, b ≠ x → hp.get? b = some o → h'.get? b = some o) → hp.objs.size ≤ dx → dx ≠ x → h'.get? x = some { cls := .ref C, dict := some dx, data := .fields fv } →
      h'.Ns1 dx (fun y => if y = name then some v else none) → R (.ok (.ret .none)) ⟨h', g, d, tk', os⟩) :
    codeAny (model prog w) A (.call (.builtin "object.__setattr__") ⟨[.ref x, .str name tk, v], []⟩) R ⟨hp, g, d, t, os⟩ := by
  have I : W.InstAt hp x { cls := .ref C, data := .fields fv } C none := ⟨hx, rfl, rfl, trivial⟩
  have SF := F.store_object
  have ne := tailR_ne hm hn
  have hob : cd.mro.contains (.type "object") = true := (tailR_has hm).trans hob0
  have hxs : x ≠ hp.objs.size := Nat.ne_of_lt (Heap.lt_size hx)
  have sub : W.Looks (model prog w) hp (isInstance (.ref x) (.type "object")) true := I.type.andThen (W.looks_mroIn X (by unfold W.mroIn; rw [hcd, Option.bind_some, if_neg (by rw [ne]; decide), hob]))
  refine codeAny_call_builtin SF.slot.plain SF.entry (@W.check_slot (model prog w) _ _ ⟨hp, g, d, t, os⟩ "object.__setattr__" "object" "__setattr__" (.ref x) [.str name tk, v] [] _ SF.kind SF.split sub (SF.args (.ref x) (.str name tk) v) ?_)
  have hmr : W.Looks (model prog w) hp (mroOf (.ref C)) cd.mro := (W.looks_clsIn X hcd).andThen .now
  have L3 : W.Looks (model prog w) hp (storeTaker? none) none := .now
  have hcls : W.Looks (model prog w) hp (classData C) cd := W.looks_clsIn X hcd
  rw [W.osa_eq, refuse_eq]
  refine wpAny_bind (wpAny_bind (I.type.at (wpAny_bind (hmr.at ?_))))
  rw [tailR_pass hm hps]
  refine wpAny_pure (wpAny_bind (I.type.at (wpAny_bind ((W.looks_findIn X ha).at (wpAny_bind (L3.at ?_))))))
  show wpAny _ _ (storeInOwnDict (.ref x) (.ref C) (.str name tk) name v false) _ _ _
  obtain ⟨nm, bs, mro, ns, qn, hd, sn, sb, ab, col, del⟩ := cd
  dsimp only at hh
  subst hh
  unfold storeInOwnDict ownDictForStores
  repeat (first | with_reducible refine store_in_new ?_ ?_ | with_reducible refine wpAny_loadPart_at hx ?_ | with_reducible refine hcls.at ?_ | wp_step)
  · exact ⟨_, #[], _, (Heap.get?_update_ne _ _ _ _ hxs.symm).trans (Heap.get?_push_at rfl rfl), rfl, fun e he => absurd he (by simp), fun _ => rfl⟩
  · intro h' tk' hn' hs
    have hx₁ : (hp.push { cls := .type "dict", data := .dict #[] }).get? x = some { cls := .ref C, data := .fields fv } := Heap.get?_push_of_some _ hx
    refine hq h' tk' hp.objs.size (fun b o hb ho => ?_) (Nat.le_refl _) hxs.symm ?_ hn'
    · exact (hs.2 b (Nat.ne_of_lt (Heap.lt_size ho))).trans ((Heap.get?_update_ne _ _ _ _ hb).trans (Heap.get?_push_of_some _ ho))
    · exact (hs.2 x hxs).trans (Heap.get?_update_self _ hx₁ rfl)
end
end Pm
set_option maxHeartbeats 2000000
namespace Pm
open PySem PySem.Spec PyProof.Rows L2
/-- what is known of the class at C: its __init__ at fI, its field f -/
structure XC (K : PySem.W.Frag) (C fI : Addr) (f : Str) : Prop where
  cls : ∃ nm q N bs bm sn sub ab col dd k0 k1 k2 k3 k5 BN newId initId bmN bmB, XF BN newId initId bmN bmB ∧ K.lookup C = some (excClassObj nm q C N bs bm true sn sub ab col dd k0 k1 k2 k3 k5 newId) ∧ tailR bmB bm = true
  sa : PySem.W.findIn K (.ref C) "__setattr__" = some (some (.builtin "object.__setattr__"))
  exC : PySem.W.subIn K (.ref C) (.type "BaseException") = some true
  tyC : PySem.W.typeIn K (.ref C) = some (.type "type")
  kC : PySem.W.keepIn K (.ref C) = true
  no : PySem.W.findIn K (.ref C) f = some none
  iC : PySem.W.findIn K (.ref C) "__init__" = some (some (.ref fI))
  tI : PySem.W.typeIn K (.ref fI) = some (.type "function")
section
variable {X : Cx} {pins : List (Addr × Obj)} {σ : L2.St} {H : Hp} {s : Shared} {a C fI dx : Addr} {f : Str} {y : V} {u : Value} {Q : Unit → Shared → Prop} {E : Value → Shared → Prop} {A : Around}
/-- self.f = y -/
theorem xc_store (T : XC X.K C fI f) (I : Inv X pins σ H s) (e : H a = some (exo a C none)) (ry : RelV y u)
    (h : ∀ dx s', H dx = none → dx ≠ a → Inv X pins σ (upd (upd H dx (exd dx [(f, y)])) a (exo a C (some dx))) s' → Q () s') : wpAny (model X.prog X.w) A (setAttr (.ref a) f u) Q E s := by
  obtain ⟨nm, q, N, bs, bm, sn, sub, ab, col, dd, k0, k1, k2, k3, k5, BN, newId, initId, bmN, bmB, F, hC, hbm⟩ := T.cls
  have hcl : PySem.W.clsIn X.K C = some { name := nm, bases := bs, mro := .ref C :: bm, ns := N, qualname := q, hasDict := true, slotNames := sn, subclasses := sub, abstract := ab, collection := col, hasDel := false } := by unfold PySem.W.clsIn; rw [hC] <;> rfl
  obtain ⟨t1, ho⟩ := exo_at I.hok e
  obtain ⟨hp, g, d, t, os⟩ := s
  refine PySem.W.set_plain I.kIn (ox := { cls := .ref C, dict := none, data := .fields #[.ref t1, .none, .none, .none, .bool false, .none] }) (od := none) ⟨ho, rfl, rfl, trivial⟩ T.sa ?_
  refine xf_store I.kIn ho hcl (show tailR bmB (.ref C :: bm) = true from hbm) F.ne F.obj F.pass rfl T.no (fun h' tk' dx k dn dne hx hn => ?_)
  have hnd : H dx = none := I.hok.fresh dn
  have nd : ∀ {b : Addr} {o : Obj}, hp.get? b = some o → b ≠ dx := fun {b o} q => Nat.ne_of_lt (Nat.lt_of_lt_of_le (Heap.lt_size q) dn)
  have na : ∀ {b : Addr}, H b = none → b ≠ a := fun {b} n z => by
    rw [z, e] at n
    cases n
  have Un1 : Un X.fs [] H (upd (upd H dx (exd dx [(f, y)])) a (exo a C (some dx))) hp h' := {
    keep := fun b o q n _ _ => k b o (na n) q
    slot := fun b o q n _ _ => ⟨o.slots, k b o (na n) q⟩
    free := fun b o q n _ => by rw [upd_ne (na n), upd_ne (nd q)]; exact n
    there := fun b o q _ => by
      by_cases hb : b = a
      · exact ⟨_, by rw [hb]; exact hx⟩
      · exact ⟨o, k b o hb q⟩
    tups := fun b xs q => by rw [upd_ne (at_ne e q exo_tup), upd_ne (ne_of_none q hnd)]; exact q
    frzs := fun b o v q => by rw [upd_ne (at_ne e q exo_frz), upd_ne (ne_of_none q hnd)]; exact q
    tbls := fun b ps q => ⟨#[], by rw [upd_ne (at_ne e q exo_tbl), upd_ne (ne_of_none q hnd), q]; simp⟩ }
  refine h dx _ hnd dne (I.un (t' := tk') Un1 fun b o q => ?_)
  by_cases hb : b = a
  · subst hb
    rw [upd_same] at q
    cases q
    exact exo_ok hx
  · rw [upd_ne hb] at q
    by_cases hd : b = dx
    · subst hd
      rw [upd_same] at q
      cases q
      exact exd_ok hn (relO_put (fs := []) ry fun g => True.intro)
    · rw [upd_ne hd] at q
      exact (I.hok b o q).stay (fun c v hc z => k c v (by
          rcases hc with hc | hc
          · rw [hc]
            exact hb
          · exact at_ne e hc exo_own) z)
        (fun c hc => by rw [upd_ne (at_ne e hc exo_own), upd_ne (ne_of_none hc hnd)]; exact hc) (fun c xs hc => by rw [upd_ne (at_ne e hc exo_tup), upd_ne (ne_of_none hc hnd)]; exact hc)
end
def tSt1 (K : PySem.W.Frag) (f : Str) (to te : TE) : TS := fun D σ H => te σ H fun y H1 => to σ H1 fun x H2 => ∃ a C fI : Addr, x = .ref a ∧ XC K C fI f ∧ H2 a = some (exo a C none) ∧ ∀ dx, H2 dx = none → dx ≠ a → D.nx σ (upd (upd H2 dx (exd dx [(f, y)])) a (exo a C (some dx)))
section
variable {X : Cx} {o e : Expr} {to te : TE} {f : Str} {p' pos : Pos}
theorem ps_st1 (ho : PE X o to) (he : PE X e te) (hs : swapsWith e (some (.Attribute o f p')) pos.line X.env = pure false := by rfl) : PS X (.Assign [.Attribute o f p'] e pos) (tSt1 X.K f to te) := by
  refine ⟨fun pins s σ H D I h => ?_⟩
  refine plainObj_wpAny_Assign_Attribute (thn (he.run pins s σ H _ I h) fun v s1 ⟨y, H1, I1, r1, q1⟩ => thn (ho.run pins s1 σ H1 _ I1 q1) fun u s2 ⟨x, H2, I2, r2, a, C, fI, ex, T, ea, q⟩ => ?_) hs
  subst ex
  obtain rfl : u = Value.ref a := r2
  exact xc_store T I2 ea r1 fun dx s' n ne J => ⟨σ, _, J, q dx n ne⟩
end
/-- what such an __init__ keeps -/
def spI (K : PySem.W.Frag) (f : Str) : Sp := fun vs H Q _ => ∃ (a C fI : Addr) (y : V), vs = [.ref a, y] ∧ XC K C fI f ∧ H a = some (exo a C none) ∧ ∀ dx, H dx = none → dx ≠ a → Q .non (upd (upd H dx (exd dx [(f, y)])) a (exo a C (some dx)))
end Pm
set_option maxHeartbeats 2000000
namespace Pm
open PySem PySem.Spec PyProof.Rows L2
/-- such an __init__ by its text -/
theorem init_ok {P : Program} {w : World} {K : PySem.W.Frag} {mg : Str → Option Value} {base : Heap} {qual p f : Str} {st : Stmt} {fI : Addr} {fd : FuncData} (F : Fun K "__init__" qual st fI fd) (S : FnScope ["self", p] ["self", p] (defScope st)) {p1 p2 p3 p4 : Pos}
    (hb : defBody st = [.Assign [.Attribute (.Name "self" p1) f p2] (.Name p p3) p4])
    (hv0 : ∀ cdv L, Vis (envOfC qual (defScope st) L fI cdv).scope "self") (hv1 : ∀ cdv L, Vis (envOfC qual (defScope st) L fI cdv).scope p)
    (hd : (p == ("__debug__" : Str)) = false := by decide) (hcd : (p == ("__classdict__" : Str)) = false := by decide) : FnOk P w K mg base CX0 1 fI fd ["self", p] (spI K f) := by
  refine F.ok (k := 0) S (fun vs H Q E h => ?_) fun cdv A outer s H vs Q E hr hsp => ?_
  · obtain ⟨a, C, fI, y, rfl, _⟩ := h
    rfl
  · obtain ⟨a, C, fI', y, rfl, T, ea, q⟩ := hsp
    refine ⟨tSt1 K f (tVar 0) (tVar 1), ?_, ?_⟩
    · rw [hb]
      exact pss_one (ps_st1 (pe_var (i := 0) rfl (hv0 _ _) (by decide) (by decide)) (pe_var (i := 1) rfl (hv1 _ _) hd hcd))
    · refine ⟨y, rfl, .ref a, rfl, a, C, fI', rfl, T, ea, fun dx n ne => q dx n ne⟩
def tMk1 (C : Addr) (f : Str) (ta : TA) : L2.St → Hp → XK → Prop := fun σ H Q => ta σ H fun vs H1 => ∃ y, vs = [y] ∧ ∀ d, H1 d = none → Q (.ref C) (some d) (upd H1 d (.xd [(f, y)]))
section
variable {X : Cx} {e : Expr} {ta : TA} {p pos : Pos}
theorem pmk_x1 {x f pn : Str} {C fI : Addr} {k : Nat} {fd : FuncData} (T : XC X.K C fI f) (F1 : FnOk X.prog X.w X.K X.mg X.base CX0 k fI fd ["self", pn] (spI X.K f)) (hr : Room (k + 1) X.A) (hb : Binds X.K fd ["self", pn] []) (hg : Gl X x) (hm : X.mg x = some (.ref C)) (ha : PA X [e] ta)
    (hdb : (x == ("__debug__" : Str)) = false := by decide) (he : starEach [e] X.env = (false, eval e X.env) :: starEach [] X.env := by rfl) (hpl : (backTo pos (starEach [] X.env)).any (·.1) = false := by rfl) :
    PMk X (.Call (.Name x p) [e] [] pos) (tMk1 C f ta) := by
  intro pins s σ H Q I h
  obtain ⟨nm, q, N, bs, bm, sn, sub, ab, col, dd, k0, k1, k2, k3, k5, BN, newId, initId, bmN, bmB, XF, hC, hbm⟩ := T.cls
  refine wpAny_Call_Name_kw (ld_glob I hg hm ?_ hdb)
  refine PySem.W.callWith_K (h₀ := X.base) I.ok.mod.kin T.kC (thn (ha.run pos pins s σ H _ I h) fun us s1 ⟨vs, H1, I1, r1, y, ev, q1⟩ => ⟨I1.kIn, ?_⟩) he hpl
  subst ev
  show wpAny _ _ (call (.ref C) us) _ _ _
  obtain ⟨hp, g, dr, tk, os⟩ := s1
  have hsz : hp.objs.size ≤ hp.objs.size + 1 := Nat.le_succ _
  have hn : H1 (hp.objs.size + 1) = none := I1.hok.fresh hsz
  have hq : spI X.K f [.ref (hp.objs.size + 1), y] (upd H1 (hp.objs.size + 1) (exo (hp.objs.size + 1) C none))
      (fun v H2 => v = .non ∧ ∃ (d : Addr) (fs : List (Str × V)), H2 (hp.objs.size + 1) = some (exo (hp.objs.size + 1) C (some d)) ∧ H2 d = some (exd d fs) ∧ H1 d = none ∧ Q (.ref C) (some d) (upd (del H2 (hp.objs.size + 1)) d (.xd fs))) (fun _ _ _ => False) := by
    refine ⟨_, C, fI, y, rfl, T, upd_same, fun dx nx ne => ⟨rfl, dx, [(f, y)], upd_same, by rw [upd_ne ne, upd_same], ?_, ?_⟩⟩
    · rw [upd_ne ne] at nx
      exact nx
    · have n1 : H1 dx = none := by
        rw [upd_ne ne] at nx
        exact nx
      have e : upd (del (upd (upd (upd H1 (hp.objs.size + 1) (exo (hp.objs.size + 1) C none)) dx (exd dx [(f, y)])) (hp.objs.size + 1) (exo (hp.objs.size + 1) C (some dx))) (hp.objs.size + 1)) dx (.xd [(f, y)]) = upd H1 dx (.xd [(f, y)]) := by
        funext b
        by_cases hb : b = dx
        · rw [hb, upd_same, upd_same]
        · rw [upd_ne hb, upd_ne hb]
          by_cases ha : b = hp.objs.size + 1
          · rw [ha, del_same, hn]
          · rw [del_ne ha, upd_ne ha, upd_ne hb, upd_ne ha]
      rw [e]
      exact q1 dx n1
  have kk : ∀ b o, hp.get? b = some o → ((hp.push (PySem.W.kdv_tup us)).push (PySem.HandSPX.excO C hp.objs.size)).get? b = some o := fun b o e => Heap.get?_push_of_some _ (Heap.get?_push_of_some _ e)
  have hget : ((hp.push (PySem.W.kdv_tup us)).push (PySem.HandSPX.excO C hp.objs.size)).get? (hp.objs.size + 1) = some (PySem.HandSPX.excO C hp.objs.size) := by heap_get
  have I2 : Inv X pins σ (upd H1 (hp.objs.size + 1) (exo (hp.objs.size + 1) C none)) ⟨(hp.push (PySem.W.kdv_tup us)).push (PySem.HandSPX.excO C hp.objs.size), g, dr, tk, os⟩ :=
    I1.laid (t' := tk) (a := hp.objs.size + 1) (o := exo (hp.objs.size + 1) C none) (h' := (hp.push (PySem.W.kdv_tup us)).push (PySem.HandSPX.excO C hp.objs.size)) kk hsz (exo_ok hget)
  have r2 : Vals [V.ref (hp.objs.size + 1), y] (Value.ref (hp.objs.size + 1) :: us) := .cons rfl r1
  have hl : (Value.ref (hp.objs.size + 1) :: us ++ []).length = (["self", pn] : List Str).length := by
    have := r2.length
    rw [List.append_nil]
    exact this.symm
  have hus : us.length ≤ sizeLine := by
    have := r1.length
    rw [← this, sizeLine_eq]
    show 1 ≤ _
    decide
  have hbd := hb _ (Value.ref (hp.objs.size + 1) :: us) I2.kIn hl
  rw [List.append_nil] at hbd
  refine wpAny_call (xf_call XF hbm (I1.kIn _ _ hC) (PySem.W.looks_findIn I1.kIn T.iC) (fun self => PySem.W.bind_fn I1.kIn self T.tI) hus
    (codeAny_mono (F1.run _ X.stack _ _ ⟨Value.ref (hp.objs.size + 1) :: us, []⟩ (Value.ref (hp.objs.size + 1) :: us) _ _ (fun _ _ _ => False) (hr.make C us []) (I2.env0.make C us []) hbd r2 hq) fun r s' hq' => ?_))
  cases r with
  | error er => exact hq'.elim
  | ok fl =>
    cases fl with
    | ret u =>
      obtain ⟨v, H2, os2, bare2, un2, hok2, rv, ev, d, fs, ea, ed, hd1, q2⟩ := hq'
      subst ev
      obtain ⟨h2, g2, d2, t2, os'⟩ := s'
      exact ⟨rv, mk_end (raises_own T.exC T.tyC) I1 hsz kk un2 hok2 os2 bare2 ea ed hd1 q2⟩
    | next => exact False.elim hq'
    | brk => exact False.elim hq'
    | cont => exact False.elim hq'
end
def raise1 (n f : Str) (fe : M EV) : M Fl := bnd fe fun e => fun ρ => match peek1 ρ e with
  | some d => if d.plain = true then .exc ⟨n, [(f, d)]⟩ ρ else .stuck
  | none => .stuck
section
variable {K : PySem.W.Frag} {mg : Str → Option Value} {W : WX} {Z H : Hp} {S : Fp} {σ : Sl} {X : Cx}
theorem peek_plain {ρ : Env} {ev : EV} {v : V} {d : D} {Sd : Fp} {H' : Hp} (er : EnvR K Z H ρ σ S) (r : EVR K Z H σ ev v Sd) (hp : peek1 ρ ev = some d) (hd : d.plain = true) : Rep K Z H' d v Fp0 := by
  cases ev with
  | val d' =>
    cases hp
    exact Rep.plain r hd
  | ref i =>
    obtain ⟨v', S1, S2, e1, _, _, _, r1, _⟩ := er.take (getD_some (show ρ.getD i none = some d from hp))
    have e2 : σ[i]? = some (some v) := r
    rw [e1] at e2
    cases e2
    exact Rep.plain r1 hd
theorem same_new {Z : Hp} {d : Addr} {o : HO} (h : Z d = none) : Same Z (upd Z d o) := fun a u e => by
  have : a ≠ d := fun q => by rw [q, h] at e; cases e
  rw [upd_ne this]
  exact e
theorem S_raise1 {A : Nat → Bool} {e : Expr} {fe : M EV} {n f pn : Str} {C fI : Addr} {k : Nat} {fd : FuncData} {p pos pos2 : Pos} (hc : X.calm = true) (tk : Takes X W) (T : XC X.K C fI f) (F1 : FnOk X.prog X.w X.K X.mg X.base CX0 k fI fd ["self", pn] (spI X.K f)) (hr : Room (k + 1) X.A) (hb : Binds X.K fd ["self", pn] []) (hm : X.mg n = some (.ref C)) (hg' : reg X.K n = some C) (ha : PA X [e] (tA X.K X.mg W (aCons fe aNil))) (hg : Gl X n := by rfl)
    (hdb : (n == ("__debug__" : Str)) = false := by decide) (he : starEach [e] X.env = (false, eval e X.env) :: starEach [] X.env := by rfl) (hpl : (backTo pos (starEach [] X.env)).any (·.1) = false := by rfl) :
    PS X (.Raise (some (.Call (.Name n p) [e] [] pos)) none pos2) (tS X.K X.mg W A (raise1 n f fe)) :=
  PS.of (ps_raise (W := W) hc tk (pmk_x1 T F1 hr hb hg hm ha hdb he hpl)) fun D σ H h => by
    obtain ⟨Z, ρ, S, w, er, o⟩ := h
    refine ⟨Z, ρ, S, w, er, ?_⟩
    simp only [raise1, bnd, aCons, aNil, ret] at o ⊢
    cases e1 : fe ρ with
    | stuck => rw [e1] at o; exact o.elim
    | exc x ρ1 => rw [e1] at o; exact o σ (Keep.refl σ)
    | ok ev ρ1 =>
      simp only [e1] at o ⊢
      intro vs Z' H' S' Sd st dj er' evr
      cases hp : peek1 ρ1 ev with
      | none => simp only [hp] at o; exact o.elim
      | some d =>
        simp only [hp] at o
        by_cases hd : d.plain = true
        · rw [if_pos hd] at o
          obtain ⟨y, rfl, ry⟩ : ∃ y, vs = [y] ∧ ∃ Sy, EVR X.K Z' H' σ ev y Sy := by
            match vs, evr with
            | [y], ⟨S1, S2, _, _, _, r, _⟩ => exact ⟨y, rfl, S1, r⟩
          obtain ⟨Sy, ry⟩ := ry
          refine ⟨y, rfl, fun dx ndx => ?_⟩
          have wd' : Wd Z' H' S' := st.wd.less fun a q => .inl q
          have zdx : Z' dx = none := wd'.zfree ndx
          have st1 : Step Z H S Z' H' S' := st.less fun a q => .inl q
          have sm : Same Z' (upd Z' dx (.xd [(f, y)])) := same_new zdx
          refine o σ (Keep.refl σ) (.ref C) (some dx) (upd Z' dx (.xd [(f, y)])) (upd H' dx (.xd [(f, y)])) S' (st1.trans (Step.allocZ wd' ndx)) (er'.move sm (fun a u sa e => ?_) fun a q => q) ⟨C, hm, hg', rfl, .inr ⟨dx, [y], rfl, upd_same, Fp0, Fp0, fun _ q => q, fun _ q => q, fun _ q _ => q, ?_, trivial⟩⟩
          · have : a ≠ dx := fun q => by rw [q, ndx] at e; cases e
            rw [upd_ne this]
            exact e
          · exact (peek_plain (H' := upd Z' dx (.xd [(f, y)])) er' ry hp hd).move sm (fun _ _ q => q.elim) fun _ q => q
        · rw [if_neg hd] at o
          exact o.elim
end
end Pm
set_option maxHeartbeats 2000000
namespace Pm
open PySem PySem.Spec PyProof.Rows L2
section
variable {X : Cx} {pins : List (Addr × Obj)} {σ : L2.St} {H : Hp} {s : Shared}
theorem inv_suite (I : Inv X pins σ H s) (a : Addr) : Inv (X.suite a (X.pn ++ pins)) [] σ H s :=
  ⟨I.ok.suite _ _, I.os, I.bare, I.base, I.loc, I.cell, I.free, I.freeC, fun p hp => I.pin p (by rw [List.append_nil] at hp; exact hp), I.hok, I.len⟩
theorem inv_unsuite {a : Addr} {pn' : List (Addr × Obj)} (I : Inv (X.suite a (X.pn ++ pins)) pn' σ H s) (ok : X.Ok) : Inv X pins σ H s :=
  ⟨ok, I.os, I.bare, I.base, I.loc, I.cell, I.free, I.freeC, fun p hp => I.pin p (List.mem_append_left _ hp), I.hok, I.len⟩
/-- what an exception's object is, told of its own address alone -/
theorem xo_ok {P : Program} {w : World} {H : Hp} {h : Heap} {a C : Addr} {dd : Option Addr} {oe : Obj} {vs : Array Value} (he : h.get? a = some oe) (hz : Zc (.ref C) dd oe) (hd : oe.data = .fields vs) : ObjOk P w H h a (.ext (XoP a C dd)) :=
  ⟨⟨oe, vs, he, hz.1, hz.2, hd⟩, ⟨_, he⟩, fun h1 h2 ⟨o, v, e, z1, z2, z3⟩ k => ⟨o, v, k _ e, z1, z2, z3⟩⟩
/-- a landed exception is tracked -/
theorem inv_kept {sI s' : Shared} {B : Heap} {a C : Addr} {dd : Option Addr} {h4 : Heap} {oe : Obj} {vs : Array Value} (J : Inv X pins σ H sI) (nb : ∀ b o, sI.heap.get? b = some o → b ∉ frs X.stack → B.get? b = some o) (hB : B.get? a = none)
    (st : B.StaysIn h4) (up : sI.heap.UpToSlots h4) (os : s'.os = sI.os) (ag : AllBare s'.gens) (na : H a = none) (he : h4.get? a = some oe) (hz : Zc (.ref C) dd oe) (hd : oe.data = .fields vs) :
    Inv X pins σ (upd H a (.ext (XoP a C dd))) { s' with heap := h4 } := by
  obtain ⟨G, g1, g2⟩ := restrict h4 fun b => decide (b ≠ a)
  have gk : ∀ b, b ≠ a → G.get? b = h4.get? b := fun b hb => g1 b (decide_eq_true hb)
  have ga : G.get? a = none := g2 a (by simp)
  have gs : ∀ b o, G.get? b = some o → h4.get? b = some o := fun b o e => by
    by_cases hb : b = a
    · rw [hb, ga] at e; cases e
    · rw [← gk b hb]; exact e
  have JG : Inv X pins σ H { s' with heap := G } := J.landed nb (fun b o e => by
      have hb : b ≠ a := fun q => by rw [q, hB] at e; cases e
      show G.get? b = some o
      rw [gk b hb]
      exact st b o e) (fun b o e hn => by
      obtain ⟨sl, q⟩ := up b o e hn
      have hb : b ≠ a := fun z => by
        rw [z, he] at q
        have := Option.some.inj q
        subst this
        exact hn _ hd
      exact ⟨sl, by
        show G.get? b = _
        rw [gk b hb]
        exact q⟩) os ag
  have := JG.laidN (a := a) (o := .ext (XoP a C dd)) (h' := h4) (t' := s'.toks) (fun b o e => gs b o e) ga na (xo_ok he hz hd)
  exact this
end
/-- what the clause wishes of an exception of the body -/
def wKp (tst : Value → Option Bool) (i : Nat) (ts : TS) (Wout : WX) (D : Ends) : WX := fun cls d σ H =>
  ∃ b, tst cls = some b ∧ (b = true → ∃ C, cls = .ref C ∧ ∀ a, H a = none → ts { nx := fun σ' H' => D.nx (σ'.set i none) H', rt := D.rt, bk := fun σ' H' => D.bk (σ'.set i none) H', ct := fun σ' H' => D.ct (σ'.set i none) H' } (σ.set i (some (.ref a))) (upd H a (.ext (XoP a C d)))) ∧
    (b = false → Wout cls d σ H)
/-- the clause's test, evaluated when an exception stands at a -/
def ClauseT (X : Cx) (ht : Expr) (tst : Value → Option Bool) : Prop := ∀ (a : Addr) (pn : List (Addr × Obj)) (σ : L2.St) (H : Hp) (s : Shared) (cls : Value) (b : Bool) (Q : Bool → Shared → Prop) (E E' : Value → Shared → Prop),
  Inv (X.suite a pn) [] σ H s → (∃ oe, s.heap.get? a = some oe ∧ oe.cls = cls) → tst cls = some b → (∀ s', (∀ b o, s.heap.get? b = some o → s'.heap.get? b = some o) → s'.gens = s.gens → s'.os = s.os → Q b s') →
  wpAny (model X.prog X.w) (X.A.mark (some (.ref a))) (eval ht X.env) (fun t s' => wpAny (model X.prog X.w) (X.A.mark (some (.ref a))) (excMatches (.ref a) t) Q E s') E' s
theorem flying_keeps {base h h' : Heap} {l : List PySem.Env} {e : Addr} {Z : Obj → Prop} (x : HandSPX.FlyingZ base l e Z h) (k : ∀ b o, h.get? b = some o → h'.get? b = some o) : HandSPX.FlyingZ base l e Z h' := by
  obtain ⟨h1, h2, h3, oe, vs, T, oT, ts, he, hz, hd, e1, e2, e3, e4, e5, e6⟩ := x
  exact ⟨fun b o e => k b o (h1 b o e), h2, h3.of_keeps fun b o e _ => ⟨o, k b o e, rfl⟩, oe, vs, T, oT, ts, k _ _ he, hz, hd, e1, e2, e3, k _ _ e4, e5, e6⟩
section
variable {X : Cx} {n : Str} {i : Nat} {body suite : List Stmt} {b₀ : Stmt} {pos pos' : Pos} {ht : Expr} {tst : Value → Option Bool} {tb : WX → TS} {ts : TS} {Wout : WX}
theorem ps_try_kept (hs : X.stack = X.env :: X.outer) (hf : X.env.frame = some X.env.locals) (hN : X.N.Nodup) (hi : X.N[i]? = some n) (hln : X.env.kindOf n = some .local) (hc : ClauseT X ht tst) (tk : Takes X Wout)
    (hb : ∀ (W : WX) (pn : List (Addr × Obj)) (xe : Value → Shared → Prop), Takes (X.tr pn xe) W → PassesOwn (model X.prog X.w) X.A X.env xe → PSs (X.tr pn xe) body (tb W))
    (hsu : ∀ (a : Addr) (pn : List (Addr × Obj)), PSs (X.suite a pn) (b₀ :: suite) ts) :
    PS X (.Try body [.ExceptHandler (some ht) (some n) (b₀ :: suite) pos'] [] [] pos) (fun D σ H => tb (wKp tst i ts Wout D) D σ H) := by
  refine ⟨fun pins s σ H D I h => ?_⟩
  have ok := I.ok
  have hfr : X.A.frames = some (X.env :: X.outer) := by rw [ok.frames, hs]
  have hloc : Loc X.env.scope n := .inl hln
  refine wpAny_Try_except ?_
  refine wpAny_mono ((hb (wKp tst i ts Wout D) (X.pn ++ pins) (fun e s₁ => wpAny (model X.prog X.w) X.A (noteFrame e X.env) (fun _ s₂ => wpAny (model X.prog X.w) X.A (setFlight e none) (fun _ s₃ =>
    wpAny (model X.prog X.w) X.A (handleBy e X.env [.ExceptHandler (some ht) (some n) (b₀ :: suite) pos']) (SP X pins D) X.xe s₃) X.xe s₂) X.xe s₁) (fun u s' xx => ?_) PassesOwn.looking).run [] s σ H D (I.toTry _) h) (fun f s1 hsp => ?_) (fun e s1 he => he)
  · obtain ⟨a, B, sI, pins', σ', H', cls, d, rfl, J', nb, up, sky, na, os, ag, b, hb1, hyes, hno⟩ := xx
    have J : Inv X pins σ' H' sI := J'.ofTry ok
    have sky' : Sky B (X.env :: X.outer) a (Zc cls d) X.env.locals s'.heap := by rw [← hs]; exact sky
    show wpAny (model X.prog X.w) X.A (noteFrame (.ref a) X.env) _ _ _
    refine Sky.land Zc.steady hfr hf sky' fun h3 fl3 up3 => ?_
    have J3 : Inv X pins σ' H' { s' with heap := h3 } := J.landed nb fl3.1 (up.trans up3) os ag
    obtain ⟨oe3, vs3, he3, hz3, hd3⟩ := fl3.there
    have S3 := inv_suite J3 a
    refine wpAny_handleBy_cons (codeAny_handlers_test ?_) (by intro q; cases q)
    refine hc a _ _ _ _ cls b _ _ _ S3 ⟨oe3, he3, hz3.1⟩ hb1 fun s5 k5 g5 o5 => ?_
    have fl5 : HandSPX.FlyingZ B (X.env :: X.outer) a (Zc cls d) s5.heap := flying_keeps fl3 k5
    have up5 : sI.heap.UpToSlots s5.heap := (up.trans up3).trans (Heap.UpToSlots.of_keeps k5)
    have os5 : s5.os = sI.os := o5.trans os
    have ag5 : AllBare s5.gens := by rw [g5]; exact ag
    cases b with
    | true =>
      obtain ⟨C, ec, hyes2⟩ := hyes rfl
      subst ec
      refine codeAny_handlers_suite_as ?_
      refine HandSPX.lands_againZ fl5 fun h4 fl4 up4 => ?_
      obtain ⟨oe4, vs4, he4, hz4, hd4⟩ := fl4.there
      have J4 : Inv X pins σ' (upd H' a (.ext (XoP a C d))) { s5 with heap := h4 } := inv_kept J nb fl4.2.1 fl4.1 (up5.trans up4) os5 ag5 na he4 hz4 hd4
      have S4 := inv_suite J4 a
      refine store_ok (X := X.suite a (X.pn ++ pins)) (v := .ref a) S4 hN hi hloc rfl (fun s6 S6 => ?_) (.inr hln)
      refine wpAny_mono ((hsu a (X.pn ++ pins)).run [] s6 _ _ _ S6 (hyes2 a na)) (fun f s6 hsp => ?_) (fun _ _ z => False.elim z)
      have end_ : ∀ {σ6 : L2.St} {H6 : Hp} {Q : Shared → Prop}, Inv (X.suite a (X.pn ++ pins)) [] σ6 H6 s6 → (∀ s7, Inv X pins (σ6.set i none) H6 s7 → Q s7) →
          wpAny (model X.prog X.w) X.A (do bindName X.env n .none; unbindBehindTheSuite X.env n pos') (fun _ s7 => Q s7) X.xe s6 := fun {σ6 H6 Q} S6 hq => gone_ok (inv_unsuite S6 ok) hN hi hln hq
      cases f with
      | next =>
        obtain ⟨σ6, H6, S6, q6⟩ := hsp
        exact end_ S6 fun s7 J7 => ⟨_, _, J7, q6⟩
      | brk =>
        obtain ⟨σ6, H6, S6, q6⟩ := hsp
        exact end_ S6 fun s7 J7 => ⟨_, _, J7, q6⟩
      | cont =>
        obtain ⟨σ6, H6, S6, q6⟩ := hsp
        exact end_ S6 fun s7 J7 => ⟨_, _, J7, q6⟩
      | ret u =>
        obtain ⟨v6, σ6, H6, S6, r6, q6⟩ := hsp
        exact end_ S6 fun s7 J7 => ⟨_, _, _, J7, r6, q6⟩
    | false =>
      show wpAny _ X.A (handleBy (.ref a) X.env []) _ _ _
      refine wpAny_handleBy_nil ?_
      obtain ⟨k1, k2, k3, oe, vs, T, oT, ts', he, hz, hd, h1, hr⟩ := id fl5
      unfold PySem.passOn
      refine wpAny_bind (wpAny_field he hd h1 ?_)
      rw [if_neg (show ¬ ((Value.ref T == Value.none) = true) from by simp)]
      have fin : wpAny (model X.prog X.w) X.A (setFlight (.ref a) X.env.frame) (fun _ s4 => wpAny (model X.prog X.w) X.A (throw (.ref a) : Sem Flow) (SP X pins D) X.xe s4) X.xe s5 := by
        rw [hf]
        refine HandSPX.setFlight_upZ fl5 fun h4 hh4 up4 => wpAny_throw (tk _ _ ?_)
        exact ⟨a, B, sI, pins, σ', H', cls, d, rfl, J, nb, up5.trans up4, .inr (.inr (by rw [hs]; exact hh4)), na, os5, ag5, hno rfl⟩
      first
        | exact wpAny_bind (wpAny_pure (wpAny_bind fin))
        | exact wpAny_bind fin
  · cases f with
    | next =>
      obtain ⟨σ', H', J', q⟩ := hsp
      exact wpAny_execs_nil ⟨σ', H', J'.ofTry ok, q⟩
    | brk =>
      obtain ⟨σ', H', J', q⟩ := hsp
      exact ⟨σ', H', J'.ofTry ok, q⟩
    | cont =>
      obtain ⟨σ', H', J', q⟩ := hsp
      exact ⟨σ', H', J'.ofTry ok, q⟩
    | ret u =>
      obtain ⟨v, σ', H', J', r, q⟩ := hsp
      exact ⟨v, σ', H', J'.ofTry ok, r, q⟩
end
end Pm
set_option maxHeartbeats 2000000
namespace Pm
open PySem PySem.Spec PyProof.Rows L2
/-- an exception that was caught, as data -/
def excD (x : XD) : D := .node false (.obj x.cls (x.fs.map (·.1))) (x.fs.map (·.2))
section
variable {K : PySem.W.Frag} {mg : Str → Option Value} {W : WX} {Z H : Hp} {S : Fp} {σ : Sl} {X : Cx}
theorem exc_rep {x : XD} {C : Addr} {dd : Option Addr} {a : Addr} (xr : ExcR K mg Z x (.ref C) dd) (za : Z a = none) : Rep K (upd Z a (.ext (XoP a C dd))) H (excD x) (.ref a) Fp0 := by
  obtain ⟨C', h1, h2, h3, h4⟩ := xr
  cases h3
  have sm : Same Z (upd Z a (.ext (XoP a C dd))) := same_new za
  rcases h4 with ⟨rfl, hfs⟩ | ⟨d, vs, rfl, hz, hr⟩
  · refine ⟨a, [], rfl, ⟨C, none, h2, upd_same, .inl ⟨rfl, by rw [hfs]; rfl, rfl⟩⟩, ?_⟩
    rw [hfs]
    trivial
  · have hl : (x.fs.map (·.1)).length = vs.length := by
      have := hr.length
      rw [List.length_map] at this ⊢
      exact this
    exact ⟨a, vs, rfl, ⟨C, some d, h2, upd_same, .inr ⟨d, rfl, hl, sm _ _ hz⟩⟩, hr.move sm (fun _ _ q => q.elim) fun _ q => q⟩
theorem none_any {ρ : Env} {σ : Sl} {i : Nat} (h : EnvR K Z H ρ σ S) : EnvR K Z H (ρ.set i none) (σ.set i none) S := by
  have h' := h.drop i
  by_cases hi : i < ρ.length
  · exact h'.any none (by rw [List.getElem?_set_self hi])
  · rw [List.set_eq_of_length_le (l := σ) (by rw [← h.length]; omega)]
    exact h'
end
end Pm
namespace Pm
open PySem PySem.Spec PyProof.Rows L2
/-- m ends in the exception x, and R holds of the slots then -/
def Xp {α : Type} (m : M α) (ρ : Env) (x : XD) (R : Env → Prop) : Prop := ∃ ρ', m ρ = .exc x ρ' ∧ R ρ'
theorem Xp.of {α : Type} {m : M α} {ρ ρ' : Env} {x : XD} {R : Env → Prop} (e : m ρ = .exc x ρ') (h : R ρ') : Xp m ρ x R := ⟨ρ', e, h⟩
theorem Xp.mono {α : Type} {m : M α} {ρ : Env} {x : XD} {R R' : Env → Prop} (h : Xp m ρ x R) (i : ∀ ρ', R ρ' → R' ρ') : Xp m ρ x R' := by
  obtain ⟨ρ', e, r⟩ := h
  exact ⟨ρ', e, i ρ' r⟩
end Pm
namespace Pm
open PySem PySem.Spec PyProof.Rows L2
def We {α : Type} (m : M α) (ρ : Env) (Q : α → Env → Prop) (R : XD → Env → Prop) : Prop := (∃ a ρ', m ρ = .ok a ρ' ∧ Q a ρ') ∨ ∃ x ρ', m ρ = .exc x ρ' ∧ R x ρ'
theorem We.w {α : Type} {m : M α} {ρ : Env} {Q : α → Env → Prop} {R : XD → Env → Prop} (h : Wp m ρ Q) : We m ρ Q R := by
  obtain ⟨a, ρ', e, q⟩ := h.ok
  exact .inl ⟨a, ρ', e, q⟩
theorem We.of {α : Type} {m : M α} {ρ ρ' : Env} {a : α} {Q : α → Env → Prop} {R : XD → Env → Prop} (e : m ρ = .ok a ρ') (q : Q a ρ') : We m ρ Q R := .inl ⟨a, ρ', e, q⟩
theorem We.x {α : Type} {m : M α} {ρ ρ' : Env} {x : XD} {Q : α → Env → Prop} {R : XD → Env → Prop} (e : m ρ = .exc x ρ') (q : R x ρ') : We m ρ Q R := .inr ⟨x, ρ', e, q⟩
theorem we_ok {a b : M Fl} {ρ ρ1 : Env} {Q : Fl → Env → Prop} {R : XD → Env → Prop} (e : a ρ = .ok .nx ρ1) (h : We b ρ1 Q R) : We (seq a b) ρ Q R := by
  have es : seq a b ρ = b ρ1 := by simp [seq, bnd, e]
  rcases h with ⟨f, ρ2, e2, q⟩ | ⟨x, ρ2, e2, q⟩
  · exact .inl ⟨f, ρ2, by rw [es, e2], q⟩
  · exact .inr ⟨x, ρ2, by rw [es, e2], q⟩
theorem we_exc {a b : M Fl} {ρ ρ1 : Env} {x : XD} {Q : Fl → Env → Prop} {R : XD → Env → Prop} (e : a ρ = .exc x ρ1) (h : R x ρ1) : We (seq a b) ρ Q R := .inr ⟨x, ρ1, by simp [seq, bnd, e], h⟩
theorem we_seq {a b : M Fl} {ρ : Env} {Q : Fl → Env → Prop} {R : XD → Env → Prop} (h : We a ρ (fun f ρ1 => f = .nx ∧ We b ρ1 Q R) R) : We (seq a b) ρ Q R := by
  rcases h with ⟨f, ρ1, e, rfl, q⟩ | ⟨x, ρ1, e, q⟩
  · exact we_ok e q
  · exact we_exc e q
theorem we_forIt {g : Tg} {b : M Fl} {Q : Fl → Env → Prop} {R : XD → Env → Prop} : ∀ {ds : List D} (I : Nat → Env → Prop),
    (∀ (j : Nat) (d : D) (ρ : Env), ds[j]? = some d → I j ρ → ∃ ρ1, g d ρ = .ok () ρ1 ∧ We b ρ1 (Tn (I (j + 1)) Q) R) → (∀ ρ, I ds.length ρ → Q .nx ρ) → ∀ ρ, I 0 ρ → We (forIt g b ds) ρ Q R
  | [], I, _, he, ρ, h0 => .of (a := .nx) (ρ' := ρ) rfl (he ρ h0)
  | d :: ds, I, hs, he, ρ, h0 => by
    obtain ⟨ρ1, e1, w⟩ := hs 0 d ρ rfl h0
    have rest : ∀ ρ2, I 1 ρ2 → We (forIt g b ds) ρ2 Q R := fun ρ2 i1 => we_forIt (fun j => I (j + 1)) (fun j d' ρ' hd hi => hs (j + 1) d' ρ' (by simpa using hd) hi) (fun ρ' hi => he ρ' hi) ρ2 i1
    rcases w with ⟨f, ρ2, e2, q⟩ | ⟨x, ρ2, e2, q⟩
    · cases f with
      | nx =>
        rcases rest ρ2 q with ⟨f3, ρ3, e3, q3⟩ | ⟨x3, ρ3, e3, q3⟩
        · exact .inl ⟨f3, ρ3, by rw [forIt]; simp only [e1]; unfold bnd; rw [e2]; exact e3, q3⟩
        · exact .inr ⟨x3, ρ3, by rw [forIt]; simp only [e1]; unfold bnd; rw [e2]; exact e3, q3⟩
      | ct =>
        rcases rest ρ2 q with ⟨f3, ρ3, e3, q3⟩ | ⟨x3, ρ3, e3, q3⟩
        · exact .inl ⟨f3, ρ3, by rw [forIt]; simp only [e1]; unfold bnd; rw [e2]; exact e3, q3⟩
        · exact .inr ⟨x3, ρ3, by rw [forIt]; simp only [e1]; unfold bnd; rw [e2]; exact e3, q3⟩
      | bk => exact .inl ⟨.nx, ρ2, by rw [forIt]; simp only [e1]; unfold bnd; rw [e2]; rfl, q⟩
      | rt d' => exact .inl ⟨.rt d', ρ2, by rw [forIt]; simp only [e1]; unfold bnd; rw [e2]; rfl, q⟩
    · exact .inr ⟨x, ρ2, by rw [forIt]; simp only [e1]; unfold bnd; rw [e2], q⟩
theorem we_for {s : M (List D)} {g : Tg} {b : M Fl} {Q : Fl → Env → Prop} {R : XD → Env → Prop} {ρ ρ1 : Env} {ds : List D} (hs : s ρ = .ok ds ρ1) (I : Nat → Env → Prop) (h0 : I 0 ρ1)
    (ht : ∀ (j : Nat) (d : D) (ρ : Env), ds[j]? = some d → I j ρ → ∃ ρ1, g d ρ = .ok () ρ1 ∧ We b ρ1 (Tn (I (j + 1)) Q) R) (he : ∀ ρ, I ds.length ρ → Q .nx ρ) : We (forS s g b) ρ Q R := by
  rcases we_forIt I ht he ρ1 h0 with ⟨f, ρ2, e, q⟩ | ⟨x, ρ2, e, q⟩
  · exact .inl ⟨f, ρ2, by rw [forS_of hs, e], q⟩
  · exact .inr ⟨x, ρ2, by rw [forS_of hs, e], q⟩
/-- what a def comes to: it returns, or raises -/
def Wz (S : FSem) (as : List D) (Q : D → List D → Prop) (R : XD → List D → Prop) : Prop := (∃ d bs, S as = .ret d bs ∧ Q d bs) ∨ ∃ x bs, S as = .exc x bs ∧ R x bs
theorem wz_mkF {n m : Nat} {reb : List Nat} {b : M Fl} {ds : List D} {Q : D → List D → Prop} {R : XD → List D → Prop} (h : We b ((reFrz reb 0 ds).map some ++ List.replicate (m - n) none) (Fin reb ds Q) fun x ρ => ∃ as, argsBack reb ρ 0 (reFrz reb 0 ds) = some as ∧ R x as) (hl : ds.length = n ∧ n ≤ m := by exact ⟨rfl, by decide⟩) : Wz (mkF n m reb b) ds Q R := by
  rcases h with ⟨f, ρ, e, q⟩ | ⟨x, ρ, e, as, ha, q⟩
  · cases f with
    | nx =>
      obtain ⟨as, ha, qa⟩ := q
      exact .inl ⟨.non, as, by unfold mkF; rw [if_pos hl, e]; simp only [ha], qa⟩
    | rt d =>
      obtain ⟨as, ha, qa⟩ := q
      exact .inl ⟨d, as, by unfold mkF; rw [if_pos hl, e]; simp only [ha], qa⟩
    | bk => exact q.elim
    | ct => exact q.elim
  · exact .inr ⟨x, as, by unfold mkF; rw [if_pos hl, e]; simp only [ha], q⟩
end Pm
namespace Pm
open PySem PySem.Spec PyProof.Rows L2
end Pm
set_option maxHeartbeats 2000000
namespace Pm
open PySem PySem.Spec PyProof.Rows L2
/-- what is known of a class, so that its instances may be asked -/
structure XK (K : PySem.W.Frag) (C : Addr) : Prop where
  ga : PySem.W.findIn K (.ref C) "__getattribute__" = some (some (.builtin "BaseException.__getattribute__"))
  gg : PySem.W.findIn K (.ref C) "__getattr__" = some none
  exC : PySem.W.subIn K (.ref C) (.type "BaseException") = some true
  hdC : PySem.W.hasDictIn K C = true
  ca : PySem.W.findIn K (.ref C) "__class__" = some (some (.builtin "object.__class__"))
  sp : PySem.W.specialIn K (.builtin "object.__class__") "__get__" = some (some (.builtin "getset_descriptor.__get__"))
  tk : PySem.W.takesIn K (.builtin "object.__class__") = some true
  mo : PySem.W.mroIn K C (.type "object") = some true
section
variable {X : Cx}
/-- e.f -/
def tXg (K : PySem.W.Frag) (f : Str) (te : TE) : TE := fun σ H Q => te σ H fun x H1 => ∃ (a C dd : Addr) (fs : List (Str × V)) (v : V), x = .ref a ∧ XK K C ∧ PySem.W.findIn K (.ref C) f = some none ∧ H1 a = some (.ext (XoP a C (some dd))) ∧ H1 dd = some (.xd fs) ∧ fs.lookup f = some v ∧ Q v H1
theorem xo_at {P : Program} {w : World} {H : Hp} {h : Heap} {a C : Addr} {dd : Option Addr} (hok : HOk P w H h) (e : H a = some (.ext (XoP a C dd))) : ∃ (oe : Obj) (vs : Array Value), h.get? a = some oe ∧ oe.cls = .ref C ∧ oe.dict = dd ∧ oe.data = .fields vs := by
  have x : ObjOk P w H h a (.ext (XoP a C dd)) := hok a _ e
  exact x.1
theorem pe_xg {e : Expr} {te : TE} {pos : Pos} {f : Str} (he : PE X e te) (hb : attributeBase e f X.env (eval e X.env) = eval e X.env := by rfl) : PE X (.Attribute e f pos) (tXg X.K f te) := by
  refine ⟨fun pins s σ H Q I h => ?_⟩
  refine attr_of hb (thn (he.run pins s σ H _ I h) fun u s1 hh => ?_)
  obtain ⟨x, H1, I1, rx, a, C, dd, fs, v, ex, T, hno, ea, ed, l, q⟩ := hh
  subst ex
  obtain rfl : u = Value.ref a := rx
  obtain ⟨oe, vs, ha, hz1, hz2, hd⟩ := xo_at I1.hok ea
  have hx : ObjOk X.prog X.w H1 s1.heap dd (.xd fs) := I1.hok dd _ ed
  obtain ⟨mA, hns, hr⟩ := hx
  obtain ⟨od, ho, hl⟩ := lookIn_ns hns
  obtain ⟨u, hu, ru⟩ := RelO.some_of (v := v) (o := mA f) (by rw [← l]; exact hr f)
  have J : PySem.W.InstAt s1.heap a oe C (some od) := ⟨ha, hz1, by unfold PySem.W.notCls; rw [hd] <;> rfl, by rw [hz2]; exact ho⟩
  exact HandSPX.exc_get I1.kIn J T.ga T.gg T.exC (PySem.W.findObj_own T.hdC hno rfl (by rw [hl, hu])) (handed_of ru) ⟨v, H1, I1.tok _, ru, q⟩
/-- isinstance of it, one class or a tuple of classes that was just laid -/
def rIsX (K : PySem.W.Frag) : List V → Hp → VK → Prop := fun xs H Q => ∃ (a C : Addr) (dd : Option Addr) (b : Bool), H a = some (.ext (XoP a C dd)) ∧ (∀ d, dd = some d → ∃ fs, H d = some (.xd fs)) ∧ XK K C ∧
  ((∃ (c : V) (u : Value), xs = [.ref a, c] ∧ ClsV c u ∧ PySem.W.kitOne K (.ref C) u = some b) ∨
    ∃ (tp : Addr) (cs : List V) (us : List Value), xs = [.ref a, .ref tp] ∧ H tp = some (.tup cs) ∧ Paired ClsV cs us ∧ PySem.W.kitAny K (.ref C) us = some b) ∧ Q (.bl b) H
theorem hasDict_cls {K : PySem.W.Frag} {C : Addr} (h : PySem.W.hasDictIn K C = true) : (PySem.W.clsIn K C).isSome = true := by
  obtain ⟨cd, hc, _⟩ := PySem.W.any_some h
  rw [hc]
  rfl
theorem call_isX : CallR X (.builtin "isinstance") (rIsX X.K) := by
  intro pins s σ H xs us Q I r h
  obtain ⟨a, C, dd, b, ea, ed, T, e, q⟩ := h
  obtain ⟨oe, vs, ha, hz1, hz2, hd⟩ := xo_at I.hok ea
  obtain ⟨od, J⟩ : ∃ od, PySem.W.InstAt s.heap a oe C od := by
    cases dd with
    | none => exact ⟨none, ha, hz1, by unfold PySem.W.notCls; rw [hd] <;> rfl, by rw [hz2]; trivial⟩
    | some d =>
      obtain ⟨fs, ef⟩ := ed d rfl
      have hx : ObjOk X.prog X.w H s.heap d (.xd fs) := I.hok d _ ef
      obtain ⟨mA, ⟨o, es, ep, ho, _⟩, _⟩ := hx
      exact ⟨some o, ha, hz1, by unfold PySem.W.notCls; rw [hd] <;> rfl, by rw [hz2]; exact ho⟩
  have Z := PySem.W.kitx_exc (x := a) (ox := oe) (od := od) (hasDict_cls T.hdC) T.ga T.gg T.exC T.ca T.sp T.tk T.mo
  rcases e with ⟨c, u, rfl, k, e⟩ | ⟨tp, cs, ws, rfl, hT, k, e⟩
  · obtain ⟨u1, u2, rfl, r1, r2⟩ := vals2 r
    cases (show u1 = Value.ref a from r1)
    have e2 := k.eq r2
    subst e2
    exact PySem.W.kia_one Z I.kIn J e (fun z => nomatch z) fun tk => ⟨.bl b, H, I.tok tk, rfl, q⟩
  · obtain ⟨u1, u2, rfl, r1, r2⟩ := vals2 r
    cases (show u1 = Value.ref a from r1)
    cases (show u2 = Value.ref tp from r2)
    obtain ⟨_, its, rv, o, h1, h2, n, h3⟩ := (show ObjOk X.prog X.w H s.heap tp (.tup cs) from I.hok tp _ hT)
    have e3 := ClsV.all k rv
    subst e3
    obtain ⟨oc, odd, dt, sl⟩ := o
    simp only at h2 h3
    subst h2 h3
    exact PySem.W.kia_tup Z I.kIn J h1 e (fun z => nomatch z) fun tk => ⟨.bl b, H, I.tok tk, rfl, q⟩
/-- .. or of a thing of another kind -/
def rIsZ (K : PySem.W.Frag) : List V → Hp → VK → Prop := fun xs H Q => rIsX K xs H Q ∨ rIsi K xs H Q ∨ rIsiT K xs H Q
theorem call_isZ : CallR X (.builtin "isinstance") (rIsZ X.K) := by
  intro pins s σ H xs us Q I r h
  rcases h with h | h | h
  · exact call_isX pins s σ H xs us Q I r h
  · exact call_isi pins s σ H xs us Q I r h
  · exact call_isiT pins s σ H xs us Q I r h
end
end Pm
set_option maxHeartbeats 2000000
namespace Pm
open PySem PySem.Spec PyProof.Rows L2
def xget (ns : List Str) (f : Str) (fe : M EV) : M EV := bnd fe fun e => fun ρ => match peek1 ρ e with
  | some (.node false (.obj n fs) xs) => if n ∈ ns then (match (fs.zip xs).lookup f with
    | some d => if d.plain = true then .ok (.val d) ρ else .stuck
    | none => .stuck) else .stuck
  | _ => .stuck
def isxD (tbl : Str → Option Bool) : D → Option Bool
  | .node false (.obj n _) _ => tbl n
  | .non => some false
  | _ => none
def xis (tbl : Str → Option Bool) (fe : M EV) : M EV := bnd fe fun e => fun ρ => match peek1 ρ e with
  | some d => (match isxD tbl d with
    | some b => .ok (.val (.bl b)) ρ
    | none => .stuck)
  | none => .stuck
section
variable {K : PySem.W.Frag} {mg : Str → Option Value} {W : WX} {Z H : Hp} {S : Fp} {σ : Sl} {X : Cx}
theorem peek_rep {ρ : Env} {ev : EV} {v : V} {d : D} {Sd : Fp} (er : EnvR K Z H ρ σ S) (r : EVR K Z H σ ev v Sd) (hp : peek1 ρ ev = some d) : ∃ S0, Rep K Z H d v S0 := by
  cases ev with
  | val d' =>
    cases hp
    exact ⟨Sd, r⟩
  | ref i =>
    obtain ⟨v', S1, S2, e1, _, _, _, r1, _⟩ := er.take (getD_some (show ρ.getD i none = some d from hp))
    have e2 : σ[i]? = some (some v) := r
    rw [e1] at e2
    cases e2
    exact ⟨S1, r1⟩
theorem look_rep {f : Str} : ∀ {fs : List Str} {xs : List D} {ys : List V} {S : Fp} {d : D}, RepL K Z H xs ys S → (fs.zip xs).lookup f = some d → ∃ y S0, (fs.zip ys).lookup f = some y ∧ Rep K Z H d y S0
  | [], xs, ys, S, d, _, h => by simp at h
  | g :: fs, [], ys, S, d, _, h => by simp at h
  | g :: fs, x :: xs, [], S, d, r, _ => r.elim
  | g :: fs, x :: xs, y :: ys, S, d, ⟨S1, S2, _, _, _, r, q⟩, h => by
    rw [List.zip_cons_cons, List.lookup_cons] at h
    rw [List.zip_cons_cons, List.lookup_cons]
    cases e : f == g with
    | true =>
      simp only [e] at h ⊢
      cases h
      exact ⟨y, S1, rfl, r⟩
    | false =>
      simp only [e] at h ⊢
      exact look_rep q h
theorem E_xg {ns : List Str} {f : Str} {fe : M EV} {e : Expr} {pos : Pos} (he : PE X e (tE X.K X.mg W fe)) (hx : ∀ n ∈ ns, ∀ C, reg X.K n = some C → XK X.K C ∧ PySem.W.findIn X.K (.ref C) f = some none) (hb : attributeBase e f X.env (eval e X.env) = eval e X.env := by rfl) :
    PE X (.Attribute e f pos) (tE X.K X.mg W (xget ns f fe)) :=
  PE.of (pe_xg he hb) fun σ H Q h => by
    obtain ⟨Z, ρ, S, w, er, o⟩ := h
    refine ⟨Z, ρ, S, w, er, ?_⟩
    simp only [xget, bnd] at o
    cases e1 : fe ρ with
    | stuck => rw [e1] at o; exact o.elim
    | exc x ρ1 => rw [e1] at o; exact o
    | ok ev ρ1 =>
      simp only [e1] at o
      intro v Z' H' S' Sd st dj er' evr
      cases hp : peek1 ρ1 ev with
      | none => simp only [hp] at o; exact o.elim
      | some d =>
        simp only [hp] at o
        split at o
        · rename_i d n fs xs hd
          cases hd
          by_cases hn : n ∈ ns
          · rw [if_pos hn] at o
            split at o
            · rename_i dat hdat
              by_cases hpl : dat.plain = true
              · rw [if_pos hpl] at o
                obtain ⟨S0, a, ys, rfl, ⟨C, dd, hr, hz, hc⟩, rl⟩ := peek_rep er' evr hp
                obtain ⟨T, hno⟩ := hx n hn C hr
                rcases hc with ⟨_, hfs, _⟩ | ⟨dx, rfl, hl, hzd⟩
                · rw [hfs] at hdat
                  simp at hdat
                · obtain ⟨y, S1, ly, ry⟩ := look_rep rl hdat
                  have wd' : Wd Z' H' S' := st.wd.less fun a q => .inl q
                  refine ⟨a, C, dx, fs.zip ys, y, rfl, T, hno, st.wd.same.get _ _ hz nt_ext, st.wd.same.get _ _ hzd nt_xd, ly, ?_⟩
                  exact o y Z' H' S' Fp0 (st.less fun a q => q.elim .inl fun z => z.elim) (fun _ _ z => z.elim) er' (Rep.plain ry hpl)
              · rw [if_neg hpl] at o
                exact o.elim
            · exact o.elim
          · rw [if_neg hn] at o
            exact o.elim
        · exact o.elim
theorem tE_xis {tbl : Str → Option Bool} {fe : M EV} {Q : VK} (h : tE K mg W (xis tbl fe) σ H Q) : tE K mg W fe σ H fun v H1 => (v = .non ∧ Q (.bl false) H1) ∨ ∃ (n : Str) (b : Bool) (a C : Addr) (dd : Option Addr), tbl n = some b ∧ v = .ref a ∧ reg K n = some C ∧ H1 a = some (.ext (XoP a C dd)) ∧ (∀ d, dd = some d → ∃ fs, H1 d = some (.xd fs)) ∧ Q (.bl b) H1 := by
  obtain ⟨Z, ρ, S, w, er, o⟩ := h
  refine ⟨Z, ρ, S, w, er, ?_⟩
  simp only [xis, bnd] at o
  cases e1 : fe ρ with
  | stuck => rw [e1] at o; exact o.elim
  | exc x ρ1 => rw [e1] at o; exact o
  | ok ev ρ1 =>
    simp only [e1] at o
    intro v Z' H' S' Sd st dj er' evr
    cases hp : peek1 ρ1 ev with
    | none => simp only [hp] at o; exact o.elim
    | some d =>
      simp only [hp] at o
      have fin : ∀ b, isxD tbl d = some b → Q (.bl b) H' := fun b e => by
        simp only [e] at o
        exact o (.bl b) Z' H' S' Fp0 (st.less fun a q => q.elim .inl fun z => z.elim) (fun _ _ z => z.elim) er' rfl
      have nst : isxD tbl d ≠ none := fun e => by
        simp only [e] at o
        exact o.elim
      obtain ⟨S0, rd⟩ := peek_rep er' evr hp
      cases d with
      | non =>
        cases (show v = .non from rd)
        exact .inl ⟨rfl, fin false rfl⟩
      | node ow k xs =>
        cases ow with
        | true => exact absurd rfl nst
        | false =>
          cases k with
          | obj n fs =>
            cases e : tbl n with
            | none => exact absurd e nst
            | some b =>
              obtain ⟨a, ys, rfl, ⟨C, dd, hr, hz, hc⟩, rl⟩ := rd
              refine .inr ⟨n, b, a, C, dd, e, rfl, hr, st.wd.same.get _ _ hz nt_ext, fun d hd => ?_, fin b e⟩
              rcases hc with ⟨h1, _, _⟩ | ⟨dx, h1, _, hzd⟩
              · rw [h1] at hd; cases hd
              · rw [h1] at hd
                cases hd
                exact ⟨_, st.wd.same.get _ _ hzd nt_xd⟩
          | _ => exact absurd rfl nst
      | _ => exact absurd rfl nst
/-- isinstance(e, C) -/
theorem E_is1 {tbl : Str → Option Bool} {fe : M EV} {e e2 : Expr} {cv : V} {cu : Value} {p pos : Pos} (hm : X.mg "isinstance" = none) (he : PE X e (tE X.K X.mg W fe)) (h2 : PE X e2 (tC cv)) (hc : ClsV cv cu)
    (ht : ∀ n b C, tbl n = some b → reg X.K n = some C → XK X.K C ∧ PySem.W.kitOne X.K (.ref C) cu = some b) (hn : PySem.W.kitOne X.K (.type "NoneType") cu = some false) (hg : Gl X "isinstance" := by rfl)
    (hs : starEach [e, e2] X.env = (false, eval e X.env) :: starEach [e2] X.env := by rfl) (hs2 : starEach [e2] X.env = (false, eval e2 X.env) :: starEach [] X.env := by rfl) (hpl : (backTo pos (starEach [e2] X.env)).any (·.1) = false := by rfl) :
    PE X (.Call (.Name "isinstance" p) [e, e2] [] pos) (tE X.K X.mg W (xis tbl fe)) :=
  PE.of (pe_callB (call_isZ (X := X)) hg hm rfl (pa_cons he (pa_cons h2 pa_nil hs2) hs) (by decide) (by decide) hs hpl) fun σ H Q h => by
    obtain ⟨Z, ρ, S, w, er, o⟩ := tE_xis h
    refine ⟨Z, ρ, S, w, er, ?_⟩
    cases e1 : fe ρ with
    | stuck => rw [e1] at o; exact o.elim
    | exc x ρ1 => rw [e1] at o; exact o
    | ok ev ρ1 =>
      simp only [e1] at o
      intro v Z' H' S' Sd st dj er' evr
      rcases o v Z' H' S' Sd st dj er' evr with ⟨rfl, q⟩ | ⟨n, b, a, C, dd, h1, rfl, hr, ha, hd, q⟩
      · exact .inr (.inl ⟨.non, cv, .type "NoneType", cu, false, rfl, hc, .base .non, hn, q⟩)
      · obtain ⟨T, hk⟩ := ht n b C h1 hr
        exact .inl ⟨a, C, dd, b, ha, hd, T, .inl ⟨cv, cu, rfl, hc, hk⟩, q⟩
end
end Pm
namespace Pm
open PySem PySem.Spec PyProof.Rows L2
end Pm
namespace Pm
open PySem PySem.Spec PyProof.Rows L2
section
variable {K : PySem.W.Frag} {mg : Str → Option Value} {W : WX} {Z Z' H H' : Hp} {S S' : Fp} {σ : Sl} {X : Cx} {e o : Expr} {fa fb : M EV}
theorem RepL.ins {d : D} {v : V} (rd : Rep K Z H d v Fp0) : ∀ {ds : List D} {vs : List V} {S : Fp} {i : Nat}, RepL K Z H ds vs S → RepL K Z H (ds.take i ++ [d] ++ ds.drop i) (vs.take i ++ [v] ++ vs.drop i) S
  | [], [], S, i, h => by
    simp only [List.take_nil, List.drop_nil, List.nil_append, List.append_nil]
    exact ⟨Fp0, S, fun _ x => x.elim, fun _ x => x, fun _ x => x.elim, rd, h⟩
  | [], _ :: _, _, _, h => h.elim
  | _ :: _, [], _, _, h => h.elim
  | d' :: ds, v' :: vs, S, 0, h => ⟨Fp0, S, fun _ x => x.elim, fun _ x => x, fun _ x => x.elim, rd, h⟩
  | d' :: ds, v' :: vs, S, i + 1, ⟨S1, S2, s1, s2, dj, r, q⟩ => ⟨S1, S2, s1, s2, dj, r, RepL.ins rd q⟩
end
end Pm
namespace Pm
open PySem PySem.Spec PyProof.Rows L2
end Pm
namespace Pm
open PySem PySem.Spec PyProof.Rows L2
mutual
/-- data as it is shown -/
def pd : D → Option PyData
  | .non => some .none
  | .bl b => some (.bool b)
  | .int i => some (.int i)
  | .str x => some (.str x)
  | .op _ => none
  | .node _ .lst xs => (pdL xs).map .list
  | .node _ .tup xs => (pdL xs).map .tuple
  | .node _ (.dct ks) xs => if ks.length = xs.length then (pdL xs).map fun ps => .dict ((ks.map keyP).zip ps) else none
  | .node _ _ _ => none
def pdL : List D → Option (List PyData)
  | [] => some []
  | d :: ds => match pd d, pdL ds with
    | some p, some ps => some (p :: ps)
    | _, _ => none
end
mutual
inductive PdI (K : PySem.W.Frag) (H : Hp) : V → PyData → Prop where
  | flat {v : V} : flatV v = true → PdI K H v (pyF v)
  | tup {a : Addr} {ys : List V} {ps : List PyData} : SqT K H a ys → PdIs K H ys ps → PdI K H (.ref a) (.tuple ps)
  | lst {a : Addr} {ys : List V} {ps : List PyData} : H a = some (.lst ys) → PdIs K H ys ps → PdI K H (.ref a) (.list ps)
  | dct {a : Addr} {ks : List Key} {ys : List V} {ps : List PyData} : ks.length = ys.length → H a = some (.dK (ks.zip ys)) → PdIs K H ys ps → PdI K H (.ref a) (.dict ((ks.map keyP).zip ps))
inductive PdIs (K : PySem.W.Frag) (H : Hp) : List V → List PyData → Prop where
  | nil : PdIs K H [] []
  | cons {v : V} {vs : List V} {p : PyData} {ps : List PyData} : PdI K H v p → PdIs K H vs ps → PdIs K H (v :: vs) (p :: ps)
end
mutual
theorem pd_ok {K : PySem.W.Frag} {Z H : Hp} (w : Sam Z H) : ∀ (d : D) {v : V} {p : PyData} {S : Fp}, pd d = some p → Rep K Z H d v S → PdI K H v p
  | .non, v, p, _, h, r => by cases h; cases (show v = .non from r); exact .flat rfl
  | .bl b, v, p, _, h, r => by cases h; cases (show v = .bl b from r); exact .flat rfl
  | .int i, v, p, _, h, r => by cases h; cases (show v = .int i from r); exact .flat rfl
  | .str x, v, p, _, h, r => by cases h; cases (show v = .str x from r); exact .flat rfl
  | .op _, _, _, _, h, _ => by cases h
  | .node o .lst xs, v, p, S, h, r => by
    rw [pd] at h
    obtain ⟨ps, hp, rfl⟩ := Option.map_eq_some_iff.mp h
    obtain ⟨a, ys, rfl, c, rl⟩ := rep_lst w r
    exact .lst c (pdL_ok w xs hp rl)
  | .node o .tup xs, v, p, S, h, r => by
    rw [pd] at h
    obtain ⟨ps, hp, rfl⟩ := Option.map_eq_some_iff.mp h
    obtain ⟨a, ys, rfl, c, rl⟩ := rep_tup w r
    exact .tup c (pdL_ok w xs hp rl)
  | .node o (.dct ks) xs, v, p, S, h, r => by
    rw [pd] at h
    split at h
    · rename_i hl
      obtain ⟨ps, hp, rfl⟩ := Option.map_eq_some_iff.mp h
      cases o with
      | false =>
        obtain ⟨a, ys, rfl, c, rl⟩ := r
        exact .dct c.1 (w.get _ _ c.2 nt_dK) (pdL_ok w xs hp rl)
      | true =>
        obtain ⟨a, ys, S', rfl, c, sa, na, sub, rl⟩ := r
        exact .dct c.1 c.2 (pdL_ok w xs hp rl)
    · cases h
  | .node _ .scr _, _, _, _, h, _ => by cases h
  | .node _ (.obj _ _) _, _, _, _, h, _ => by cases h
  | .node _ (.ins _ _) _, _, _, _, h, _ => by cases h
theorem pdL_ok {K : PySem.W.Frag} {Z H : Hp} (w : Sam Z H) : ∀ (ds : List D) {vs : List V} {ps : List PyData} {S : Fp}, pdL ds = some ps → RepL K Z H ds vs S → PdIs K H vs ps
  | [], [], _, _, h, _ => by cases h; exact .nil
  | [], _ :: _, _, _, _, r => r.elim
  | _ :: _, [], _, _, _, r => r.elim
  | d :: ds, v :: vs, ps, _, h, ⟨_, _, _, _, _, r, q⟩ => by
    rw [pdL] at h
    split at h
    · rename_i p ps' h1 h2
      cases h
      exact .cons (pd_ok w d h1 r) (pdL_ok w ds h2 q)
    · cases h
end
section
variable {X : Cx} {pins : List (Addr × Obj)} {σ : L2.St} {H : Hp} {s : Shared}
theorem pairs_read {h : Heap} : ∀ {ks : List Key} {ys : List V} {vs : List (Key × Value)} {us : List Value} {ps : List PyData} {as : List Addr}, KV (ks.zip ys) vs → ks.length = ys.length →
    us = vs.map (·.2) → ReadsAll h us ps as → PyProof.V.PairsRead h keyP vs ((ks.map keyP).zip ps) as
  | [], [], _, _, _, _, r, _, e, q => by
    cases r
    cases e
    cases q
    exact .nil
  | [], _ :: _, _, _, _, _, _, l, _, _ => by simp at l
  | _ :: _, [], _, _, _, _, _, l, _, _ => by simp at l
  | k :: ks, y :: ys, _, us, ps, as, r, l, e, q => by
    cases r with
    | @cons a b as' bs h1 h2 =>
      obtain ⟨k', u⟩ := b
      obtain ⟨e1, ru⟩ := h1
      cases e1
      subst e
      cases q with
      | cons q1 q2 => exact .cons q1 (pairs_read h2 (by simpa using l) rfl q2)
theorem kv_vals : ∀ {ks : List Key} {ys : List V} {vs : List (Key × Value)}, KV (ks.zip ys) vs → ks.length = ys.length → Vals ys (vs.map (·.2))
  | [], [], _, r, _ => by cases r; exact .nil
  | [], _ :: _, _, _, l => by simp at l
  | _ :: _, [], _, _, l => by simp at l
  | k :: ks, y :: ys, _, r, l => by
    cases r with
    | @cons a b as' bs h1 h2 => exact .cons h1.2 (kv_vals h2 (by simpa using l))
mutual
theorem pdi_read (I : Inv X pins σ H s) : ∀ {v : V} {p : PyData} {u : Value}, PdI X.K H v p → RelV v u → ∃ as, Reads s.heap u p as
  | _, _, _, .flat f, r => ⟨[], reads_flat f r⟩
  | _, _, _, .tup c q, r => by
    cases r
    obtain ⟨its, rv, ⟨o, ho, hc, n, hd⟩, _⟩ := I.tuple c
    obtain ⟨as, h1⟩ := pdis_read I q rv
    exact ⟨as, .tuple ho hc hd (by simpa using h1)⟩
  | _, _, _, .lst (a := a) c q, r => by
    cases r
    obtain ⟨its, rv, ⟨o, n, ho, hc, hdn, hd⟩, hs⟩ := I.list (SqL.of (K := X.K) c)
    obtain ⟨as, h1⟩ := pdis_read I q rv
    exact ⟨a :: as, .list ho hc hd (by simpa using h1)⟩
  | _, _, _, .dct (a := a) l c q, r => by
    cases r
    obtain ⟨_, hd, vs, rel, dd⟩ := dk_rd I.hok (.inl c)
    obtain ⟨as, h1⟩ := pdis_read I q (kv_vals rel l)
    exact ⟨a :: as, PyProof.V.reads_dictOf (fun k key hk => by
      rcases keyIs_shape (show keyIs k key = true from hk) with ⟨i, t, rfl, rfl⟩ | ⟨x, t, rfl, rfl⟩
      · exact .int i t
      · exact .str x t) dd (pairs_read rel l rfl h1)⟩
theorem pdis_read (I : Inv X pins σ H s) : ∀ {vs : List V} {ps : List PyData} {us : List Value}, PdIs X.K H vs ps → Vals vs us → ∃ as, ReadsAll s.heap us ps as
  | _, _, _, .nil, .nil => ⟨[], .nil⟩
  | _, _, _, .cons h t, .cons r q => by
    obtain ⟨as, h1⟩ := pdi_read I h r
    obtain ⟨bs, h3⟩ := pdis_read I t q
    exact ⟨as ++ bs, .cons h1 h3⟩
end
theorem pairs_vals {prog : Program} {w : World} {K : Type} [DecidableEq K] {knd : KeyKind prog w K} : ∀ {es : List DictEntry} {kvs : List (K × Value)}, Pairs knd es kvs → es.map (·.val) = kvs.map (·.2)
  | _, _, .nil => rfl
  | _, _, .cons _ e r => by rw [List.map_cons, List.map_cons, e, pairs_vals r]
/-- what is read of a dict, apart -/
theorem dict_parts (I : Inv X pins σ H s) {a : Addr} {ks : List Key} {ys : List V} {ps : List PyData} (l : ks.length = ys.length) (c : H a = some (.dK (ks.zip ys))) (q : PdIs X.K H ys ps) :
    (a == sysModules) = false ∧ ∃ (o : Obj) (es : Array DictEntry) (n : Nat) (vs : List Value) (as bs : List Addr), s.heap.get? a = some o ∧ o.cls = .type "dict" ∧ o.data = .dict es n ∧ ReadsAll s.heap (es.toList.map (·.key)) (((ks.map keyP).zip ps).map (·.1)) [] ∧
      es.toList.map (·.val) = vs ∧ Vals ys vs ∧ ReadsAll s.heap vs (((ks.map keyP).zip ps).map (·.2)) bs := by
  obtain ⟨_, hd, vs, rel, dd⟩ := dk_rd I.hok (.inl c)
  have hv := kv_vals rel l
  obtain ⟨as, h1⟩ := pdis_read I q hv
  have pr := pairs_read rel l rfl h1
  obtain ⟨o, es, n, g1, g2, g3, _, g4, _⟩ := dd
  have kk : ∀ (k : Key) (key : Value), (mixKind X.prog X.w).is k key = true → Reads s.heap key (keyP k) [] := fun k key hk => by
    rcases keyIs_shape (show keyIs k key = true from hk) with ⟨i, t, rfl, rfl⟩ | ⟨x, t, rfl, rfl⟩
    · exact .int i t
    · exact .str x t
  have two := PyProof.V.readsAll_of_pairs kk g4 pr
  have ev : es.toList.map (·.val) = vs.map (·.2) := pairs_vals g4
  rw [ev] at two
  exact ⟨hd, o, es, n, vs.map (·.2), as, as, g1, g2.1, g3, two.1, ev, hv, two.2⟩
theorem keysP_show : ∀ (ks : List Key) (ps : List PyData), PyData.showableKv ((ks.map keyP).zip ps) = true → PyData.showableAll (((ks.map keyP).zip ps).map (·.1)) = true ∧ PyData.showableAll (((ks.map keyP).zip ps).map (·.2)) = true
  | ks, ps, h => PyData.showableKv_split _ h
theorem zip_snd : ∀ {α β : Type} (ks : List α) (ps : List β), ks.length = ps.length → (ks.zip ps).map (·.2) = ps := fun ks ps h => by
  rw [List.map_snd_zip]
  omega
theorem pdis_len {K : PySem.W.Frag} : ∀ {ys : List V} {ps : List PyData}, PdIs K H ys ps → ys.length = ps.length
  | _, _, .nil => rfl
  | _, _, .cons _ t => by rw [List.length_cons, List.length_cons, pdis_len t]
mutual
theorem pdi_repr (I : Inv X pins σ H s) : ∀ {v : V} {p : PyData} {u : Value}, PdI X.K H v p → RelV v u → p.showable = true → p.shown.length ≤ sizeLine → ∃ bs, ReadAtMost s.heap p.depth bs ∧ ReprK X.prog X.w bs s.heap p.depth u p.shown
  | _, _, _, .flat f, r, hs, hz => ReprK.of_reads (reads_flat f r) hs (fun _ => by simp) hz
  | _, _, _, .tup (ps := ps) c q, r, hs, hz => by
    obtain ⟨as, rd⟩ := pdi_read I (.tup c q) r
    cases r
    obtain ⟨its, rv, ⟨o, ho, hc, n, hd⟩, _⟩ := I.tuple c
    obtain ⟨bs, b1, b2⟩ := pdis_repr I q rv (by simpa [PyData.showable] using hs) fun t ht => Nat.le_trans (tupleText_mem_le ht) (by simpa only [PyData.shown] using hz)
    refine ⟨_ :: bs, ReadAtMost.cons rd (by simp only [PyData.depth]; omega) b1, ?_⟩
    have far := not_mem_of_deeper rd (n := PyData.depthAll ps) (by simp only [PyData.depth]; omega) b1
    simp only [PyData.depth, PyData.shown]
    exact ReprK.tuple ho hc hd far (by simpa using b2)
  | _, _, _, .lst (ps := ps) c q, r, hs, hz => by
    obtain ⟨as, rd⟩ := pdi_read I (.lst c q) r
    cases r
    obtain ⟨its, rv, ⟨o, n, ho, hc, hdn, hd⟩, _⟩ := I.list (SqL.of (K := X.K) c)
    obtain ⟨bs, b1, b2⟩ := pdis_repr I q rv (by simpa [PyData.showable] using hs) fun t ht => Nat.le_trans (listText_mem_le ht) (by simpa only [PyData.shown] using hz)
    refine ⟨_ :: bs, ReadAtMost.cons rd (by simp only [PyData.depth]; omega) b1, ?_⟩
    have far := not_mem_of_deeper rd (n := PyData.depthAll ps) (by simp only [PyData.depth]; omega) b1
    simp only [PyData.depth, PyData.shown]
    cases its with
    | nil =>
      have ln := b2.length_eq
      cases hps : ps with
      | nil =>
        simp only [PyData.shownAll, listText_nil]
        exact ReprK.listEmpty ho hc hd
      | cons p1 p2 => rw [hps] at ln; simp [PyData.shownAll] at ln
    | cons u us => exact ReprK.list ho hc hd far (by simpa using b2.length_eq) fun i y e => b2.item i y (by simpa using e)
  | _, _, _, .dct (ks := ks) (ys := ys) (ps := ps) l c q, r, hs, hz => by
    obtain ⟨as, rd⟩ := pdi_read I (.dct l c q) r
    cases r
    obtain ⟨hm, o, es, n, vs, _, bs, g1, g2, g3, g4, g5, g6, g7⟩ := dict_parts I l c q
    have hl : (ks.map keyP).length = ps.length := by rw [List.length_map, l, pdis_len q]
    obtain ⟨s1, s2⟩ := keysP_show ks ps (by simpa [PyData.showable] using hs)
    rw [zip_snd _ _ hl] at s2
    have hz' : (dictText (PyData.shownKv ((ks.map keyP).zip ps))).length ≤ sizeLine := by simpa only [PyData.shown] using hz
    obtain ⟨c1, d1, e1⟩ := ReprAllK.of_readsAll (prog := X.prog) (w := X.w) g4 s1 (fun _ => by simp) fun t ht => by
      obtain ⟨p, hp, q1⟩ := PyData.shownKv_key_le _ t ht
      exact Nat.le_trans q1 (Nat.le_trans (dictText_mem_le hp) hz')
    obtain ⟨c2, d2, e2⟩ := pdis_repr I q g6 s2 fun t ht => by
      obtain ⟨p, hp, q1⟩ := PyData.shownKv_val_le ((ks.map keyP).zip ps) t (by rw [zip_snd _ _ hl]; exact ht)
      exact Nat.le_trans q1 (Nat.le_trans (dictText_mem_le hp) hz')
    have le1 : PyData.depthAll (((ks.map keyP).zip ps).map (·.1)) ≤ PyData.depthKv ((ks.map keyP).zip ps) := PyData.depthAll_keys_le _
    have le2 : PyData.depthAll ps ≤ PyData.depthKv ((ks.map keyP).zip ps) := by
      have := PyData.depthAll_vals_le ((ks.map keyP).zip ps)
      rwa [zip_snd _ _ hl] at this
    have both : ReadAtMost s.heap (PyData.depthKv ((ks.map keyP).zip ps)) (c1 ++ c2) := ReadAtMost.append (d1.mono le1) (d2.mono le2)
    have far := not_mem_of_deeper rd (n := PyData.depthKv ((ks.map keyP).zip ps)) (by simp only [PyData.depth]; omega) both
    refine ⟨_ :: (c1 ++ c2), ReadAtMost.cons rd (by simp only [PyData.depth]; omega) both, ?_⟩
    have two := ReprEntriesK.of_two es.toList _ _ (e1.more_le (fun b hb => List.mem_append_left c2 hb) le1) (by
      rw [g5]
      exact e2.more_le (fun b hb => List.mem_append_right c1 hb) le2)
    have sh : PyData.shownKv ((ks.map keyP).zip ps) = List.zipWith (fun k v : Str => k ++ ": " ++ v) (PyData.shownAll (((ks.map keyP).zip ps).map (·.1))) (PyData.shownAll ps) := by
      rw [PyData.shownKv_eq, zip_snd _ _ hl]
    simp only [PyData.depth, PyData.shown]
    rw [sh]
    exact ReprK.dict g1 g2 g3 hm far two
theorem pdis_repr (I : Inv X pins σ H s) : ∀ {vs : List V} {ps : List PyData} {us : List Value}, PdIs X.K H vs ps → Vals vs us → PyData.showableAll ps = true → (∀ t ∈ PyData.shownAll ps, t.length ≤ sizeLine) → ∃ bs, ReadAtMost s.heap (PyData.depthAll ps) bs ∧ ReprAllK X.prog X.w bs s.heap (PyData.depthAll ps) us (PyData.shownAll ps)
  | _, _, _, .nil, .nil, _, _ => ⟨[], fun _ h => (nomatch h), by simp only [PyData.shownAll]; exact .nil⟩
  | _, _, _, .cons (p := p) (ps := ps) h t, .cons r q, hs, hz => by
    have hs' : p.showable = true ∧ PyData.showableAll ps = true := by simpa [PyData.showableAll] using hs
    obtain ⟨b1, r1, k1⟩ := pdi_repr I h r hs'.1 (hz _ (by simp [PyData.shownAll]))
    obtain ⟨b2, r2, k2⟩ := pdis_repr I t q hs'.2 fun t ht => hz t (by simp [PyData.shownAll, ht])
    have m1 : p.depth ≤ PyData.depthAll (p :: ps) := by simp only [PyData.depthAll]; omega
    have m2 : PyData.depthAll ps ≤ PyData.depthAll (p :: ps) := by simp only [PyData.depthAll]; omega
    refine ⟨b1 ++ b2, ReadAtMost.append (r1.mono m1) (r2.mono m2), ?_⟩
    simp only [PyData.shownAll]
    exact .cons ((k1.more fun b hb => List.mem_append_left b2 hb).level_le m1) (k2.more_le (fun b hb => List.mem_append_right b1 hb) m2)
end
def rReprG (K : PySem.W.Frag) : List V → Hp → VK → Prop := fun xs H Q => ∃ (a : Addr) (p : PyData), xs = [.ref a] ∧ PdI K H (.ref a) p ∧ PyData.showable p = true ∧ PyData.depth p ≤ 60 ∧ (PyData.shown p).length ≤ sizeLine ∧ Q (.str (PyData.shown p)) H
/-- a thing at its address is shown by the slot of its type -/
theorem pdi_shows (I : Inv X pins σ H s) {a : Addr} {p : PyData} (h : PdI X.K H (.ref a) p) (hs : p.showable = true) (hz : p.shown.length ≤ sizeLine) : ∃ T idr, ShowsBy X.prog X.w s.heap a p T idr := by
  obtain ⟨as, rd⟩ := pdi_read I h (show RelV (.ref a) (.ref a) from rfl)
  cases h with
  | flat f => cases f
  | @tup _ ys ps c q =>
    obtain ⟨its, rv, ⟨o, ho, hc, n, hd⟩, _⟩ := I.tuple c
    obtain ⟨bs, b1, b2⟩ := pdis_repr I q rv (by simpa [PyData.showable] using hs) fun t ht => Nat.le_trans (tupleText_mem_le ht) (by simpa only [PyData.shown] using hz)
    have far := not_mem_of_deeper rd (n := PyData.depthAll ps) (by simp only [PyData.depth]; omega) b1
    refine ⟨"tuple", "tuple.__repr__", F.slot_tuple_repr, F.slot_tuple_str, F.slot_tuple_format, fun s' k0 => ⟨o, k0 _ _ ho, hc⟩, fun A E s' Q g1 g2 g3 g4 => ?_⟩
    simp only [PyData.depth] at g2
    simp only [PyData.shown] at g4 hz
    exact call_tuple_reprK ho hc hd far (by simpa using b2) g1 (fun b _ => Clear.nil b) g2 g3 g4 hz
  | @lst _ ys ps c q =>
    obtain ⟨its, rv, ⟨o, n, ho, hc, hdn, hd⟩, _⟩ := I.list (SqL.of (K := X.K) c)
    obtain ⟨bs, b1, b2⟩ := pdis_repr I q rv (by simpa [PyData.showable] using hs) fun t ht => Nat.le_trans (listText_mem_le ht) (by simpa only [PyData.shown] using hz)
    have far := not_mem_of_deeper rd (n := PyData.depthAll ps) (by simp only [PyData.depth]; omega) b1
    refine ⟨"list", "list.__repr__", F.slot_list_repr.toG, F.slot_list_str, F.slot_list_format, fun s' k0 => ⟨o, k0 _ _ ho, hc⟩, fun A E s' Q g1 g2 g3 g4 => ?_⟩
    simp only [PyData.depth] at g2
    simp only [PyData.shown] at g4 hz
    cases its with
    | nil =>
      have ln := b2.length_eq
      cases hps : ps with
      | nil =>
        rw [hps] at g4
        simp only [PyData.shownAll, listText_nil] at g4
        exact call_list_repr_empty ⟨o, g3 _ _ ho, hc⟩ (g3 _ _ ho) hd (g4 s'.heap _ _ fun _ _ e => e)
      | cons p1 p2 => rw [hps] at ln; simp [PyData.shownAll] at ln
    | cons u us => exact call_list_reprK ho hc hd far (by simpa using b2.length_eq) (fun i y e => b2.item i y (by simpa using e)) g1 (fun b _ => Clear.nil b) g2 g3 g4 hz
  | @dct _ ks ys ps l c q =>
    obtain ⟨hm, o, es, n, vs, _, bs, k1, k2, k3, k4, k5, k6, k7⟩ := dict_parts I l c q
    have hl : (ks.map keyP).length = ps.length := by rw [List.length_map, l, pdis_len q]
    obtain ⟨s1, s2⟩ := keysP_show ks ps (by simpa [PyData.showable] using hs)
    rw [zip_snd _ _ hl] at s2
    have hz' : (dictText (PyData.shownKv ((ks.map keyP).zip ps))).length ≤ sizeLine := by simpa only [PyData.shown] using hz
    obtain ⟨c1, d1, e1⟩ := ReprAllK.of_readsAll (prog := X.prog) (w := X.w) k4 s1 (fun _ => by simp) fun t ht => by
      obtain ⟨p, hp, q1⟩ := PyData.shownKv_key_le _ t ht
      exact Nat.le_trans q1 (Nat.le_trans (dictText_mem_le hp) hz')
    obtain ⟨c2, d2, e2⟩ := pdis_repr I q k6 s2 fun t ht => by
      obtain ⟨p, hp, q1⟩ := PyData.shownKv_val_le ((ks.map keyP).zip ps) t (by rw [zip_snd _ _ hl]; exact ht)
      exact Nat.le_trans q1 (Nat.le_trans (dictText_mem_le hp) hz')
    have le1 : PyData.depthAll (((ks.map keyP).zip ps).map (·.1)) ≤ PyData.depthKv ((ks.map keyP).zip ps) := PyData.depthAll_keys_le _
    have le2 : PyData.depthAll ps ≤ PyData.depthKv ((ks.map keyP).zip ps) := by
      have := PyData.depthAll_vals_le ((ks.map keyP).zip ps)
      rwa [zip_snd _ _ hl] at this
    have both : ReadAtMost s.heap (PyData.depthKv ((ks.map keyP).zip ps)) (c1 ++ c2) := ReadAtMost.append (d1.mono le1) (d2.mono le2)
    have far := not_mem_of_deeper rd (n := PyData.depthKv ((ks.map keyP).zip ps)) (by simp only [PyData.depth]; omega) both
    have two := ReprEntriesK.of_two es.toList _ _ (e1.more_le (fun b hb => List.mem_append_left c2 hb) le1) (by
      rw [k5]
      exact e2.more_le (fun b hb => List.mem_append_right c1 hb) le2)
    have sh : PyData.shownKv ((ks.map keyP).zip ps) = List.zipWith (fun k v : Str => k ++ ": " ++ v) (PyData.shownAll (((ks.map keyP).zip ps).map (·.1))) (PyData.shownAll ps) := by
      rw [PyData.shownKv_eq, zip_snd _ _ hl]
    refine ⟨"dict", "dict.__repr__", F.slot_dict_repr, F.slot_dict_str, F.slot_dict_format, fun s' k0 => ⟨o, k0 _ _ k1, k2⟩, fun A E s' Q g1 g2 g3 g4 => ?_⟩
    simp only [PyData.depth] at g2
    simp only [PyData.shown] at g4
    rw [sh] at g4 hz'
    exact call_dict_reprK k1 k2 k3 hm far two g1 (fun b _ => Clear.nil b) g2 g3 g4 hz'
theorem call_reprG (hg : X.A.guards = some []) (hu : X.A.units + 64 < cLine) : CallR X (.builtin "repr") (rReprG X.K) := by
  intro pins s σ H xs us Q I r h
  obtain ⟨a, p, rfl, hi, hs, hp, hz, q⟩ := h
  obtain ⟨u, rfl, rx⟩ := vals1 r
  cases rx
  obtain ⟨T, idr, S⟩ := pdi_shows I hi hs hz
  exact call_repr_slot (by omega) (S.typeIs s fun _ _ e => e) S.slotRepr (S.call X.A.in1 _ s _ hg (by show X.A.units + 1 + _ < cLine; omega) (fun _ _ e => e) fun h' u tk k => ⟨_, _, rfl, ⟨.str _, H, I.kept k, ⟨_, rfl⟩, q⟩⟩)
def rReprC (K : PySem.W.Frag) : List V → Hp → VK → Prop := fun xs H Q => rReprA K xs H Q ∨ rReprG K xs H Q
theorem call_reprC (hg : X.A.guards = some []) (hu : X.A.units + 64 < cLine) : CallR X (.builtin "repr") (rReprC X.K) := by
  intro pins s σ H xs us Q I r h
  rcases h with h | h
  · exact call_reprB hg hu pins s σ H xs us Q I r h
  · exact call_reprG hg hu pins s σ H xs us Q I r h
end
/-- repr of data of any kind and depth -/
noncomputable def opReprC : List D → Option D
  | [.node o k xs] => match pd (.node o k xs) with
    | some p => if PyData.showable p = true ∧ PyData.depth p ≤ 60 ∧ (PyData.shown p).length ≤ cap then some (.str (PyData.shown p)) else none
    | none => none
  | ds => opReprA ds
section
variable {X : Cx}
theorem snd_reprC : Snd X (rReprC X.K) opReprC := by
  intro Z H S ds vs d Q w rb e k
  unfold opReprC at e
  split at e
  · rename_i o kk xs
    refine .inr ?_
    refine snd_pure (r := rReprG X.K) (g := fun ds => match ds with
      | [.node o k xs] => (match pd (.node o k xs) with
        | some p => if PyData.showable p = true ∧ PyData.depth p ≤ 60 ∧ (PyData.shown p).length ≤ cap then some (.str (PyData.shown p)) else none
        | none => none)
      | _ => none) (fun Z H S ds vs d Q w rb e k => ?_) Z H S _ vs d Q w rb e k
    split at e
    · rename_i o kk xs
      split at e
      · rename_i p hp
        split at e
        · rename_i c
          obtain ⟨c1, c2, c3⟩ := c
          obtain ⟨v, rfl, rv⟩ := rb1 rb
          cases e
          have hi := pd_ok w.same _ hp rv
          obtain ⟨a, rfl⟩ := rep_ref rv
          exact ⟨a, p, rfl, hi, c1, c2, cap_le c3, k _ rfl⟩
        · cases e
      · cases e
    · cases e
  · exact .inl (snd_reprA Z H S _ vs d Q w rb e k)
end
end Pm
namespace Pm
open PySem PySem.Spec PyProof.Rows L2
theorem tuple_mul1 (l : Addr) (items : Array Value) (n : Nat) (dd : Option Addr) (sl : Array (Option Value)) (x : Int) (u : Tok) (hx : x = 1) :
    Meets (Builtin.«tuple.__mul__» ⟨[.ref l, .int x u], []⟩) (fun _ R s => s.heap.get? l = some { cls := .type "tuple", dict := dd, data := .seq items n, slots := sl } ∧
      R (.ok (.ret (Value.ref l))) s) :=
  .of_wp fun prog w A R s h => by
    obtain ⟨hp, g, d, tk, os⟩ := s
    obtain ⟨hl, h⟩ := h
    have f1 := AutoSeq1.idx_int
    have c0 : (decide (x < -(2 ^ 63)) || decide (x ≥ 2 ^ 63)) = false := by rw [decide_eq_false (by omega), decide_eq_false (by omega)] <;> rfl
    have c1 : (items.isEmpty || x == 1) = true := by rw [hx, Bool.or_eq_true]; exact .inr rfl
    wp_walk using wpAny_loadPart' hl
    repeat (first
      | (refine wpAny_ite_false (decide_eq_false (by rw [c0]; exact Bool.false_ne_true)) ?_; wp_walk using wpAny_loadPart' hl)
      | (refine wpAny_ite_true (decide_eq_true (by rw [c1])) ?_; wp_walk using wpAny_loadPart' hl))
    exact ⟨_, rfl, h⟩
theorem tuple_mul0 (l : Addr) (items : Array Value) (n : Nat) (dd : Option Addr) (sl : Array (Option Value)) (x : Int) (u : Tok) (h0 : x ≤ 0) (h1 : -(2 ^ 63) ≤ x) (hne : items.isEmpty = false) :
    Meets (Builtin.«tuple.__mul__» ⟨[.ref l, .int x u], []⟩) (fun _ R s => s.heap.get? l = some { cls := .type "tuple", dict := dd, data := .seq items n, slots := sl } ∧
      R (.ok (.ret (Value.ref s.heap.objs.size))) { s with heap := s.heap.push { cls := Value.type "tuple", data := Data.seq #[] }, toks := s.toks }) :=
  .of_wp fun prog w A R s h => by
    obtain ⟨hp, g, d, tk, os⟩ := s
    obtain ⟨hl, h⟩ := h
    have f1 := AutoSeq1.idx_int
    have c0 : (decide (x < -(2 ^ 63)) || decide (x ≥ 2 ^ 63)) = false := by rw [decide_eq_false (by omega), decide_eq_false (by omega)] <;> rfl
    have c1 : (items.isEmpty || x == 1) = false := by rw [hne, Bool.false_or]; exact beq_eq_false_iff_ne.mpr (by omega)
    have c2 : (decide (x ≤ 0) || items.isEmpty) = true := by rw [decide_eq_true h0] <;> rfl
    wp_walk using wpAny_loadPart' hl
    repeat (first
      | (refine wpAny_ite_false (decide_eq_false (by rw [c0]; exact Bool.false_ne_true)) ?_; wp_walk using wpAny_loadPart' hl)
      | (refine wpAny_ite_false (decide_eq_false (by rw [c1]; exact Bool.false_ne_true)) ?_; wp_walk using wpAny_loadPart' hl)
      | (refine wpAny_ite_true (decide_eq_true (by rw [c2])) ?_; wp_walk using wpAny_loadPart' hl))
    exact ⟨_, rfl, h⟩
def rRepTA (K : PySem.W.Frag) : R2 := fun x y H Q => ∃ l k xs, x = .ref l ∧ y = .int k ∧ SqT K H l xs ∧ xs ≠ [] ∧ -(2 ^ 63) ≤ k ∧ k ≤ 1000 ∧ xs.length ≤ 1000 ∧ (k = 1 → Q (.ref l) H) ∧ ∀ p, H p = none → Q (.ref p) (upd H p (.tup (List.replicate k.toNat xs).flatten))
section
variable {K : PySem.W.Frag} {mg : Str → Option Value} {W : WX} {Z H : Hp} {S : Fp} {σ : Sl} {X : Cx}
theorem op_repTA : OpR X (binaryOp .Mult) (rRepTA X.K) := by
  intro pins s σ H x y v u Q I rx ry h
  obtain ⟨l, k, xs, rfl, rfl, hT, hne, h1, h2, hz, q1, q⟩ := h
  by_cases hk : 2 ≤ k
  · exact op_repT pins s σ H _ _ v u Q I rx ry ⟨l, k, xs, rfl, rfl, hT, hne, hk, h2, hz, q⟩
  cases rx
  obtain ⟨t, rfl⟩ := ry
  obtain ⟨its, r, ⟨⟨cls, dd, data, sl⟩, ho, hc, n, hd⟩, hs⟩ := I.tuple hT
  simp only at hc hd
  subst hc hd
  have hle : its.length = xs.length := r.length.symm
  have hn : its ≠ [] := fun e => hne (by
    rw [e] at hle
    exact List.eq_nil_of_length_eq_zero hle.symm)
  have hi : its.toArray.isEmpty = false := by
    cases its with
    | nil => exact absurd rfl hn
    | cons a b => rfl
  by_cases hk1 : k = 1
  · refine wpAny_binaryOp_repeat_ref (T := "tuple") (U := "int") (by decide) ⟨_, ho, rfl⟩ (fun s' => typeIs_int s' k t) noFill_tuple_mul F.fills_int_mul F.slot_int_rmul repeat_tuple F.slot_int_index.lookup
      (call_meets F.slot_int_rmul (typeIs_int s k t) F.entry_int_rmul (F.args_int_rmul_2 _ _) (int_rmul_tuple k t l its.toArray n dd sl)
        ⟨ho, rfl, ⟨_, ho, rfl⟩, call_meets F.slot_tuple_mul ⟨_, ho, rfl⟩ F.entry_tuple_mul (F.args_tuple_mul_2 _ _) (tuple_mul1 l its.toArray n dd sl k t hk1) ⟨ho, ?_⟩⟩)
    exact ⟨.ref l, H, I, rfl, q1 hk1⟩
  · refine wpAny_binaryOp_repeat_ref (T := "tuple") (U := "int") (by decide) ⟨_, ho, rfl⟩ (fun s' => typeIs_int s' k t) noFill_tuple_mul F.fills_int_mul F.slot_int_rmul repeat_tuple F.slot_int_index.lookup
      (call_meets F.slot_int_rmul (typeIs_int s k t) F.entry_int_rmul (F.args_int_rmul_2 _ _) (int_rmul_tuple k t l its.toArray n dd sl)
        ⟨ho, rfl, ⟨_, ho, rfl⟩, call_meets F.slot_tuple_mul ⟨_, ho, rfl⟩ F.entry_tuple_mul (F.args_tuple_mul_2 _ _) (tuple_mul0 l its.toArray n dd sl k t (by omega) h1 hi) ⟨ho, ?_⟩⟩)
    have e0 : (List.replicate k.toNat xs).flatten = [] := by rw [show k.toNat = 0 by omega]; rfl
    have q' := q s.heap.objs.size (I.hok.fresh (Nat.le_refl _))
    rw [e0] at q'
    refine ⟨.ref s.heap.objs.size, _, I.laid (t' := s.toks) (o := .tup []) (fun b ob q => Heap.get?_push_of_some _ q) (Nat.le_refl _) ?_, rfl, q'⟩
    exact ⟨Nat.zero_le _, [], .nil, IsTup.new _ _⟩
def opRepT : List D → Option D
  | [.node false .tup xs, .int k] => if plainL xs = true ∧ xs.length ≠ 0 ∧ -(2 ^ 63) ≤ k ∧ k ≤ 1000 ∧ xs.length ≤ 1000 then some (.tup (List.replicate k.toNat xs).flatten) else none
  | _ => none
theorem opd_repT : Opd X (binaryOp .Mult) opRepT := by
  refine ⟨_, op_repTA, fun Z H S ds vs d Q w rb e k => ?_⟩
  unfold opRepT at e
  split at e
  · split at e
    · rename_i xs n hp
      obtain ⟨h1, h2, h3, h4, h5⟩ := hp
      obtain ⟨v, u, rfl, rv, ru⟩ := rb2 rb
      obtain ⟨a, ys, rfl, c, rl⟩ := rv
      obtain rfl : u = .int n := ru
      have hlen := rl.length
      have rp := rl.plain (H' := H) h1
      cases e
      refine ⟨_, _, rfl, a, n, ys, rfl, rfl, SqT.sam c w.same, fun e => h2 (by rw [hlen, e]; rfl), h3, h4, by omega, fun e => ?_, fun p np => ?_⟩
      · have e1 : (List.replicate n.toNat xs).flatten = xs := by rw [e]; simp
        rw [e1] at k
        refine k (.ref a) Z H Fp0 w.nil (fun _ _ e => e) (fun _ _ x => x) ?_
        exact ⟨a, ys, rfl, c, rp⟩
      · obtain ⟨f1, f2, f3⟩ := fresh_tup w np (reps_rep rp n.toNat)
        exact k _ _ _ _ f1 f2 (fun _ _ x => x) f3
    · cases e
  · cases e
/-- everything that is multiplied -/
def hMulT : List D → Option D
  | [.node o .tup xs, .int k] => opRepT [.node o .tup xs, .int k]
  | ds => hMul ds
theorem opd_hMulT : Opd X (binaryOp .Mult) hMulT := Opd.or opd_hMul opd_repT fun ds d h => by
  unfold hMulT at h
  split at h
  · exact .inr h
  · exact .inl h
theorem hMulT_ii (i j : Int) : hMulT [.int i, .int j] = iMul i j := rfl
end
end Pm
namespace Pm
open PySem PySem.Spec PyProof.Rows L2
/-- the text with these signs -/
def T (l : List Nat) : Str := ⟨l.toArray⟩
theorem T_len (l : List Nat) : (T l).length = l.length := rfl
theorem T_size (l : List Nat) : (T l).cps.size = l.length := rfl
theorem T_list (l : List Nat) : (T l).cps.toList = l := rfl
theorem T_app (a b : List Nat) : T a ++ T b = T (a ++ b) := by
  show (⟨a.toArray ++ b.toArray⟩ : Str) = ⟨(a ++ b).toArray⟩
  rw [← List.append_toArray]
theorem T_inj {a b : List Nat} (h : T a = T b) : a = b := by
  have := congrArg (fun x : Str => x.cps.toList) h
  exact this
theorem T_eq (a b : List Nat) : (T a == T b) = decide (a = b) := by
  by_cases h : a = b
  · subst h; simp
  · rw [decide_eq_false h]
    exact beq_eq_false_iff_ne.mpr fun q => h (T_inj q)
theorem T_lit (s : String) : Str.ofString s = T (s.toList.map Char.toNat) := Str.ofString_eq_toList s
theorem sub_T (c : Nat) (l : List Nat) : subS (T [c]) (T l) = decide (c ∈ l) := PySem.StrLaws.found_one (T l) c
theorem join_T (xs : List (List Nat)) : Txt.join (T []) (xs.map T) = T xs.flatten := by
  rw [TL.join_eq]
  refine TL.ext_tl ?_
  rw [TL.tl_join, List.map_map]
  have e : (xs.map (TL.tl ∘ T)) = xs := by
    induction xs with
    | nil => rfl
    | cons x xs ih => rw [List.map_cons, ih]; rfl
  rw [e]
  show TL.joinL [] xs = xs.flatten
  induction xs with
  | nil => rfl
  | cons x xs ih =>
    cases xs with
    | nil => simp [TL.joinL]
    | cons y ys =>
      have ih' := ih (by
        have := List.tail_eq_of_cons_eq e
        exact this)
      rw [TL.joinL, ih']
      · simp
theorem count_T (l : List Nat) (c : Nat) : Txt.count (T l) (T [c]) = (l.count c : Nat) := by
  show Txt.count (T l) ⟨#[c]⟩ = _
  rw [PyProof.Rows.count_cnt]
  show PyProof.Rows.cnt c l = _
  induction l with
  | nil => rfl
  | cons x xs ih =>
    rw [PyProof.Rows.cnt_cons, ih, List.count_cons]
    by_cases h : x = c
    · subst h; simp; omega
    · simp [h, Ne.symm h]
def slL {α : Type} (xs : List α) (lo hi : Option Int) : List α := (xs.drop (HT.sIx xs.length 0 lo)).take (HT.sIx xs.length xs.length hi - HT.sIx xs.length 0 lo)
theorem slL_to {α : Type} (xs : List α) (k : Nat) : slL xs none (some (k : Int)) = xs.take k := by
  unfold slL
  rw [HT.sIx_none, HT.sIx_nat, List.drop_zero, Nat.sub_zero]
  by_cases h : k ≤ xs.length
  · rw [Nat.min_eq_left h]
  · rw [Nat.min_eq_right (by omega), List.take_of_length_le (Nat.le_refl _), List.take_of_length_le (by omega)]
theorem slL_from {α : Type} (xs : List α) (k : Nat) : slL xs (some (k : Int)) none = xs.drop k := by
  unfold slL
  rw [HT.sIx_none, HT.sIx_nat]
  by_cases h : k ≤ xs.length
  · rw [Nat.min_eq_left h, List.take_of_length_le (by rw [List.length_drop]; exact Nat.le_refl _)]
  · rw [Nat.min_eq_right (by omega), Nat.sub_self, List.take_zero, List.drop_eq_nil_of_le (by omega)]
theorem gCut_T {l : List Nat} (h : l.length ≤ cap) (lo hi : Option Int) : gCut lo hi (.str (T l)) = some (.str (T (slL l lo hi))) := by
  show (if (T l).length ≤ cap then some (D.str (cutS (T l) lo hi)) else none) = _
  rw [if_pos (show (T l).length ≤ cap from h)]
  rfl
theorem join_ok (o : Bool) (xs : List (List Nat)) (h : xs.flatten.length ≤ cap) : opJoin [.str (T []), .node o .lst (xs.map fun l => D.str (T l))] = some (.str (T xs.flatten)) := by
  have e : (xs.map fun l => D.str (T l)) = (xs.map T).map D.str := by rw [List.map_map]; rfl
  rw [e]
  show (match strsD ((xs.map T).map D.str) with | some ys => if (ys.map fun y : Str => y.length).sum + ys.length * (T []).length ≤ cap then some (D.str (Txt.join (T []) ys)) else none | none => none) = _
  rw [strsD_map]
  have hs : ((xs.map T).map fun y : Str => y.length).sum + (xs.map T).length * (T []).length ≤ cap := by
    rw [show (T []).length = 0 from rfl, Nat.mul_zero, Nat.add_zero, List.map_map]
    refine Nat.le_trans (Nat.le_of_eq ?_) h
    rw [List.length_flatten]
    rfl
  simp only
  rw [if_pos hs, join_T]
theorem add_T {a b : List Nat} (h : a.length + b.length ≤ cap) : hAdd [.str (T a), .str (T b)] = some (.str (T (a ++ b))) := by
  rw [hAdd_ss (show (T a).length + (T b).length ≤ cap from h), T_app]
end Pm
namespace Pm
open PySem PySem.Spec PyProof.Rows L2
def okK : Key → Bool
  | .inl i => decide (i.natAbs.log2 < 200)
  | .inr x => x.cps.toList.all fun c => decide (c < 128)
def wtK : List Key → Nat
  | [] => 0
  | .inl _ :: r => 1 + wtK r
  | .inr x :: r => x.cps.size + 1 + wtK r
mutual
def okD (B : Nat) : D → Bool
  | .non => true
  | .bl _ => true
  | .int i => decide (i.natAbs ≤ B)
  | .str x => x.cps.toList.all fun c => decide (c < 128)
  | .op _ => false
  | .node _ .lst xs => okL B xs
  | .node _ .tup xs => okL B xs
  | .node _ (.dct ks) xs => decide (ks.length = xs.length) && (ks.all okK && okL B xs)
  | .node _ _ _ => false
def okL (B : Nat) : List D → Bool
  | [] => true
  | d :: ds => okD B d && okL B ds
end
mutual
def dpD : D → Nat
  | .node _ _ xs => dpL xs + 1
  | _ => 0
def dpL : List D → Nat
  | [] => 0
  | d :: ds => max (dpD d) (dpL ds)
end
mutual
def wtD : D → Nat
  | .str x => x.cps.size
  | .node _ (.dct ks) xs => wtK ks + wtL xs
  | .node _ _ xs => wtL xs
  | _ => 0
def wtL : List D → Nat
  | [] => 0
  | d :: ds => wtD d + 1 + wtL ds
end
theorem okL_all {B : Nat} : ∀ {xs : List D}, okL B xs = true ↔ ∀ x ∈ xs, okD B x = true
  | [] => by simp [okL]
  | x :: xs => by rw [okL, Bool.and_eq_true, okL_all]; simp
theorem dpL_le {n : Nat} : ∀ {xs : List D}, dpL xs ≤ n ↔ ∀ x ∈ xs, dpD x ≤ n
  | [] => by simp [dpL]
  | x :: xs => by rw [dpL]; simp only [List.mem_cons, forall_eq_or_imp, ← dpL_le (xs := xs)]; omega
theorem wtL_mem {x : D} : ∀ {xs : List D}, x ∈ xs → wtD x + 1 ≤ wtL xs
  | y :: ys, h => by
    rw [wtL]
    rcases List.mem_cons.mp h with h | h
    · subst h; omega
    · have := wtL_mem h; omega
theorem wtL_len : ∀ (xs : List D), xs.length ≤ wtL xs
  | [] => Nat.zero_le _
  | x :: xs => by rw [wtL, List.length_cons]; have := wtL_len xs; omega
theorem wtL_le {c : Nat} : ∀ {xs : List D}, (∀ x ∈ xs, wtD x ≤ c) → wtL xs ≤ xs.length * (c + 1)
  | [], _ => by rw [wtL]; exact Nat.zero_le _
  | x :: xs, h => by
    rw [wtL, List.length_cons, Nat.add_mul]
    have := h x List.mem_cons_self
    have := wtL_le (xs := xs) fun y hy => h y (List.mem_cons_of_mem _ hy)
    omega
theorem int_log {i : Int} {B : Nat} (hB : B < 2 ^ 199) (h : i.natAbs ≤ B) : i.natAbs.log2 < 200 := by
  by_cases h0 : i.natAbs = 0
  · rw [h0]; decide
  · exact (Nat.log2_lt h0).mpr (by omega)
/-- what is shown of a thing -/
def Pdk (p : PyData) (n w : Nat) : Prop := p.showable = true ∧ p.leavesShort 201 = true ∧ p.depth = n ∧ p.bulk = w
def PdkL (ps : List PyData) (n w : Nat) : Prop := PyData.showableAll ps = true ∧ PyData.leavesShortAll 201 ps = true ∧ PyData.depthAll ps = n ∧ PyData.bulkAll ps = w
theorem pdk_str {x : Str} (h : (x.cps.toList.all fun c => decide (c < 128)) = true) : PyData.leavesShort 201 (.str x) = true := by
  rw [PyData.leavesShort, List.all_eq_true]
  intro c hc
  have := List.all_eq_true.mp h c hc
  simp only [decide_eq_true_eq] at this ⊢
  exact Nat.lt_trans this (by decide)
theorem pdk_key {k : Key} (h : okK k = true) : PyData.showable (keyP k) = true ∧ PyData.leavesShort 201 (keyP k) = true ∧ PyData.depth (keyP k) = 0 := by
  cases k with
  | inl i =>
    have h' : i.natAbs.log2 < 200 := by simpa [okK] using h
    refine ⟨?_, ?_, by rw [keyP, PyData.depth]⟩
    · rw [keyP, PyData.showable]; exact decide_eq_true (Nat.lt_trans h' (by decide))
    · rw [keyP, PyData.leavesShort]; exact decide_eq_true (int_short h')
  | inr x => exact ⟨by rw [keyP, PyData.showable], by rw [keyP]; exact pdk_str h, by rw [keyP, PyData.depth]⟩
theorem pdk_kv : ∀ {ks : List Key} {ps : List PyData} {n w : Nat}, ks.length = ps.length → ks.all okK = true → PdkL ps n w →
    PyData.showableKv ((ks.map keyP).zip ps) = true ∧ PyData.leavesShortKv 201 ((ks.map keyP).zip ps) = true ∧ PyData.depthKv ((ks.map keyP).zip ps) = n ∧ PyData.bulkKv ((ks.map keyP).zip ps) = wtK ks + w
  | [], [], n, w, _, _, ⟨_, _, h3, h4⟩ => ⟨rfl, rfl, h3, by rw [wtK, Nat.zero_add]; exact h4⟩
  | [], _ :: _, _, _, h, _, _ => by simp at h
  | _ :: _, [], _, _, h, _, _ => by simp at h
  | k :: ks, p :: ps, n, w, h, hk, ⟨h1, h2, h3, h4⟩ => by
    rw [List.all_cons, Bool.and_eq_true] at hk
    rw [PyData.showableAll, Bool.and_eq_true] at h1
    rw [PyData.leavesShortAll, Bool.and_eq_true] at h2
    rw [PyData.depthAll] at h3
    rw [PyData.bulkAll] at h4
    obtain ⟨i1, i2, i3, i4⟩ := pdk_kv (ks := ks) (ps := ps) (by simpa using h) hk.2 ⟨h1.2, h2.2, rfl, rfl⟩
    obtain ⟨k1, k2, k3⟩ := pdk_key hk.1
    refine ⟨?_, ?_, ?_, ?_⟩
    · rw [List.map_cons, List.zip_cons_cons, PyData.showableKv, k1, h1.1, i1]; rfl
    · rw [List.map_cons, List.zip_cons_cons, PyData.leavesShortKv, k2, h2.1, i2]; rfl
    · rw [List.map_cons, List.zip_cons_cons, PyData.depthKv, k3, i3]; omega
    · rw [List.map_cons, List.zip_cons_cons, PyData.bulkKv, i4]
      cases k with
      | inl i => rw [wtK, keyP, PyData.bulk]; omega
      | inr x => rw [wtK, keyP, PyData.bulk]; omega
mutual
theorem ok_pd {B : Nat} (hB : B < 2 ^ 199) : ∀ d : D, okD B d = true → ∃ p, pd d = some p ∧ Pdk p (dpD d) (wtD d)
  | .non, _ => ⟨.none, rfl, rfl, rfl, rfl, rfl⟩
  | .bl b, _ => ⟨.bool b, rfl, rfl, rfl, rfl, rfl⟩
  | .int i, h => by
    have h' : i.natAbs.log2 < 200 := int_log hB (by simpa [okD] using h)
    refine ⟨.int i, rfl, ?_, ?_, rfl, rfl⟩
    · rw [PyData.showable]; exact decide_eq_true (Nat.lt_trans h' (by decide))
    · rw [PyData.leavesShort]; exact decide_eq_true (int_short h')
  | .str x, h => ⟨.str x, rfl, rfl, pdk_str h, rfl, rfl⟩
  | .op _, h => by simp [okD] at h
  | .node o .lst xs, h => by
    obtain ⟨ps, e, _, h1, h2, h3, h4⟩ := ok_pdL hB xs h
    exact ⟨.list ps, by rw [pd, e]; rfl, h1, h2, by rw [PyData.depth, dpD, h3], by rw [PyData.bulk, wtD, h4]; simp⟩
  | .node o .tup xs, h => by
    obtain ⟨ps, e, _, h1, h2, h3, h4⟩ := ok_pdL hB xs h
    exact ⟨.tuple ps, by rw [pd, e]; rfl, h1, h2, by rw [PyData.depth, dpD, h3], by rw [PyData.bulk, wtD, h4]; simp⟩
  | .node o (.dct ks) xs, h => by
    rw [okD, Bool.and_eq_true, Bool.and_eq_true, decide_eq_true_eq] at h
    obtain ⟨ps, e, hl, hh⟩ := ok_pdL hB xs h.2.2
    obtain ⟨h1, h2, h3, h4⟩ := pdk_kv (by rw [h.1, hl]) h.2.1 hh
    exact ⟨.dict ((ks.map keyP).zip ps), by rw [pd, e, if_pos h.1]; rfl, h1, h2, by rw [PyData.depth, dpD, h3], by rw [PyData.bulk, wtD, h4]⟩
  | .node _ .scr _, h => by simp [okD] at h
  | .node _ (.obj _ _) _, h => by simp [okD] at h
  | .node _ (.ins _ _) _, h => by simp [okD] at h
theorem ok_pdL {B : Nat} (hB : B < 2 ^ 199) : ∀ ds : List D, okL B ds = true → ∃ ps, pdL ds = some ps ∧ ds.length = ps.length ∧ PdkL ps (dpL ds) (wtL ds)
  | [], _ => ⟨[], rfl, rfl, rfl, rfl, rfl, rfl⟩
  | d :: ds, h => by
    rw [okL, Bool.and_eq_true] at h
    obtain ⟨p, e, h1, h2, h3, h4⟩ := ok_pd hB d h.1
    obtain ⟨ps, es, hl, i1, i2, i3, i4⟩ := ok_pdL hB ds h.2
    refine ⟨p :: ps, by rw [pdL, e, es], by rw [List.length_cons, List.length_cons, hl], ?_, ?_, ?_, ?_⟩
    · rw [PyData.showableAll, h1, i1]; rfl
    · rw [PyData.leavesShortAll, h2, i2]; rfl
    · rw [PyData.depthAll, dpL, h3, i3]
    · rw [PyData.bulkAll, wtL, h4, i4]
end
theorem reprC_A {d : D} {r : Option D} (h : ∀ o k xs, d ≠ .node o k xs) (e : opReprA [d] = r) : opReprC [d] = r := by
  cases d with
  | node o k xs => exact absurd rfl (h o k xs)
  | _ => exact e
/-- it is shown -/
theorem reprC_ok {B : Nat} {d : D} (hB : B < 2 ^ 199) (h : okD B d = true) (hn : dpD d ≤ 60) (hw : wtD d ≤ 4000) : ∃ s, opReprC [d] = some (.str s) := by
  obtain ⟨p, e, h1, h2, h3, h4⟩ := ok_pd hB d h
  have b := PyData.shown_le_bulk 201 (by decide) p h2
  cases d with
  | node o k xs =>
    refine ⟨p.shown, ?_⟩
    unfold opReprC
    simp only [e]
    rw [if_pos ⟨h1, by omega, by show _ ≤ 1000000; omega⟩]
  | non => exact ⟨_, reprC_A (by simp) (reprA_low (n := 0) (d := .non) rfl (by decide) (by decide))⟩
  | bl b => exact ⟨_, reprC_A (by simp) (reprA_low (n := 0) (d := .bl b) rfl (by decide) (by rw [mass_bl]; decide))⟩
  | int i => exact ⟨_, reprC_A (by simp) (reprA_low (n := 0) (d := .int i) (by simpa [low] using int_log hB (by simpa [okD] using h)) (by decide) (by rw [mass_int]; decide))⟩
  | str x =>
    refine ⟨_, reprC_A (by simp) (reprA_low (n := 0) (d := .str x) ?_ (by decide) (by rw [mass_str]; simpa [wtD] using hw))⟩
    show PyData.strOk x = true
    show (x.cps.all fun c => decide (c < 0x110000)) = true
    have h' : (x.cps.toList.all fun c => decide (c < 128)) = true := by simpa [okD] using h
    rw [Array.all_eq_true']
    intro c hc
    have := List.all_eq_true.mp h' c (by simpa using hc)
    simp only [decide_eq_true_eq] at this ⊢
    exact Nat.lt_trans this (by decide)
  | op v => simp [okD] at h
theorem ok_ty {B : Nat} {d : D} (h : okD B d = true) : (tyN d).isSome = true := by
  cases d with
  | node o k xs => cases k <;> first | rfl | simp [okD] at h
  | op v => simp [okD] at h
  | _ => rfl
end Pm
namespace Pm
open PySem PySem.Spec PyProof.Rows L2
section
variable {K : PySem.W.Frag} {mg : Str → Option Value} {W : WX} {Z H : Hp} {S : Fp} {σ : Sl} {X : Cx} {e : Expr} {es : List Expr} {fa fb : M EV} {pos : Pos}
theorem call_listT (hc : X.calm = true) : CallR X (.type "list") (fun xs H Q => ∃ x : Str, xs = [.str x] ∧ x.length ≤ 1000000 ∧ ∀ l, H l = none → Q (.ref l) (upd H l (.lst (x.cps.toList.map fun c => V.str ⟨#[c]⟩)))) := by
  intro pins s σ H xs us Q I r h
  obtain ⟨x, rfl, hx, q⟩ := h
  obtain ⟨u, rfl, rx⟩ := vals1 r
  obtain ⟨t, rfl⟩ := rx
  have hz : x.cps.size ≤ sizeLine := by
    rw [sizeLine_eq]
    have : x.cps.size ≤ 1000000 := hx
    omega
  refine PySem.call_list_str (I.ok.hd hc) x t (fun h' tk acc' c' hk hS hacc => ?_) hz
  refine ⟨.ref s.heap.objs.size, upd H s.heap.objs.size (.lst (x.cps.toList.map fun c => V.str ⟨#[c]⟩)), I.laid hk (Nat.le_refl _) (show ObjOk X.prog X.w _ _ _ (.lst (x.cps.toList.map fun c => V.str ⟨#[c]⟩)) from ⟨?_, acc'.toList, c', ?_, ?_⟩), rfl, q _ (I.hok.fresh (Nat.le_refl _))⟩
  · rw [List.length_map, Array.length_toList]; exact hz
  · have el : acc'.toList.length = acc'.size := by simp
    refine vals_of_at (by rw [List.length_map, el, hacc.1, Array.length_toList]) fun j y w h1 h2 => ?_
    have h3 := hacc.2 j w (by rw [← Array.getElem?_toList]; exact h2)
    obtain ⟨c, t2, hc2, rfl⟩ := h3
    rw [List.getElem?_map, Array.getElem?_toList, hc2] at h1
    cases h1
    exact ⟨t2, rfl⟩
  · rw [Array.toArray_toList]; exact hS
def opListA : List D → Option D
  | [.str x] => if x.length ≤ cap then some (.lst true (signsD x)) else none
  | ds => opList ds
theorem call_listA (hc : X.calm = true) : CallR X (.type "list") (fun xs H Q => (∃ p ys, xs = [.ref p] ∧ (SqL X.K H p ys ∨ SqT X.K H p ys) ∧ ∀ l, H l = none → Q (.ref l) (upd H l (.lst ys))) ∨ ∃ x : Str, xs = [.str x] ∧ x.length ≤ 1000000 ∧ ∀ l, H l = none → Q (.ref l) (upd H l (.lst (x.cps.toList.map fun c => V.str ⟨#[c]⟩)))) := by
  intro pins s σ H xs us Q I r h
  rcases h with h | h
  · exact call_list_of pins s σ H xs us Q I r h
  · exact call_listT hc pins s σ H xs us Q I r h
theorem rep_signs (l : List Nat) : RepL K Z H (l.map fun c => D.str ⟨#[c]⟩) (l.map fun c => V.str ⟨#[c]⟩) Fp0 := by
  induction l with
  | nil => trivial
  | cons c l ih => exact ⟨Fp0, Fp0, fun _ x => x, fun _ x => x, fun _ x _ => x, rfl, ih⟩
theorem snd_listA : Snd X (fun xs H Q => (∃ p ys, xs = [.ref p] ∧ (SqL X.K H p ys ∨ SqT X.K H p ys) ∧ ∀ l, H l = none → Q (.ref l) (upd H l (.lst ys))) ∨ ∃ x : Str, xs = [.str x] ∧ x.length ≤ 1000000 ∧ ∀ l, H l = none → Q (.ref l) (upd H l (.lst (x.cps.toList.map fun c => V.str ⟨#[c]⟩)))) opListA := by
  intro Z H S ds vs d Q w rb e k
  unfold opListA at e
  split at e
  · rename_i x
    split at e
    · rename_i hx
      obtain ⟨v, rfl, rv⟩ := rb1 rb
      obtain rfl : v = .str x := rv
      cases e
      refine .inr ⟨x, rfl, hx, fun p np => ?_⟩
      obtain ⟨f1, f2, f3, f4⟩ := fresh_lst w np (rep_signs (K := X.K) (Z := Z) (H := H) x.cps.toList)
      exact k _ _ _ _ f1 f2 f3 f4
    · cases e
  · exact .inl (snd_list Z H S ds vs d Q w rb e k)
end
end Pm
namespace Pg
open PySem PySem.Spec PyProof.Rows L2 Pm
noncomputable def c_lrules_1 (S : FSem) : M EV := comp [8] (srcR1 (aCons (Pm.bin hAdd (con (.int 1)) (callF S (aCons (loc 0) (aCons (con (.int 6)) aNil)))) aNil)) (gN 8) yesT (popi 1 (callF S (aCons (loc 0) (aCons (app opLen (aCons (loc 1) aNil)) aNil))))
noncomputable def c_lsigns_1 : M EV := comp [9] (srcA (loc 1)) (gN 9) yesT (idx (aCons (loc 9) (aCons (con (.int 0)) aNil)))
noncomputable def c_lsigns_2 (S : FSem) : M EV := comp [7] (srcR1 (aCons (con (.int 2)) aNil)) (gN 7) yesT (idx (aCons (loc 3) (aCons (callF S (aCons (loc 0) (aCons (app opLen (aCons (loc 3) aNil)) aNil))) aNil)))
noncomputable def b_lsigns_1 (S : FSem) : M Fl := (seq (asg (idx (aCons (loc 3) (aCons (callF S (aCons (loc 0) (aCons (app opLen (aCons (loc 3) aNil)) aNil))) aNil))) (gN 8))
    (seq (Pm.ite (andT (tst (Pm.bin opEq (loc 4) (con (.int 1)))) (tst (Pm.bin opGtA (callF S (aCons (loc 0) (aCons (con (.int 4)) aNil))) (con (.int 0))))) (asg (idx (aCons (loc 5) (aCons (con (.int 0)) aNil))) (gN 8)) sNx)
    (asg (Pm.bin hAdd (loc 6) (idx (aCons (disp true .lst (aCons (loc 8) (aCons (idx (aCons (loc 5) (aCons (Pm.bin (on2I iMod) (loc 7) (con (.int 2))) aNil))) aNil))) (aCons (app opInt (aCons (Pm.bin opEq (loc 4) (con (.int 2))) aNil)) aNil)))) (gN 6))))
noncomputable def b_lsigns (S : FSem) : M Fl := (seq (asg c_lsigns_1 (gN 3))
    (seq (asg (callF S (aCons (loc 0) (aCons (con (.int 3)) aNil))) (gN 4))
    (seq (asg (c_lsigns_2 S) (gN 5))
    (seq (asg (con (.str "")) (gN 6))
    (seq (forS (srcR1 (aCons (loc 2) aNil)) (gN 7) (b_lsigns_1 S))
    (rtn (mov 6)))))))
noncomputable def x_lsigns (S : FSem) : FSem := mkF 3 10 [] (b_lsigns S)
abbrev sg (c : Nat) : D := .str (T [c])
/-- a table as it is known here: letters as code points -/
abbrev Tab := List (Nat × Int × Int)
def rowD (r : Nat × Int × Int) : D := .tup [sg r.1, .int r.2.1, .int r.2.2]
def tabD (t : Tab) : D := .tup (t.map rowD)
abbrev GR : Int := 1000000000000
structure TabOk (t : Tab) : Prop where
  len1 : 1 ≤ t.length
  len6 : t.length ≤ 6
  asc : (t.map (·.1)).Pairwise (· < ·)
  let1 : ∀ r ∈ t, 97 ≤ r.1 ∧ r.1 ≤ 122
  num : ∀ r ∈ t, -GR ≤ r.2.1 ∧ r.2.1 ≤ GR ∧ -GR ≤ r.2.2 ∧ r.2.2 ≤ GR
theorem rowD_plain (r : Nat × Int × Int) : (rowD r).plain = true := rfl
theorem rows_plain (t : Tab) : plainL (t.map rowD) = true := by
  induction t with
  | nil => rfl
  | cons r t ih => rw [List.map_cons, plainL, ih, rowD_plain]; rfl
theorem tabD_plain (t : Tab) : (tabD t).plain = true := by
  show (true && plainL (t.map rowD)) = true
  rw [rows_plain]; rfl
theorem tabD_frz (t : Tab) : (tabD t).frz = tabD t := D.frz_of_plain _ (tabD_plain t)
/-- a draw, the pen owned -/
theorem dr {S : FSem} (hS : Draws S) {ns : List Int} {a m : Int} {xs : List D} (hl : ns.length ≤ 63) (hp : Pen ns a (.node true .lst xs)) (ha : a ≤ 1000000) (hm : 0 < m) (hd : divOk m = true) :
    ∃ (r : Int) (xs' : List D), S [.node true .lst xs, .int m] = .ret (.int r) [.node true .lst xs', .int m] ∧ 0 ≤ r ∧ r < m ∧ Pen ns (a + 1) (.node true .lst xs') := by
  obtain ⟨r, d', e, h0, h1, p⟩ := hS ns _ a m hl hp ha hm hd
  obtain ⟨xs', rfl⟩ := p.owned
  exact ⟨r, xs', e, h0, h1, p⟩
theorem divS {m : Int} (h0 : 0 ≤ m) (h1 : m ≤ 100000000000000) : divOk m = true := Sm.divOk (e := 50) (by unfold Sm; omega) (by decide)
abbrev ABC : List Nat := [97, 98, 99, 100, 101, 102, 103, 104, 105, 106, 107, 108, 109, 110, 111, 112, 113, 114, 115, 116, 117, 118, 119, 120, 121, 122]
theorem abc_T : (("abcdefghijklmnopqrstuvwxyz" : String) : Str) = T ABC := by
  rw [show ((("abcdefghijklmnopqrstuvwxyz" : String) : Str)) = Str.ofString "abcdefghijklmnopqrstuvwxyz" from rfl, T_lit]; rfl
theorem sgs_plain (l : List Nat) : plainL (l.map sg) = true := by
  induction l with
  | nil => rfl
  | cons x xs ih => rw [List.map_cons, plainL, ih]; rfl
theorem get_sg {l : List Nat} {k : Nat} (h : k < l.length) : (l.map sg)[k]? = some (sg l[k]) := by
  rw [List.getElem?_map, List.getElem?_eq_getElem h]; rfl
theorem erase_map {α β : Type} (f : α → β) : ∀ (l : List α) (k : Nat), (l.map f).eraseIdx k = (l.eraseIdx k).map f
  | [], _ => by simp
  | _ :: _, 0 => by simp
  | x :: xs, k + 1 => by simp [erase_map f xs k]
theorem erase_perm {α : Type} : ∀ (l : List α) (k : Nat) (h : k < l.length), (l[k] :: l.eraseIdx k).Perm l
  | [], _, h => by simp at h
  | _ :: _, 0, _ => by simp
  | x :: xs, k + 1, h => by
    have ih := erase_perm xs k (by simpa using h)
    simp only [List.getElem_cons_succ, List.eraseIdx_cons_succ]
    exact (List.Perm.swap x _ _).trans (List.Perm.cons x ih)
theorem perm_erase {p l q : List Nat} {k : Nat} (h : k < l.length) (hp : (p ++ l).Perm q) : ((p ++ [l[k]]) ++ l.eraseIdx k).Perm q := by
  refine List.Perm.trans ?_ hp
  rw [List.append_assoc]
  refine List.Perm.append_left p ?_
  exact erase_perm l k h
/-- letters drawn without repetition -/
theorem marks_ok {S : FSem} (hS : Draws S) {ns : List Int} {a : Int} {z : List D} (hl : ns.length ≤ 63) (hp : Pen ns a (.node true .lst z)) (ha : a + 100 ≤ 1000000) :
    ∃ (z' : List D) (l ps : List Nat), (c_lrules_1 S) [some (.node true .lst z), some (.node true .lst (ABC.map sg)), none, none, none, none, none, none, none]
      = .ok (.val (.lst true (ps.map sg))) [some (.node true .lst z'), some (.node true .lst (l.map sg)), none, none, none, none, none, none, none] ∧ Pen ns (a + 10) (.node true .lst z') ∧ 1 ≤ ps.length ∧ ps.length ≤ 6 ∧ (ps ++ l).Perm ABC := by
  obtain ⟨r1, z1, e1, r10, r11, p1⟩ := dr hS (m := 6) hl hp (by omega) (by decide) (by decide)
  obtain ⟨n, rfl⟩ := Int.eq_ofNat_of_zero_le r10
  have hsrc : srcR1 (aCons (Pm.bin hAdd (con (.int 1)) (callF S (aCons (loc 0) (aCons (con (.int 6)) aNil)))) aNil) [some (.node true .lst z), some (.node true .lst (ABC.map sg)), none, none, none, none, none, none, none]
      = .ok (rangeD 0 (n + 1)) [some (.node true .lst z1), some (.node true .lst (ABC.map sg)), none, none, none, none, none, none, none] := by
    refine src_r1 (es := [.val (.int ((n : Int) + 1))]) (n := n + 1) ?_ ?_ (by omega)
    · simp [mkF, reFrz, seq, Pm.ite, rtn, mov, asg, drp, sNx, bnd, Pm.bin, Pm.un, app, aCons, aNil, idx, loc, con, Pm.ret, peek1, peeks, itemOf, on2I, iAdd, iSub, iGt, iGe, iLt, iLe, iDiv, iMod, use1, useL, gI, gN, tst, andT, orT, notT, andE, orE, notE, ifE, ixN, D.frz, D.plain, plainL, argsBack, opLen, opAbs, opInt1, opNeg, disp, cap, callF, takes, puts, selA, sel, aApp, par, gT, gsC, gs0, appF, opDivmod, frzL, plainL, e1, hAdd_ii, Int.add_comm]
    · simp [mkF, reFrz, seq, Pm.ite, rtn, mov, asg, drp, sNx, bnd, Pm.bin, Pm.un, app, aCons, aNil, idx, loc, con, Pm.ret, peek1, peeks, itemOf, on2I, iAdd, iSub, iGt, iGe, iLt, iLe, iDiv, iMod, use1, useL, gI, gN, tst, andT, orT, notT, andE, orE, notE, ifE, ixN, D.frz, D.plain, plainL, argsBack, opLen, opAbs, opInt1, opNeg, disp, cap, callF, takes, puts, selA, sel, aApp, par, gT, gsC, gs0, appF, opDivmod, frzL, plainL]
  obtain ⟨acc, ρ', e, z', l, ps, rfl, p', rfl, hperm, hlen⟩ := comp_wp (own := [8]) (g := gN 8) (c := yesT) (e := popi 1 (callF S (aCons (loc 0) (aCons (app opLen (aCons (loc 1) aNil)) aNil)))) hsrc
    (fun j ρ acc => ∃ (z' : List D) (l ps : List Nat), ρ = [some (.node true .lst z'), some (.node true .lst (l.map sg)), none, none, none, none, none, none, none] ∧ Pen ns (a + 1 + j) (.node true .lst z') ∧ acc = ps.map sg ∧ (ps ++ l).Perm ABC ∧ ps.length = j)
    ⟨z1, ABC, [], rfl, p1.mono (by omega), rfl, List.Perm.refl _, rfl⟩ (by rw [range_len]; show n + 1 ≤ 1000000; omega)
    (fun j d ρ acc hd ⟨z', l, ps, e, hp', ea, hperm, hlen⟩ => by
      subst e
      obtain ⟨hj, rfl⟩ := range_get hd
      have hsum : ps.length + l.length = 26 := by rw [← List.length_append, hperm.length_eq]; rfl
      obtain ⟨r, z2, e2, r20, r21, p2⟩ := dr hS (m := (l.length : Int)) hl hp' (by omega) (by omega) (divS (by omega) (by omega))
      obtain ⟨k, rfl⟩ := Int.eq_ofNat_of_zero_le r20
      have hk : k < l.length := by omega
      refine ⟨_, rfl, ?_⟩
      refine Wp.of (a := true) rfl ⟨fun _ => ?_, fun q => nomatch q⟩
      refine Wp.of (a := .val (sg l[k])) (ρ' := [some (.node true .lst z2), some (.node true .lst ((l.map sg).eraseIdx k)), none, none, none, none, none, none, some (.int (0 + (j : Int)))]) ?_ ?_
      · have hc : l.length ≤ cap := by show _ ≤ 1000000; omega
        have h1 : ixN l.length (k : Int) = some k := by
          unfold ixN
          rw [if_pos (by omega), if_pos (by omega), Int.toNat_natCast]
        simp [popi, mkF, reFrz, seq, Pm.ite, rtn, mov, asg, drp, sNx, bnd, Pm.bin, Pm.un, app, aCons, aNil, idx, loc, con, Pm.ret, peek1, peeks, itemOf, on2I, iAdd, iSub, iGt, iGe, iLt, iLe, iDiv, iMod, use1, useL, gI, gN, tst, andT, orT, notT, andE, orE, notE, ifE, D.frz, D.plain, plainL, argsBack, opLen, opAbs, opInt1, opNeg, disp, cap, callF, takes, puts, selA, sel, aApp, par, gT, gsC, gs0, appF, opDivmod, frzL, plainL, e2, get_sg hk, h1, hk, hc]
      · refine ⟨_, _, rfl, z2, l.eraseIdx k, ps ++ [l[k]], ?_, p2.mono (by omega), by rw [ea]; simp, perm_erase hk hperm, by simp [hlen]⟩
        simp [wipeE, erase_map])
  rw [range_len] at p' hlen
  refine ⟨z', l, ps, ?_, p'.mono (by omega), by omega, by omega, hperm⟩
  unfold c_lrules_1
  rw [e]
  rfl
theorem strs_sg (ps : List Nat) : strsD (ps.map sg) = some (ps.map fun c => T [c]) := by
  have e : ps.map sg = (ps.map fun c => T [c]).map D.str := by rw [List.map_map]; rfl
  rw [e, strsD_map]
theorem ints_sg {ps : List Nat} (h : ps ≠ []) : intsD (ps.map sg) = none := by
  cases ps with
  | nil => exact absurd rfl h
  | cons p ps => rfl
theorem leS_sg (c d : Nat) : leS (T [c]) (T [d]) = decide (c ≤ d) := by
  unfold leS
  rw [T_list, T_list]
  by_cases h : c ≤ d
  · rw [decide_eq_true h, Bool.not_eq_true', decide_eq_false_iff_not]
    intro q
    rcases List.cons_lt_cons_iff.mp q with q | ⟨_, q⟩
    · omega
    · exact absurd q (List.lt_irrefl _)
  · rw [decide_eq_false h, Bool.not_eq_false', decide_eq_true_eq]
    exact List.cons_lt_cons_iff.mpr (.inl (by omega))
/-- sorted letters -/
theorem sorted_sg (ps : List Nat) (h : ps ≠ []) (hl : ps.length < 64) (hn : ps.Nodup) : ∃ qs : List Nat, opSorted [.node true .lst (ps.map sg)] = some (.lst true (qs.map sg)) ∧ qs.Perm ps ∧ qs.Pairwise (· < ·) := by
  have hp := sortS_perm (ps.map fun c => T [c])
  have hpair := sortS_pair (ps.map fun c => T [c])
  obtain ⟨qs, hq, e⟩ : ∃ qs : List Nat, qs.Perm ps ∧ sortS (ps.map fun c => T [c]) = qs.map fun c => T [c] := by
    have := hp
    generalize sortS (ps.map fun c => T [c]) = l at this
    refine ⟨l.map fun x => x.cps.toList.headD 0, ?_, ?_⟩
    · have h2 := this.map (fun x : Str => x.cps.toList.headD 0)
      rw [List.map_map] at h2
      have e : (ps.map ((fun x : Str => x.cps.toList.headD 0) ∘ fun c => T [c])) = ps := by
        conv => rhs; rw [← List.map_id ps]
        rfl
      rw [e] at h2
      exact h2
    · rw [List.map_map]
      have all : ∀ x ∈ l, ∃ c, x = T [c] := fun x hx => by
        have := this.mem_iff.mp hx
        obtain ⟨c, _, rfl⟩ := List.mem_map.mp this
        exact ⟨c, rfl⟩
      conv => lhs; rw [← List.map_id l]
      refine List.map_congr_left fun x hx => ?_
      obtain ⟨c, rfl⟩ := all x hx
      rfl
  refine ⟨qs, ?_, hq, ?_⟩
  · show (match intsD (ps.map sg) with | some ns => some (D.lst true ((sortI ns).map D.int)) | none => match strsD (ps.map sg) with | some ys => if ys.length < 64 then some (.lst true ((sortS ys).map D.str)) else none | none => none) = _
    rw [ints_sg h, strs_sg]
    simp only
    rw [if_pos (by rw [List.length_map]; exact hl), e, List.map_map]
    rfl
  · rw [e] at hpair
    have h1 : qs.Pairwise fun x y => leS (T [x]) (T [y]) = true := List.pairwise_map.mp hpair
    have h2 : qs.Nodup := hq.nodup_iff.mpr hn
    have h3 := h1.and h2
    exact h3.imp fun {x y} ⟨q1, q2⟩ => by
      rw [leS_sg, decide_eq_true_eq] at q1
      omega
theorem pow12 : iPow 10 12 = some (.int 1000000000000) := rfl
end Pg
namespace Pg
open PySem PySem.Spec PyProof.Rows L2 Pm
def lets (t : Tab) : List Nat := t.map (·.1)
theorem TabOk.lets_ne {t : Tab} (h : TabOk t) : lets t ≠ [] := fun e => by
  have := h.len1
  have e2 := congrArg List.length e
  simp only [lets, List.length_map, List.length_nil] at e2
  omega
theorem heads_ok (t : Tab) (hl : t.length ≤ 1000) (v0 v2 v3 v4 v5 v6 v7 v8 : Option D) : c_lsigns_1 [v0, some (tabD t), v2, v3, v4, v5, v6, v7, v8, none] = .ok (.val (.lst true ((lets t).map sg))) [v0, some (tabD t), v2, v3, v4, v5, v6, v7, v8, none] := by
  have hs : srcA (loc 1) [v0, some (tabD t), v2, v3, v4, v5, v6, v7, v8, none] = .ok (t.map rowD) [v0, some (tabD t), v2, v3, v4, v5, v6, v7, v8, none] := by
    have := rows_plain t
    have h2 := tabD_frz t
    simp [mkF, reFrz, seq, Pm.ite, rtn, mov, asg, drp, sNx, bnd, Pm.bin, Pm.un, app, aCons, aNil, idx, loc, con, Pm.ret, peek1, peeks, itemOf, on2I, iAdd, iSub, iGt, iGe, iLt, iLe, iDiv, iMod, use1, useL, gI, gN, tst, andT, orT, notT, andE, orE, notE, ifE, ixN, D.frz, D.plain, plainL, argsBack, opLen, opAbs, opInt1, opNeg, disp, cap, callF, takes, puts, selA, sel, aApp, par, gT, gsC, gs0, appF, opDivmod, frzL, plainL, srcA, tabD, frzL_of_plain _ this]
  unfold c_lsigns_1
  rw [comp_map (fun d => match d with | .node _ _ (a :: _) => a | _ => .non) hs rfl rfl (by rw [List.length_map]; show t.length ≤ 1000000; omega) fun d hd => ?_]
  · congr 3
    rw [List.map_map, lets, List.map_map]
    rfl
  · obtain ⟨r, hr, rfl⟩ := List.mem_map.mp hd
    refine ⟨_, rfl, Wp.of (a := true) rfl ⟨rfl, ?_⟩⟩
    refine Wp.of (a := .val (sg r.1)) (ρ' := [v0, some (tabD t), v2, v3, v4, v5, v6, v7, v8, some (rowD r)]) ?_ ⟨_, rfl, rfl⟩
    have : atI [sg r.1, D.int r.2.1, D.int r.2.2] 0 = some (sg r.1) := rfl
    simp [rowD, mkF, reFrz, seq, Pm.ite, rtn, mov, asg, drp, sNx, bnd, Pm.bin, Pm.un, app, aCons, aNil, idx, loc, con, Pm.ret, peek1, peeks, itemOf, on2I, iAdd, iSub, iGt, iGe, iLt, iLe, iDiv, iMod, use1, useL, gI, gN, tst, andT, orT, notT, andE, orE, notE, ifE, ixN, D.frz, D.plain, plainL, argsBack, opLen, opAbs, opInt1, opNeg, disp, cap, callF, takes, puts, selA, sel, aApp, par, gT, gsC, gs0, appF, opDivmod, frzL, plainL]
theorem mem_at {l : List Nat} {k : Nat} (h : k < l.length) : l[k] ∈ l := List.getElem_mem h
theorem ix_nat {n k : Nat} (h : k < n) : ixN n (k : Int) = some k := by
  unfold ixN
  rw [if_pos (by omega), if_pos (by omega), Int.toNat_natCast]
/-- two letters drawn -/
theorem some_ok {S : FSem} (hS : Draws S) {ns : List Int} {a : Int} {z : List D} {ms : List Nat} (hl : ns.length ≤ 63) (hp : Pen ns a (.node true .lst z)) (ha : a + 100 ≤ 1000000) (hm : ms ≠ []) (hm2 : ms.length ≤ 1000) (v1 v2 v4 v5 v6 v8 v9 : Option D) :
    ∃ (z' : List D) (x y : Nat), (c_lsigns_2 S) [some (.node true .lst z), v1, v2, some (.node true .lst (ms.map sg)), v4, v5, v6, none, v8, v9] = .ok (.val (.lst true [sg x, sg y])) [some (.node true .lst z'), v1, v2, some (.node true .lst (ms.map sg)), v4, v5, v6, none, v8, v9] ∧ x ∈ ms ∧ y ∈ ms ∧ Pen ns (a + 2) (.node true .lst z') := by
  have hm0 : 0 < ms.length := List.length_pos_iff.mpr hm
  have hc : ms.length ≤ cap := by show _ ≤ 1000000; omega
  obtain ⟨r1, z1, e1, r10, r11, p1⟩ := dr hS (m := (ms.length : Int)) hl hp (by omega) (by omega) (divS (by omega) (by omega))
  obtain ⟨k1, rfl⟩ := Int.eq_ofNat_of_zero_le r10
  obtain ⟨r2, z2, e2, r20, r21, p2⟩ := dr hS (m := (ms.length : Int)) hl p1 (by omega) (by omega) (divS (by omega) (by omega))
  obtain ⟨k2, rfl⟩ := Int.eq_ofNat_of_zero_le r20
  have h1 : k1 < ms.length := by omega
  have h2 : k2 < ms.length := by omega
  refine ⟨z2, ms[k1], ms[k2], ?_, mem_at h1, mem_at h2, p2.mono (by omega)⟩
  have hsrc : srcR1 (aCons (con (.int 2)) aNil) [some (.node true .lst z), v1, v2, some (.node true .lst (ms.map sg)), v4, v5, v6, none, v8, v9] = .ok [.int 0, .int 1] [some (.node true .lst z), v1, v2, some (.node true .lst (ms.map sg)), v4, v5, v6, none, v8, v9] := src_r1 (es := [.val (.int 2)]) (n := 2) rfl rfl (by decide)
  unfold c_lsigns_2
  rw [comp_of hsrc (ρ2 := [some (.node true .lst z2), v1, v2, some (.node true .lst (ms.map sg)), v4, v5, v6, none, v8, v9]) (acc := [sg ms[k1], sg ms[k2]])]
  · simp [backE]
  · simp [compIt, wipeE, yesT, bnd, app, aCons, aNil, idx, loc, Pm.ret, peek1, peeks, itemOf, use1, gN, D.plain, opLen, cap, callF, takes, puts, e1, e2, get_sg h1, get_sg h2, ix_nat h1, ix_nat h2]
theorem add_sg {l : List Nat} {c : Nat} (h : l.length < 10000) : hAdd [.str (T l), sg c] = some (.str (T (l ++ [c]))) := add_T (by show l.length + 1 ≤ 1000000; omega)
theorem opInt_bl (b : Bool) : opInt [.bl b] = some (.int (if b = true then 1 else 0)) := by cases b <;> rfl
theorem empty_T : (("" : String) : Str) = T [] := rfl
/-- letters drawn -/
theorem signs_ok {S : FSem} (hS : Draws S) {ns : List Int} {a : Int} {z : List D} {t : Tab} {n : Nat} (ht : TabOk t) (hl : ns.length ≤ 63) (hp : Pen ns a (.node true .lst z)) (ha : a + 4000 ≤ 1000000) (hn : n ≤ 1000) :
    ∃ (z' : List D) (l : List Nat), (x_lsigns S) [.node true .lst z, tabD t, .int (n : Int)] = .ret (.str (T l)) [.node true .lst z', tabD t, .int (n : Int)] ∧ l.length = n ∧ (∀ c ∈ l, c ∈ lets t) ∧ Pen ns (a + 3 + 2 * (n : Int)) (.node true .lst z') := by
  have hw : Wf (x_lsigns S) [.node true .lst z, tabD t, .int (n : Int)] fun d as => ∃ (z' : List D) (l : List Nat), d = .str (T l) ∧ as = [.node true .lst z', tabD t, .int (n : Int)] ∧ l.length = n ∧ (∀ c ∈ l, c ∈ lets t) ∧ Pen ns (a + 3 + 2 * (n : Int)) (.node true .lst z') := by
    have hne := ht.lets_ne
    have hms : (lets t).length ≤ 6 := by rw [lets, List.length_map]; exact ht.len6
    have h1 := heads_ok t (by have := ht.len6; omega) (some (.node true .lst z)) (some (.int (n : Int))) none none none none none none
    obtain ⟨w, z2, e2, w0, w1, p2⟩ := dr hS (m := 3) hl hp (by omega) (by decide) (by decide)
    obtain ⟨z3, x, y, e3, hx, hy, p3⟩ := some_ok hS hl p2 (by omega) hne (by omega) (some (tabD t)) (some (.int (n : Int))) (some (.int w)) none none none none
    have tp := tabD_plain t
    generalize htd : tabD t = TD at *
    generalize hmd : lets t = ms at *
    have hm0 : 0 < ms.length := List.length_pos_iff.mpr hne
    unfold x_lsigns
    refine wf_mkF ?_
    unfold b_lsigns
    show Wp _ [some (.node true .lst z), some TD, some (.int (n : Int)), none, none, none, none, none, none, none] _
    refine wp_seq fun K k1 k2 k3 k4 => ?_
    simp [Wp, mkF, reFrz, seq, Pm.ite, rtn, mov, asg, drp, sNx, bnd, Pm.bin, Pm.un, app, aCons, aNil, idx, loc, con, Pm.ret, peek1, peeks, itemOf, on2I, iAdd, iSub, iGt, iGe, iLt, iLe, iDiv, iMod, use1, useL, gI, gN, tst, andT, orT, notT, andE, orE, notE, ifE, ixN, D.frz, D.plain, plainL, argsBack, opLen, opAbs, opInt1, opNeg, disp, cap, callF, takes, puts, selA, sel, aApp, par, gT, gsC, gs0, appF, opDivmod, frzL, plainL, h1]
    refine k1 _ ?_
    clear k1 k2 k3 k4 K
    refine wp_seq fun K k1 k2 k3 k4 => ?_
    simp [Wp, mkF, reFrz, seq, Pm.ite, rtn, mov, asg, drp, sNx, bnd, Pm.bin, Pm.un, app, aCons, aNil, idx, loc, con, Pm.ret, peek1, peeks, itemOf, on2I, iAdd, iSub, iGt, iGe, iLt, iLe, iDiv, iMod, use1, useL, gI, gN, tst, andT, orT, notT, andE, orE, notE, ifE, ixN, D.frz, D.plain, plainL, argsBack, opLen, opAbs, opInt1, opNeg, disp, cap, callF, takes, puts, selA, sel, aApp, par, gT, gsC, gs0, appF, opDivmod, frzL, plainL, e2]
    refine k1 _ ?_
    clear k1 k2 k3 k4 K
    refine wp_seq fun K k1 k2 k3 k4 => ?_
    simp [Wp, mkF, reFrz, seq, Pm.ite, rtn, mov, asg, drp, sNx, bnd, Pm.bin, Pm.un, app, aCons, aNil, idx, loc, con, Pm.ret, peek1, peeks, itemOf, on2I, iAdd, iSub, iGt, iGe, iLt, iLe, iDiv, iMod, use1, useL, gI, gN, tst, andT, orT, notT, andE, orE, notE, ifE, ixN, D.frz, D.plain, plainL, argsBack, opLen, opAbs, opInt1, opNeg, disp, cap, callF, takes, puts, selA, sel, aApp, par, gT, gsC, gs0, appF, opDivmod, frzL, plainL, e3]
    refine k1 _ ?_
    clear k1 k2 k3 k4 K
    refine wp_seq fun K k1 k2 k3 k4 => ?_
    simp [Wp, mkF, reFrz, seq, Pm.ite, rtn, mov, asg, drp, sNx, bnd, Pm.bin, Pm.un, app, aCons, aNil, idx, loc, con, Pm.ret, peek1, peeks, itemOf, on2I, iAdd, iSub, iGt, iGe, iLt, iLe, iDiv, iMod, use1, useL, gI, gN, tst, andT, orT, notT, andE, orE, notE, ifE, ixN, D.frz, D.plain, plainL, argsBack, opLen, opAbs, opInt1, opNeg, disp, cap, callF, takes, puts, selA, sel, aApp, par, gT, gsC, gs0, appF, opDivmod, frzL, plainL, empty_T]
    refine k1 _ ?_
    clear k1 k2 k3 k4 K
    refine wp_seq fun K k1 k2 k3 k4 => ?_
    have hsrc : srcR1 (aCons (loc 2) aNil) [some (.node true .lst z3), some TD, some (.int (n : Int)), some (.node true .lst (ms.map sg)), some (.int w), some (.node true .lst [sg x, sg y]), some (.str (T [])), none, none, none]
        = .ok (rangeD 0 n) [some (.node true .lst z3), some TD, some (.int (n : Int)), some (.node true .lst (ms.map sg)), some (.int w), some (.node true .lst [sg x, sg y]), some (.str (T [])), none, none, none] := src_r1 (es := [.ref 2]) (n := n) rfl rfl (by omega)
    refine wp_for hsrc (fun j ρ => ∃ (z' : List D) (l : List Nat) (x7 x8 : Option D), ρ = [some (.node true .lst z'), some TD, some (.int (n : Int)), some (.node true .lst (ms.map sg)), some (.int w), some (.node true .lst [sg x, sg y]), some (.str (T l)), x7, x8, none] ∧ Pen ns (a + 3 + 2 * (j : Int)) (.node true .lst z') ∧ l.length = j ∧ ∀ c ∈ l, c ∈ ms) ⟨z3, [], none, none, rfl, p3.mono (by omega), rfl, fun c hc => by simp at hc⟩ ?_ ?_
    · rintro j d ρ hd ⟨z', l, x7, x8, rfl, p', hlen, hin⟩
      obtain ⟨hj, rfl⟩ := range_get hd
      refine ⟨_, rfl, ?_⟩
      obtain ⟨u, y1, f1, u0, u1, q1⟩ := dr hS (m := (ms.length : Int)) hl p' (by omega) (by omega) (divS (by omega) (by omega))
      obtain ⟨k, rfl⟩ := Int.eq_ofNat_of_zero_le u0
      have hk : k < ms.length := by omega
      obtain ⟨v, y2, f2, v0, v1, q2⟩ := dr hS (m := 4) hl q1 (by omega) (by decide) (by decide)
      have hc : ms.length ≤ cap := by show _ ≤ 1000000; omega
      unfold b_lsigns_1
      show Wp _ [some (.node true .lst z'), some TD, some (.int (n : Int)), some (.node true .lst (ms.map sg)), some (.int w), some (.node true .lst [sg x, sg y]), some (.str (T l)), some (.int (0 + (j : Int))), x8, none] _
      refine wp_seq fun K k1 k2 k3 k4 => ?_
      simp [Wp, mkF, reFrz, seq, Pm.ite, rtn, mov, asg, drp, sNx, bnd, Pm.bin, Pm.un, app, aCons, aNil, idx, loc, con, Pm.ret, peek1, peeks, itemOf, on2I, iAdd, iSub, iGt, iGe, iLt, iLe, iDiv, iMod, use1, useL, gI, gN, tst, andT, orT, notT, andE, orE, notE, ifE, D.frz, D.plain, plainL, argsBack, opLen, opAbs, opInt1, opNeg, disp, cap, callF, takes, puts, selA, sel, aApp, par, gT, gsC, gs0, appF, opDivmod, frzL, plainL, f1, get_sg hk, ix_nat hk, hc]
      refine k1 _ ?_
      clear k1 k2 k3 k4 K
      refine wp_seq fun K k1 k2 k3 k4 => ?_
      have fin : ∀ (z'' : List D) (m : Nat), m ∈ ms → Pen ns (a + 3 + 2 * (j : Int) + 2) (.node true .lst z'') → K .nx [some (.node true .lst z''), some TD, some (.int (n : Int)), some (.node true .lst (ms.map sg)), some (.int w), some (.node true .lst [sg x, sg y]), some (.str (T l)), some (.int (j : Int)), some (sg m), none] := fun z'' m hm hp'' => k1 _ (by
        clear k1 k2 k3 k4 K
        have hl2 : l.length < 10000 := by omega
        have hmod : (j : Int) % 2 = 0 ∨ (j : Int) % 2 = 1 := by omega
        obtain ⟨q, hq, eq⟩ : ∃ q, q ∈ ms ∧ atI [sg x, sg y] ((j : Int) % 2) = some (sg q) := by
          rcases hmod with e | e
          · exact ⟨x, hx, by rw [e]; rfl⟩
          · exact ⟨y, hy, by rw [e]; rfl⟩
        obtain ⟨q', hq', eq'⟩ : ∃ q', q' ∈ ms ∧ atI [sg m, sg q] (if w = 2 then 1 else 0) = some (sg q') := by
          by_cases e : w = 2
          · exact ⟨q, hq, by rw [if_pos e]; rfl⟩
          · exact ⟨m, hm, by rw [if_neg e]; rfl⟩
        have hix : ∃ i, ixN 2 ((j : Int) % 2) = some i ∧ [sg x, sg y][i]? = some (sg q) := by
          unfold atI at eq
          obtain ⟨i, h1, h2⟩ := Option.bind_eq_some_iff.mp eq
          exact ⟨i, h1, h2⟩
        obtain ⟨i, hi1, hi2⟩ := hix
        have hadd := add_sg (l := l) (c := q') hl2
        generalize hX : [sg x, sg y] = XS at *
        have hXl : XS.length = 2 := by rw [← hX]; rfl
        refine wp_end fun K k1 k2 k3 k4 => ?_
        simp [Wp, mkF, reFrz, seq, Pm.ite, rtn, mov, asg, drp, sNx, bnd, Pm.bin, Pm.un, app, aCons, aNil, idx, loc, con, Pm.ret, peek1, peeks, itemOf, on2I, iAdd, iSub, iGt, iGe, iLt, iLe, iDiv, iMod, use1, useL, gI, gN, tst, andT, orT, notT, andE, orE, notE, ifE, D.frz, D.plain, plainL, argsBack, opLen, opAbs, opInt1, opNeg, disp, cap, callF, takes, puts, selA, sel, aApp, par, gT, gsC, gs0, appF, opDivmod, frzL, plainL, eq_int', opInt_bl, hXl, hi1, hi2, eq', hadd]
        refine k1 _ ⟨z'', l ++ [q'], some (.int (j : Int)), some (sg m), by simp, hp''.mono (by omega), by simp [hlen], fun c hc => ?_⟩
        rcases List.mem_append.mp hc with hc | hc
        · exact hin c hc
        · obtain rfl := List.mem_singleton.mp hc
          exact hq')
      by_cases hw1 : w = 1
      · by_cases hv : 0 < v
        · simp [Wp, mkF, reFrz, seq, Pm.ite, rtn, mov, asg, drp, sNx, bnd, Pm.bin, Pm.un, app, aCons, aNil, idx, loc, con, Pm.ret, peek1, peeks, itemOf, on2I, iAdd, iSub, iGt, iGe, iLt, iLe, iDiv, iMod, use1, useL, gI, gN, tst, andT, orT, notT, andE, orE, notE, ifE, ixN, D.frz, D.plain, plainL, argsBack, opLen, opAbs, opInt1, opNeg, disp, cap, callF, takes, puts, selA, sel, aApp, par, gT, gsC, gs0, appF, opDivmod, frzL, plainL, eq_int', hw1, f2, opGtA_ii, hv]
          exact hw1 ▸ fin y2 x hx (q2.mono (by omega))
        · simp [Wp, mkF, reFrz, seq, Pm.ite, rtn, mov, asg, drp, sNx, bnd, Pm.bin, Pm.un, app, aCons, aNil, idx, loc, con, Pm.ret, peek1, peeks, itemOf, on2I, iAdd, iSub, iGt, iGe, iLt, iLe, iDiv, iMod, use1, useL, gI, gN, tst, andT, orT, notT, andE, orE, notE, ifE, ixN, D.frz, D.plain, plainL, argsBack, opLen, opAbs, opInt1, opNeg, disp, cap, callF, takes, puts, selA, sel, aApp, par, gT, gsC, gs0, appF, opDivmod, frzL, plainL, eq_int', hw1, f2, opGtA_ii, hv]
          exact hw1 ▸ fin y2 ms[k] (mem_at hk) (q2.mono (by omega))
      · simp [Wp, mkF, reFrz, seq, Pm.ite, rtn, mov, asg, drp, sNx, bnd, Pm.bin, Pm.un, app, aCons, aNil, idx, loc, con, Pm.ret, peek1, peeks, itemOf, on2I, iAdd, iSub, iGt, iGe, iLt, iLe, iDiv, iMod, use1, useL, gI, gN, tst, andT, orT, notT, andE, orE, notE, ifE, ixN, D.frz, D.plain, plainL, argsBack, opLen, opAbs, opInt1, opNeg, disp, cap, callF, takes, puts, selA, sel, aApp, par, gT, gsC, gs0, appF, opDivmod, frzL, plainL, eq_int', hw1]
        exact fin y1 ms[k] (mem_at hk) (q1.mono (by omega))
    · rintro ρ ⟨z', l, x7, x8, rfl, p', hlen, hin⟩
      rw [range_len] at *
      refine k1 _ ?_
      clear k1 k2 k3 k4 K
      refine wp_end fun K k1 k2 k3 k4 => ?_
      simp [Wp, mkF, reFrz, seq, Pm.ite, rtn, mov, asg, drp, sNx, bnd, Pm.bin, Pm.un, app, aCons, aNil, idx, loc, con, Pm.ret, peek1, peeks, itemOf, on2I, iAdd, iSub, iGt, iGe, iLt, iLe, iDiv, iMod, use1, useL, gI, gN, tst, andT, orT, notT, andE, orE, notE, ifE, ixN, D.frz, D.plain, plainL, argsBack, opLen, opAbs, opInt1, opNeg, disp, cap, callF, takes, puts, selA, sel, aApp, par, gT, gsC, gs0, appF, opDivmod, frzL, plainL, tp]
      exact k2 _ _ ⟨[.node true .lst z', TD, .int (n : Int)], by simp [argsBack, reFrz, tp, D.plain], z', l, rfl, rfl, hlen, hin, p'⟩
  obtain ⟨d, as, e, z', l, rfl, rfl, h1, h2, hp'⟩ := hw
  exact ⟨z', l, e, h1, h2, hp'⟩
end Pg
namespace Ex
mutual
/-- an operand: a dot, or an expression in a pair -/
inductive Op where
  | dot | par (e : E)
/-- an expression: operands with letters between -/
inductive E where
  | one (o : Op) | cons (o : Op) (c : Nat) (e : E)
end
mutual
def Op.text : Op → List Nat
  | .dot => [46]
  | .par e => 40 :: (e.text ++ [41])
def E.text : E → List Nat
  | .one o => o.text
  | .cons o c e => o.text ++ c :: e.text
end
mutual
def Op.lets : Op → List Nat
  | .dot => []
  | .par e => e.lets
def E.lets : E → List Nat
  | .one o => o.lets
  | .cons o c e => o.lets ++ c :: e.lets
end
mutual
def Op.prs : Op → Nat
  | .dot => 0
  | .par e => e.prs + 1
def E.prs : E → Nat
  | .one o => o.prs
  | .cons o _ e => o.prs + e.prs
end
/-- without pairs -/
def flat : List Nat → E
  | [] => .one .dot
  | c :: cs => .cons .dot c (flat cs)
mutual
theorem Op.len : ∀ o : Op, o.text.length = 2 * o.lets.length + 1 + 2 * o.prs
  | .dot => rfl
  | .par e => by
    have := E.len e
    simp [Op.text, Op.lets, Op.prs]
    omega
theorem E.len : ∀ e : E, e.text.length = 2 * e.lets.length + 1 + 2 * e.prs
  | .one o => Op.len o
  | .cons o c e => by
    have h1 := Op.len o
    have h2 := E.len e
    simp [E.text, E.lets, E.prs]
    omega
end
end Ex
namespace Pg
open PySem PySem.Spec PyProof.Rows L2 Pm
theorem signsD_T (l : List Nat) : signsD (T l) = l.map sg := rfl
end Pg
namespace Ex
def isL (c : Nat) : Bool := decide (97 ≤ c) && decide (c ≤ 122)
/-- operators, pairs, depth, whether an operand is wanted -/
abbrev St := Nat × Nat × Nat × Bool
theorem isL_40 {c : Nat} (h : isL c = true) : c ≠ 40 ∧ c ≠ 41 ∧ c ≠ 46 := by
  unfold isL at h
  rw [Bool.and_eq_true, decide_eq_true_eq, decide_eq_true_eq] at h
  omega
/-- no pair signs -/
def nk (c : Nat) : Bool := c != 40 && c != 41
def dep (l : List Nat) : Int := (l.count 40 : Nat) - (l.count 41 : Nat)
end Ex
namespace Pg
open PySem PySem.Spec PyProof.Rows L2 Pm
def code (x : Str) : Nat := x.cps.toList.headD 0
theorem flat_sgs (l : List Nat) : (l.map fun c => [c]).flatten = l := by
  induction l with
  | nil => rfl
  | cons c l ih => simp [ih]
theorem join_sg (o : Bool) (l : List Nat) (h : l.length ≤ cap) : opJoin [.str (T []), .node o .lst (l.map sg)] = some (.str (T l)) := by
  have := join_ok o (l.map fun c => [c]) (by rw [flat_sgs]; exact h)
  rw [List.map_map, flat_sgs] at this
  exact this
theorem src_T {f : M EV} {ρ : Pm.Env} {l : List Nat} {j : Nat} (h : f ρ = .ok (.ref j) ρ) (h2 : ρ.getD j none = some (.str (T l))) (h3 : ρ.set j (some (.str (T l))) = ρ) : srcA f ρ = .ok (l.map sg) ρ := by
  simp only [srcA, bnd, h, use1, h2, D.frz, h3, signsD_T, Pm.ret]
theorem strOk_T {l : List Nat} (h : ∀ c ∈ l, c < 1114112) : PyData.strOk (T l) = true := by
  unfold PyData.strOk
  rw [Array.all_eq_true']
  intro c hc
  exact decide_eq_true (h c (by simpa [T] using hc))
theorem cnt_T (l : List Nat) (c : Nat) : opCountS [.str (T l), .str (T [c])] = some (.int (l.count c : Nat)) := by
  show some (D.int (Txt.count (T l) (T [c]))) = _
  rw [count_T]
theorem take_T {l : List Nat} (h : l.length ≤ cap) (k : Nat) : gCut none (some (k : Int)) (.str (T l)) = some (.str (T (l.take k))) := by
  rw [gCut_T h, slL_to]
theorem drop_T {l : List Nat} (h : l.length ≤ cap) (k : Nat) : gCut (some (k : Int)) none (.str (T l)) = some (.str (T (l.drop k))) := by
  rw [gCut_T h, slL_from]
end Pg
namespace Pm
open PySem PySem.Spec PyProof.Rows L2
def keyOf : D → Option Key
  | .int i => some (.inl i)
  | .str x => some (.inr x)
  | _ => none
theorem keyOf_rep {K : PySem.W.Frag} {Z H : Hp} {S : Fp} {d : D} {v : V} {k : Key} (h : keyOf d = some k) (r : Rep K Z H d v S) : v = kV k := by
  cases d with
  | int i => cases h; exact r
  | str x => cases h; exact r
  | _ => cases h
def getL {α : Type} : List Key → List α → Key → Option α
  | k' :: ks, x :: xs, k => if k' = k then some x else getL ks xs k
  | _, _, _ => none
def putL {α : Type} (ks : List Key) (xs : List α) (k : Key) (d : α) : List α := if ks.any (fun k' => decide (k' = k)) = true then List.zipWith (fun k' x => if k' = k then d else x) ks xs else xs ++ [d]
def putKs (ks : List Key) (k : Key) : List Key := if ks.any (fun k' => decide (k' = k)) = true then ks else ks ++ [k]
theorem getL_val : ∀ (ks : List Key) (ys : List V) (k : Key), valV (ks.zip ys) k = getL ks ys k
  | [], ys, k => rfl
  | _ :: _, [], k => rfl
  | k' :: ks, y :: ys, k => by
    have ih := getL_val ks ys k
    unfold valV at ih ⊢
    rw [List.zip_cons_cons, List.find?_cons, getL]
    by_cases h : k' = k
    · simp [h]
    · simp [h, ih]
section
variable {K : PySem.W.Frag} {mg : Str → Option Value} {W : WX} {Z Z' H H' : Hp} {S S' : Fp} {σ : Sl} {X : Cx}
theorem getL_rep : ∀ {ks : List Key} {xs : List D} {ys : List V} {S : Fp} {k : Key}, RepL K Z H xs ys S → (∀ d, getL ks xs k = some d → ∃ y, getL ks ys k = some y ∧ Rep K Z H d y S) ∧ (getL ks xs k = none → getL ks ys k = none)
  | [], _, _, _, _, _ => ⟨fun d h => by simp [getL] at h, fun _ => by simp [getL]⟩
  | _ :: _, [], [], _, _, _ => ⟨fun d h => by simp [getL] at h, fun _ => by simp [getL]⟩
  | _ :: _, [], _ :: _, _, _, h => h.elim
  | _ :: _, _ :: _, [], _, _, h => h.elim
  | k' :: ks, x :: xs, y :: ys, S, k, ⟨S1, S2, s1, s2, dj, r, q⟩ => by
    obtain ⟨i1, i2⟩ := getL_rep (ks := ks) (k := k) q
    unfold getL
    by_cases h : k' = k
    · rw [if_pos h, if_pos h]
      exact ⟨fun d e => by cases e; exact ⟨y, rfl, r.move (Same.refl Z) (fun _ _ _ x => x) s1⟩, fun e => nomatch e⟩
    · rw [if_neg h, if_neg h]
      exact ⟨fun d e => by obtain ⟨y', e', r'⟩ := i1 d e; exact ⟨y', e', r'.move (Same.refl Z) (fun _ _ _ x => x) s2⟩, i2⟩
/-- a dict as it is read -/
theorem rep_dct {o : Bool} {ks : List Key} {xs : List D} {v : V} (w : Sam Z H) (r : Rep K Z H (.node o (.dct ks) xs) v S) : ∃ a ys, v = .ref a ∧ H a = some (.dK (ks.zip ys)) ∧ ks.length = ys.length ∧ RepL K Z H xs ys S := by
  cases o with
  | false =>
    obtain ⟨a, ys, e, c, rl⟩ := r
    exact ⟨a, ys, e, w.get _ _ c.2 nt_dK, c.1, rl⟩
  | true =>
    obtain ⟨a, ys, S', e, c, sa, na, sub, rl⟩ := r
    exact ⟨a, ys, e, c.2, c.1, rl.move (Same.refl Z) (fun _ _ _ x => x) sub⟩
def opDGet : List D → Option D
  | [.node _ (.dct ks) xs, kd] => match keyOf kd with
    | some k => match getL ks xs k with
      | some d => if d.plain then some d else none
      | none => none
    | none => none
  | _ => none
theorem snd_dget : Snd X (fun vs H Q => ∃ x y, vs = [x, y] ∧ ∃ a v, x = .ref a ∧ DGet H a y (some v) ∧ Q v H) opDGet := by
  refine snd_pure fun Z H S ds vs d Q w rb e k => ?_
  unfold opDGet at e
  split at e
  · rename_i o ks xs kd
    obtain ⟨v, u, rfl, rv, ru⟩ := rb2 rb
    split at e
    · rename_i key hk
      split at e
      · rename_i d' hd
        split at e
        · rename_i hp
          cases e
          obtain ⟨a, ys, rfl, hH, hlen, rl⟩ := rep_dct w.same rv
          have hu := keyOf_rep hk ru
          subst hu
          obtain ⟨y, hy, ry⟩ := (getL_rep (ks := ks) (k := key) rl).1 d hd
          refine ⟨_, _, rfl, a, y, rfl, ?_, k y (ry.plain hp)⟩
          have := DGet.k (k := key) hH
          rw [getL_val, hy] at this
          exact this
        · cases e
      · cases e
    · cases e
  · cases e
theorem E_dget {o i : Expr} {fo fi : M EV} {pos : Pos} (hu : X.A.units + 1 < cLine) (ho : PE X o (tE X.K X.mg W fo)) (hi : PE X i (tE X.K X.mg W fi)) (hs : NoSl i := by intro _ _; rfl) : PE X (.Subscript o i pos) (tE X.K X.mg W (bin opDGet fo fi)) :=
  PE.of (pe_dget hu ho hi hs) fun σ H Q q => by
    refine tE_mono (fun x H1 q1 => ?_) (tA_cons (tE_app snd_dget q))
    refine tE_mono (fun y H2 q2 => ?_) (tA_cons q1)
    obtain ⟨x', y', e, a, v, h1, h2, h3⟩ := tA_nil q2
    cases e
    exact ⟨a, v, h1, h2, h3⟩
def opDIn (neg : Bool) : List D → Option D
  | [kd, .node _ (.dct ks) xs] => match keyOf kd with
    | some k => if ks.length = xs.length then some (.bl (if neg then !(ks.any fun k' => decide (k' = k)) else ks.any fun k' => decide (k' = k))) else none
    | none => none
  | _ => none
theorem getL_any {α : Type} : ∀ (ks : List Key) (ys : List α) (k : Key), ks.length = ys.length → (getL ks ys k).isSome = ks.any fun k' => decide (k' = k)
  | [], [], _, _ => rfl
  | [], _ :: _, _, h => by simp at h
  | _ :: _, [], _, h => by simp at h
  | k' :: ks, y :: ys, k, h => by
    rw [getL, List.any_cons]
    by_cases e : k' = k
    · simp [e]
    · simp [e, getL_any ks ys k (by simpa using h)]
theorem opd_dnin (hu : X.A.units + 1 < cLine) : Opd X (compareOp .NotIn) (opDIn true) := by
  refine ⟨fun x y H Q => ∃ a o, y = .ref a ∧ DGet H a x o ∧ Q (.bl (!o.isSome)) H, ?_, snd_pure fun Z H S ds vs d Q w rb e k => ?_⟩
  · intro pins s σ H x y v u Q I rx ry h
    obtain ⟨a, o, rfl, g, q⟩ := h
    obtain rfl : u = Value.ref a := ry
    exact d_notIn hu I g rx fun s' I' => ⟨.bl (!o.isSome), H, I', rfl, q⟩
  · unfold opDIn at e
    split at e
    · rename_i kd o ks xs
      obtain ⟨v, u, rfl, rv, ru⟩ := rb2 rb
      split at e
      · rename_i key hk
        split at e
        · rename_i hl
          cases e
          obtain ⟨a, ys, rfl, hH, hlen, rl⟩ := rep_dct w.same ru
          have hv := keyOf_rep hk rv
          subst hv
          refine ⟨_, _, rfl, a, _, rfl, DGet.k (k := key) hH, k _ ?_⟩
          rw [getL_val, getL_any ks ys key hlen]
          rfl
        · cases e
      · cases e
    · cases e
theorem zip_map (k : Key) (v : V) : ∀ (ks : List Key) (ys : List V), ks.length = ys.length → (ks.zip ys).map (fun kv => if kv.1 = k then (kv.1, v) else kv) = ks.zip (List.zipWith (fun k' x => if k' = k then v else x) ks ys)
  | [], [], _ => rfl
  | [], _ :: _, h => by simp at h
  | _ :: _, [], h => by simp at h
  | k2 :: ks, y2 :: ys, h => by
    rw [List.zip_cons_cons, List.map_cons, List.zipWith_cons_cons, List.zip_cons_cons, zip_map k v ks ys (by simpa using h)]
    by_cases e : k2 = k <;> simp [e]
theorem putK_zip (k : Key) (v : V) : ∀ (ks : List Key) (ys : List V), ks.length = ys.length → putK (ks.zip ys) k v = (putKs ks k).zip (putL ks ys k v) := by
  intro ks ys hl
  have ha : ((ks.zip ys).any fun kv => decide (kv.1 = k)) = ks.any fun k' => decide (k' = k) := by
    induction ks generalizing ys with
    | nil => rfl
    | cons k' ks ih =>
      cases ys with
      | nil => simp at hl
      | cons y ys => rw [List.zip_cons_cons, List.any_cons, List.any_cons, ih ys (by simpa using hl)]
  unfold putK putKs putL
  rw [ha]
  split
  · exact zip_map k v ks ys hl
  · rw [List.zip_append hl]
    rfl
theorem putL_len {α : Type} (ks : List Key) (xs : List α) (k : Key) (d : α) (h : ks.length = xs.length) : (putKs ks k).length = (putL ks xs k d).length := by
  unfold putKs putL
  split
  · rw [List.length_zipWith]; omega
  · rw [List.length_append, List.length_append, h]; rfl
theorem zipW_rep {k : Key} {d : D} {v : V} (rd : Rep K Z H d v Fp0) : ∀ {ks : List Key} {xs : List D} {ys : List V}, RepL K Z H xs ys Fp0 → RepL K Z H (List.zipWith (fun k' x => if k' = k then d else x) ks xs) (List.zipWith (fun k' x => if k' = k then v else x) ks ys) Fp0
  | [], _, _, _ => by simp [RepL]
  | _ :: _, [], [], _ => by simp [RepL]
  | _ :: _, [], _ :: _, h => h.elim
  | _ :: _, _ :: _, [], h => h.elim
  | k' :: ks, x :: xs, y :: ys, ⟨S1, S2, s1, s2, dj, r, q⟩ => by
    have q' := zipW_rep (k := k) rd (ks := ks) (q.move (Same.refl Z) (fun _ _ _ x => x) s2)
    rw [List.zipWith_cons_cons, List.zipWith_cons_cons]
    by_cases e : k' = k
    · rw [if_pos e, if_pos e]
      exact ⟨Fp0, Fp0, fun _ x => x, fun _ x => x, fun _ x _ => x, rd, q'⟩
    · rw [if_neg e, if_neg e]
      exact ⟨Fp0, Fp0, fun _ x => x, fun _ x => x, fun _ x _ => x, r.move (Same.refl Z) (fun _ _ _ x => x) s1, q'⟩
theorem putL_rep {k : Key} {d : D} {v : V} {ks : List Key} {xs : List D} {ys : List V} (rd : Rep K Z H d v Fp0) (rl : RepL K Z H xs ys Fp0) : RepL K Z H (putL ks xs k d) (putL ks ys k v) Fp0 := by
  unfold putL
  split
  · exact zipW_rep rd rl
  · exact RepL.append (S1 := Fp0) (S2 := Fp0) rl ⟨Fp0, Fp0, fun _ x => x, fun _ x => x, fun _ x _ => x, rd, trivial⟩ (fun _ x => x) (fun _ x => x) fun _ x _ => x
end
end Pm
namespace Pm
open PySem PySem.Spec PyProof.Rows L2
end Pm
namespace Tr
/-- a tree: an operator with what is left and right of it -/
inductive LT where
  | leaf | node (l : LT) (k : Nat) (r : LT)
def LT.lab : LT → List Nat
  | .leaf => []
  | .node l k r => l.lab ++ k :: r.lab
def LT.root : LT → Option Nat
  | .leaf => none
  | .node _ k _ => some k
abbrev Ps := List (Option Nat)
/-- the parents are those of the tree, its root's is p -/
def Rz (P : Ps) : LT → Option Nat → Prop
  | .leaf, _ => True
  | .node l k r, p => P[k]? = some p ∧ Rz P l (some k) ∧ Rz P r (some k)
def Rs (P : Ps) : LT → Prop
  | .leaf => True
  | .node l k r => Rz P l (some k) ∧ Rz P r (some k)
def Cart (wk : Nat → Nat → Prop) : LT → Prop
  | .leaf => True
  | .node l k r => (∀ x ∈ l.lab, wk k x) ∧ (∀ x ∈ r.lab, wk k x) ∧ Cart wk l ∧ Cart wk r
theorem Rz.frame {P P' : Ps} : ∀ {T : LT} {p : Option Nat}, (∀ k ∈ T.lab, P'[k]? = P[k]?) → Rz P T p → Rz P' T p
  | .leaf, _, _, _ => trivial
  | .node l k r, p, h, ⟨h1, h2, h3⟩ => ⟨(h k (by simp [LT.lab])).trans h1, h2.frame fun x hx => h x (by simp [LT.lab, hx]), h3.frame fun x hx => h x (by simp [LT.lab, hx])⟩
theorem Rs.frame {P P' : Ps} : ∀ {T : LT}, (∀ k ∈ T.lab, T.root ≠ some k → P'[k]? = P[k]?) → T.lab.Nodup → Rs P T → Rs P' T
  | .leaf, _, _, _ => trivial
  | .node l k r, h, nd, ⟨h2, h3⟩ => by
    have nd' : (l.lab ++ k :: r.lab).Nodup := nd
    rw [List.nodup_append] at nd'
    obtain ⟨n1, n2, n3⟩ := nd'
    refine ⟨h2.frame fun x hx => h x (by simp [LT.lab, hx]) fun e => ?_, h3.frame fun x hx => h x (by simp [LT.lab, hx]) fun e => ?_⟩
    · cases e
      exact n3 k hx k (by simp) rfl
    · cases e
      exact (List.nodup_cons.mp n2).1 hx
theorem Rz.rs {P : Ps} : ∀ {T : LT} {p : Option Nat}, Rz P T p → Rs P T
  | .leaf, _, _ => trivial
  | .node _ _ _, _, ⟨_, h2, h3⟩ => ⟨h2, h3⟩
theorem Rs.rz {P : Ps} : ∀ {T : LT} {p : Option Nat}, Rs P T → (∀ k, T.root = some k → P[k]? = some p) → Rz P T p
  | .leaf, _, _, _ => trivial
  | .node _ k _, _, ⟨h2, h3⟩, h => ⟨h k rfl, h2, h3⟩
theorem root_mem : ∀ {T : LT} {k : Nat}, T.root = some k → k ∈ T.lab
  | .leaf, _, e => by cases e
  | .node _ _ _, _, e => by cases e; simp [LT.lab]
/-- the order of the operators: who is weaker -/
structure Ord (wk : Nat → Nat → Prop) : Prop where
  trans : ∀ {a b c}, wk a b → wk b c → wk a c
  tot : ∀ {a b}, a ≠ b → wk a b ∨ wk b a
  asym : ∀ {a b}, wk a b → ¬ wk b a
section
variable (bf : Nat → Nat → Bool)
/-- chain: the top first -/
def popL (op : Nat) : List Nat → Option Nat → List Nat × Option Nat
  | [], left => ([], left)
  | c :: cs, left => if bf c op = true then popL op cs (some c) else (c :: cs, left)
def putL (P : Ps) (op : Nat) : Option Nat → Ps
  | some l => P.set l (some op)
  | none => P
def putC (P : Ps) (op : Nat) : List Nat → Ps
  | c :: _ => P.set op (some c)
  | [] => P
def linkStep (s : Ps × List Nat) (op : Nat) : Ps × List Nat :=
  (putC (putL s.1 op (popL bf op s.2 none).2) op (popL bf op s.2 none).1, op :: (popL bf op s.2 none).1)
/-- the neighbour that a group belongs to: the last operator before it, the one after it -/
def own1 (op : Nat) : Option Nat → Nat
  | some c => if bf c op = true then c else op
  | none => op
def popS (op : Nat) : List (LT × Nat) → LT → List (LT × Nat) × LT
  | [], X => ([], X)
  | (L, c) :: s, X => if bf c op = true then popS op s (.node L c X) else ((L, c) :: s, X)
end
/-- labels of a spine from its foot on -/
def slab : List (LT × Nat) → List Nat
  | [] => []
  | (L, c) :: s => slab s ++ (L.lab ++ [c])
def Inv (P : Ps) : List (LT × Nat) → Prop
  | [] => True
  | (L, c) :: s => Rz P L (some c) ∧ P[c]? = some (s.head?.map (·.2)) ∧ Inv P s
def Hp (wk : Nat → Nat → Prop) : List (LT × Nat) → Prop
  | [] => True
  | (L, c) :: s => Cart wk L ∧ (∀ x ∈ L.lab, wk c x) ∧ (∀ q ∈ s, wk q.2 c ∧ ∀ x ∈ L.lab, wk q.2 x) ∧ Hp wk s
def coll : List (LT × Nat) → LT → LT
  | [], X => X
  | (L, c) :: s, X => coll s (.node L c X)
theorem coll_lab : ∀ (s : List (LT × Nat)) (X : LT), (coll s X).lab = slab s ++ X.lab
  | [], X => rfl
  | (L, c) :: s, X => by rw [coll, coll_lab s, slab]; simp [LT.lab]
theorem Inv.frame {P P' : Ps} : ∀ {s : List (LT × Nat)}, (∀ k ∈ slab s, P'[k]? = P[k]?) → Inv P s → Inv P' s
  | [], _, _ => trivial
  | (L, c) :: s, h, ⟨h1, h2, h3⟩ => ⟨h1.frame fun k hk => h k (by simp [slab, hk]), (h c (by simp [slab])).trans h2, h3.frame fun k hk => h k (by simp [slab, hk])⟩
/-- what the turns of the inner loop leave -/
theorem pop_ok {bf : Nat → Nat → Bool} {wk : Nat → Nat → Prop} (O : Ord wk) {P : Ps} {op : Nat} : ∀ (s : List (LT × Nat)) (X : LT) (left : Option Nat), (∀ q ∈ s, bf q.2 op = true ↔ wk op q.2) → (∀ q ∈ s, q.2 ≠ op) → Inv P s → Hp wk s → Rs P X → Cart wk X → (∀ x ∈ X.lab, wk op x) → (∀ q ∈ s, ∀ x ∈ X.lab, wk q.2 x) →
    (∀ q ∈ s.head?, ∀ k, X.root = some k → bf q.2 op = true ∨ left.isSome = true → P[k]? = some (some q.2)) →
    (left.isSome = true → left = X.root) →
    (popL bf op (s.map (·.2)) left).1 = (popS bf op s X).1.map (·.2) ∧
    ((popL bf op (s.map (·.2)) left).2.isSome = true → (popL bf op (s.map (·.2)) left).2 = (popS bf op s X).2.root) ∧
    ((popL bf op (s.map (·.2)) left).2 = none → (popS bf op s X) = (s, X) ∧ left = none) ∧
    Inv P (popS bf op s X).1 ∧ Hp wk (popS bf op s X).1 ∧ Rs P (popS bf op s X).2 ∧ Cart wk (popS bf op s X).2 ∧ (∀ x ∈ (popS bf op s X).2.lab, wk op x) ∧ (∀ q ∈ (popS bf op s X).1, ∀ x ∈ (popS bf op s X).2.lab, wk q.2 x) ∧
    slab (popS bf op s X).1 ++ (popS bf op s X).2.lab = slab s ++ X.lab ∧ (∀ q ∈ (popS bf op s X).1, wk q.2 op)
  | [], X, left, _, _, hi, hh, hx, hc, ho, hq, hr, hl => ⟨rfl, hl, fun e => ⟨rfl, e⟩, trivial, trivial, hx, hc, ho, hq, rfl, fun q h => (nomatch h)⟩
  | (L, c) :: s, X, left, hb, hne, ⟨i1, i2, i3⟩, ⟨p1, p2, p3, p4⟩, hx, hc, ho, hq, hr, hl => by
    by_cases h : bf c op = true
    · have w : wk op c := (hb (L, c) (by simp)).mp h
      have e1 : popL bf op (((L, c) :: s).map (·.2)) left = popL bf op (s.map (·.2)) (some c) := by simp [popL, h]
      have e2 : popS bf op ((L, c) :: s) X = popS bf op s (.node L c X) := by simp [popS, h]
      rw [e1, e2]
      have ih := pop_ok O (P := P) s (.node L c X) (some c) (fun q hq => hb q (by simp [hq])) (fun q hq => hne q (by simp [hq])) i3 p4
        ⟨i1, hx.rz fun k hk => hr (L, c) rfl k hk (.inl h)⟩
        ⟨p2, fun x hx => hq (L, c) (by simp) x hx, p1, hc⟩
        (fun x hx => by
          simp only [LT.lab, List.mem_append, List.mem_cons] at hx
          rcases hx with hx | rfl | hx
          · exact O.trans w (p2 x hx)
          · exact w
          · exact ho x hx)
        (fun q hq' x hx => by
          simp only [LT.lab, List.mem_append, List.mem_cons] at hx
          rcases hx with hx | rfl | hx
          · exact (p3 q hq').2 x hx
          · exact (p3 q hq').1
          · exact hq q (by simp [hq']) x hx)
        (fun q hq' k hk _ => by cases hk; rw [i2, Option.mem_def.mp hq']; rfl)
        (fun _ => rfl)
      obtain ⟨a1, a2, a3, a4, a5, a6, a7, a8, a9, a10, a11⟩ := ih
      refine ⟨a1, a2, fun e => ?_, a4, a5, a6, a7, a8, a9, ?_, a11⟩
      · cases (a3 e).2
      · rw [a10]; simp [slab, LT.lab]
    · have e1 : popL bf op (((L, c) :: s).map (·.2)) left = (c :: s.map (·.2), left) := by simp [popL, h]
      have e2 : popS bf op ((L, c) :: s) X = ((L, c) :: s, X) := by simp [popS, h]
      rw [e1, e2]
      have w : wk c op := by
        rcases O.tot (hne (L, c) (by simp)) with w | w
        · exact w
        · exact absurd ((hb (L, c) (by simp)).mpr w) h
      refine ⟨rfl, hl, fun e => ⟨rfl, e⟩, ⟨i1, i2, i3⟩, ⟨p1, p2, p3, p4⟩, hx, hc, ho, hq, rfl, fun q hq' => ?_⟩
      rcases List.mem_cons.mp hq' with rfl | hq'
      · exact w
      · exact O.trans (p3 q hq').1 w
theorem get_set_ne {P : Ps} {k j : Nat} {v : Option Nat} (h : j ≠ k) : (P.set k v)[j]? = P[j]? := by rw [List.getElem?_set_ne (Ne.symm h)]
theorem get_set_eq {P : Ps} {k : Nat} {v : Option Nat} (h : k < P.length) : (P.set k v)[k]? = some v := by rw [List.getElem?_set_self h]
theorem popL_left {bf : Nat → Nat → Bool} {op : Nat} : ∀ (s : List (LT × Nat)) (left : Option Nat), (popL bf op (s.map (·.2)) left).2.isSome = true → ∀ k, (popL bf op (s.map (·.2)) left).2 = some k → k ∈ slab s ∨ left = some k
  | [], left, _, k, e => .inr e
  | (L, c) :: s, left, h, k, e => by
    by_cases hb : bf c op = true
    · rw [show popL bf op (((L, c) :: s).map (·.2)) left = popL bf op (s.map (·.2)) (some c) by simp [popL, hb]] at h e
      rcases popL_left s (some c) h k e with h | h
      · exact .inl (by simp [slab, h])
      · cases h; exact .inl (by simp [slab])
    · rw [show popL bf op (((L, c) :: s).map (·.2)) left = (c :: s.map (·.2), left) by simp [popL, hb]] at e
      exact .inr e
theorem popS_suf {bf : Nat → Nat → Bool} {op : Nat} : ∀ (s : List (LT × Nat)) (X : LT), (popS bf op s X).1 <:+ s
  | [], X => List.suffix_refl _
  | (L, c) :: s, X => by
    by_cases h : bf c op = true
    · rw [show popS bf op ((L, c) :: s) X = popS bf op s (.node L c X) by simp [popS, h]]
      exact (popS_suf s _).trans (List.suffix_cons _ _)
    · rw [show popS bf op ((L, c) :: s) X = ((L, c) :: s, X) by simp [popS, h]]
      exact List.suffix_refl _
theorem slab_mem {s : List (LT × Nat)} {q : LT × Nat} (h : q ∈ s) : q.2 ∈ slab s := by
  induction s with
  | nil => cases h
  | cons a s ih =>
    obtain ⟨L, c⟩ := a
    rcases List.mem_cons.mp h with rfl | h
    · simp [slab]
    · simp [slab, ih h]
/-- one operator, the group before it -/
theorem step_ok {bf : Nat → Nat → Bool} {wk : Nat → Nat → Prop} (O : Ord wk) {P : Ps} {op : Nat} {s : List (LT × Nat)} {t : LT}
    (hb : ∀ q ∈ s, bf q.2 op = true ↔ wk op q.2) (hi : Inv P s) (hh : Hp wk s) (hx : Rs P t) (hc : Cart wk t) (ho : ∀ x ∈ t.lab, wk op x) (hq : ∀ q ∈ s, ∀ x ∈ t.lab, wk q.2 x)
    (hr : ∀ k, t.root = some k → P[k]? = some (some (own1 bf op (s.head?.map (·.2)))))
    (hn : (slab s ++ (t.lab ++ [op])).Nodup) (hl : ∀ k ∈ slab s ++ (t.lab ++ [op]), k < P.length) (hop : P[op]? = some none) :
    ∃ s' : List (LT × Nat), (linkStep bf (P, s.map (·.2)) op).2 = s'.map (·.2) ∧ Inv (linkStep bf (P, s.map (·.2)) op).1 s' ∧ Hp wk s' ∧ slab s' = slab s ++ (t.lab ++ [op]) ∧ (∃ L s'', s' = (L, op) :: s'') ∧
      (∀ k, k ∉ slab s → k ≠ op → (linkStep bf (P, s.map (·.2)) op).1[k]? = P[k]?) ∧ (linkStep bf (P, s.map (·.2)) op).1.length = P.length ∧ (∀ q ∈ s', q.2 = op ∨ q ∈ s) := by
  have hopn : op ∉ slab s ++ t.lab := by
    rw [← List.append_assoc, List.nodup_append] at hn
    intro e
    exact hn.2.2 op e op (by simp) rfl
  have hopl : op < P.length := hl op (by simp)
  have hne : ∀ q ∈ s, q.2 ≠ op := fun q hq' e => hopn (by rw [← e]; exact List.mem_append_left _ (slab_mem hq'))
  obtain ⟨a1, a2, a3, a4, a5, a6, a7, a8, a9, a10, a11⟩ := pop_ok O (P := P) s t none hb hne hi hh hx hc ho hq
    (fun q hq' k hk h => by
      rcases h with h | h
      · rw [hr k hk]
        cases s with
        | nil => cases hq'
        | cons a s => obtain ⟨L, c⟩ := a; cases hq'; simp [own1, h]
      · cases h) (fun h => by cases h)
  have suf := popS_suf (bf := bf) (op := op) s t
  have nd2 : (slab (popS bf op s t).1 ++ (popS bf op s t).2.lab).Nodup := by
    rw [a10]
    rw [← List.append_assoc, List.nodup_append] at hn
    exact hn.1
  have hopn2 : op ∉ slab (popS bf op s t).1 ++ (popS bf op s t).2.lab := by rw [a10]; exact hopn
  rw [List.nodup_append] at nd2
  generalize eS : (popS bf op s t).1 = S at *
  generalize eX : (popS bf op s t).2 = X at *
  generalize eC : (popL bf op (s.map (·.2)) none).1 = C at *
  generalize eL : (popL bf op (s.map (·.2)) none).2 = left at *
  have eK : linkStep bf (P, s.map (·.2)) op = (putC (putL P op left) op C, op :: C) := by
    unfold linkStep
    simp only [eC, eL]
  rw [eK]
  subst a1
  -- the parents after the first writing
  have key : ∃ P1 : Ps, P1 = putL P op left ∧ Rz P1 X (some op) ∧ (∀ k, k ∉ slab s → P1[k]? = P[k]?) ∧ (∀ k ∈ slab S, P1[k]? = P[k]?) ∧ P1.length = P.length := by
    refine ⟨_, rfl, ?_⟩
    cases left with
    | none =>
      obtain ⟨e, _⟩ := a3 rfl
      have e1 : S = s := by rw [← eS, e]
      have e2 : X = t := by rw [← eX, e]
      refine ⟨?_, fun k _ => rfl, fun k _ => rfl, rfl⟩
      rw [e2]
      refine hx.rz fun k hk => ?_
      rw [hr k hk]
      cases s with
      | nil => rfl
      | cons a s =>
        obtain ⟨L, c⟩ := a
        have w := a11 (L, c) (by rw [e1]; simp)
        have : ¬ bf c op = true := fun h => O.asym w ((hb (L, c) (by simp)).mp h)
        simp [own1, this]
    | some l =>
      have er : X.root = some l := (a2 rfl).symm
      have lm : l ∈ X.lab := root_mem er
      have lnS : l ∉ slab S := fun h => nd2.2.2 l h l lm rfl
      have ll : l < P.length := by
        have : l ∈ slab s ++ t.lab := by rw [← a10]; exact List.mem_append_right _ lm
        exact hl l (by rw [← List.append_assoc]; exact List.mem_append_left _ this)
      refine ⟨?_, fun k hk => ?_, fun k hk => get_set_ne fun e => lnS (by rw [← e]; exact hk), List.length_set⟩
      · refine Rs.rz (a6.frame (fun k hk hkr => get_set_ne fun e => hkr (by rw [e]; exact er)) nd2.2.1) fun k hk => ?_
        rw [er] at hk
        cases hk
        exact get_set_eq ll
      · refine get_set_ne fun e => hk ?_
        subst e
        have : k ∈ slab s ++ t.lab := by rw [← a10]; exact List.mem_append_right _ lm
        rcases List.mem_append.mp this with h | h
        · exact h
        · -- the root of X is an operator of the spine: it was popped
          exact (popL_left s none (by rw [eL]; rfl) k eL).elim (fun h => h) fun e => by cases e
  obtain ⟨P1, e1, r1, f1, f2, l1⟩ := key
  rw [← e1]
  clear e1
  refine ⟨(X, op) :: S, rfl, ?_, ?_, ?_, ⟨X, S, rfl⟩, ?_, ?_, ?_⟩
  · have opX : op ∉ X.lab := fun h => hopn2 (List.mem_append_right _ h)
    have opS : op ∉ slab S := fun h => hopn2 (List.mem_append_left _ h)
    cases S with
    | nil => exact ⟨r1, (f1 op fun h => hopn (List.mem_append_left _ h)).trans hop, trivial⟩
    | cons a S =>
      obtain ⟨L, c⟩ := a
      refine ⟨r1.frame fun k hk => get_set_ne fun e => opX (by rw [← e]; exact hk), get_set_eq (by rw [l1]; exact hopl), Inv.frame (fun k hk => ?_) a4⟩
      exact (get_set_ne fun e => opS (by rw [← e]; exact hk)).trans (f2 k hk)
  · exact ⟨a7, a8, fun q hq' => ⟨a11 q hq', a9 q hq'⟩, a5⟩
  · show slab S ++ (X.lab ++ [op]) = _
    rw [← List.append_assoc, a10, List.append_assoc]
  · intro k h1 h2
    cases S with
    | nil => exact f1 k h1
    | cons a S => exact (get_set_ne h2).trans (f1 k h1)
  · cases S with
    | nil => exact l1
    | cons a S => exact List.length_set.trans l1
  · intro q hq'
    rcases List.mem_cons.mp hq' with rfl | h
    · exact .inl rfl
    · exact .inr (suf.subset h)
/-- the labels of the parts of a level -/
def ilab : List (LT × Nat) → List Nat
  | [] => []
  | (t, k) :: is => t.lab ++ k :: ilab is
theorem coll_rz {P : Ps} : ∀ {s : List (LT × Nat)} {X : LT}, Inv P s → Rz P X (s.head?.map (·.2)) → Rz P (coll s X) none
  | [], X, _, h => h
  | (L, c) :: s, X, ⟨i1, i2, i3⟩, h => coll_rz (s := s) i3 ⟨i2, i1, h⟩
theorem coll_cart {wk : Nat → Nat → Prop} : ∀ {s : List (LT × Nat)} {X : LT}, Hp wk s → Cart wk X → (∀ q ∈ s, ∀ x ∈ X.lab, wk q.2 x) → Cart wk (coll s X)
  | [], X, _, h, _ => h
  | (L, c) :: s, X, ⟨p1, p2, p3, p4⟩, h, hq => coll_cart (s := s) p4 ⟨p2, fun x hx => hq (L, c) (by simp) x hx, p1, h⟩ fun q hq' x hx => by
    simp only [LT.lab, List.mem_append, List.mem_cons] at hx
    rcases hx with hx | rfl | hx
    · exact (p3 q hq').2 x hx
    · exact (p3 q hq').1
    · exact hq q (by simp [hq']) x hx
theorem coll_root : ∀ (s : List (LT × Nat)) (X : LT), s ≠ [] → (coll s X).root = (s.map (·.2)).getLast?
  | [], _, h => absurd rfl h
  | [(L, c)], X, _ => rfl
  | (L, c) :: a :: s, X, _ => by
    have := coll_root (a :: s) (.node L c X) (by simp)
    rw [coll, this]
    simp
def Owned (bf : Nat → Nat → Bool) (P : Ps) : Option Nat → List (LT × Nat) → LT → Prop
  | prev, [], t => ∀ k, t.root = some k → P[k]? = some prev
  | prev, (g, op) :: its, t => (∀ k, g.root = some k → P[k]? = some (some (own1 bf op prev))) ∧ Owned bf P (some op) its t
theorem Owned.frame {bf : Nat → Nat → Bool} {P P' : Ps} : ∀ {its : List (LT × Nat)} {t : LT} {prev : Option Nat}, (∀ q ∈ its, ∀ k ∈ q.1.lab, P'[k]? = P[k]?) → (∀ k ∈ t.lab, P'[k]? = P[k]?) → Owned bf P prev its t → Owned bf P' prev its t
  | [], t, prev, _, h2, h => fun k hk => (h2 k (root_mem hk)).trans (h k hk)
  | (g, op) :: its, t, prev, h1, h2, ⟨a, b⟩ => ⟨fun k hk => (h1 (g, op) (by simp) k (root_mem hk)).trans (a k hk), b.frame (fun q hq => h1 q (by simp [hq])) h2⟩
theorem ilab_op {its : List (LT × Nat)} {q : LT × Nat} (h : q ∈ its) : q.2 ∈ ilab its := by
  induction its with
  | nil => cases h
  | cons a its ih =>
    obtain ⟨t, k⟩ := a
    rcases List.mem_cons.mp h with rfl | h
    · simp [ilab]
    · simp [ilab, ih h]
theorem ilab_gr {its : List (LT × Nat)} {q : LT × Nat} (h : q ∈ its) {x : Nat} (hx : x ∈ q.1.lab) : x ∈ ilab its := by
  induction its with
  | nil => cases h
  | cons a its ih =>
    obtain ⟨t, k⟩ := a
    rcases List.mem_cons.mp h with rfl | h
    · simp [ilab, hx]
    · simp [ilab, ih h]
theorem ilab_nd {its : List (LT × Nat)} {q : LT × Nat} (hq : q ∈ its) (h : (ilab its).Nodup) : q.1.lab.Nodup := by
  induction its with
  | nil => cases hq
  | cons a its ih =>
    obtain ⟨u, k⟩ := a
    have h := List.nodup_append.mp (show (u.lab ++ k :: ilab its).Nodup from h)
    rcases List.mem_cons.mp hq with rfl | hq
    · exact h.1
    · exact ih hq (List.nodup_cons.mp h.2.1).2
theorem ops_ok {bf : Nat → Nat → Bool} {wk : Nat → Nat → Prop} (O : Ord wk) : ∀ (its : List (LT × Nat)) (t : LT) (s : List (LT × Nat)) (P : Ps),
    (∀ a, a ∈ s.map (·.2) ++ its.map (·.2) → ∀ b ∈ its.map (·.2), bf a b = true ↔ wk b a) → Inv P s → Hp wk s → (∀ q ∈ its, Rs P q.1 ∧ Cart wk q.1 ∧ P[q.2]? = some none) → Rs P t → Cart wk t →
    (∀ k, k ∈ s.map (·.2) ++ its.map (·.2) → (∀ q ∈ its, ∀ x ∈ q.1.lab, wk k x) ∧ ∀ x ∈ t.lab, wk k x) →
    Owned bf P (s.head?.map (·.2)) its t → (slab s ++ (ilab its ++ t.lab)).Nodup → (∀ k ∈ slab s ++ (ilab its ++ t.lab), k < P.length) →
    ∃ T : LT, T.lab = slab s ++ (ilab its ++ t.lab) ∧ Rz ((its.map (·.2)).foldl (linkStep bf) (P, s.map (·.2))).1 T none ∧ Cart wk T ∧
      (∀ k, k ∉ slab s → k ∉ ilab its → ((its.map (·.2)).foldl (linkStep bf) (P, s.map (·.2))).1[k]? = P[k]?) ∧ ((its.map (·.2)).foldl (linkStep bf) (P, s.map (·.2))).1.length = P.length ∧
      (s ≠ [] ∨ its ≠ [] → T.root = (((its.map (·.2)).foldl (linkStep bf) (P, s.map (·.2))).2).getLast?)
  | [], t, s, P, hb, hi, hh, hg, hx, hc, hw, ho, hn, hl => by
    refine ⟨coll s t, by simp [coll_lab, ilab], coll_rz hi (hx.rz ho), coll_cart hh hc fun q hq x hx => (hw q.2 (by simp; exact ⟨q.1, hq⟩)).2 x hx, fun k _ _ => rfl, rfl, fun h => ?_⟩
    rcases h with h | h
    · exact coll_root s t h
    · exact absurd rfl h
  | (g, op) :: its, t, s, P, hb, hi, hh, hg, hx, hc, hw, ho, hn, hl => by
    have hlab : slab s ++ (ilab ((g, op) :: its) ++ t.lab) = slab s ++ (g.lab ++ [op]) ++ (ilab its ++ t.lab) := by simp [ilab]
    rw [hlab] at hn hl
    have hn2 := List.nodup_append.mp hn
    obtain ⟨hg1, hg2, hg3⟩ := hg (g, op) (by simp)
    obtain ⟨s', e1, i1, h1, e2, ⟨L, s'', e3⟩, f1, l1, m1⟩ := step_ok O (P := P) (op := op) (s := s) (t := g) (bf := bf)
      (fun q hq => hb q.2 (List.mem_append_left _ (List.mem_map_of_mem hq)) op (by simp)) hi hh hg1 hg2 (fun x hx => (hw op (by simp)).1 (g, op) (by simp) x hx)
      (fun q hq x hx => (hw q.2 (List.mem_append_left _ (List.mem_map_of_mem hq))).1 (g, op) (by simp) x hx) ho.1 hn2.1 (fun k hk => hl k (List.mem_append_left _ hk)) hg3
    have e4 : linkStep bf (P, s.map (·.2)) op = ((linkStep bf (P, s.map (·.2)) op).1, s'.map (·.2)) := by rw [← e1]
    rw [List.map_cons, List.foldl_cons, e4]
    generalize (linkStep bf (P, s.map (·.2)) op).1 = P1 at *
    -- what was not touched
    have fr : ∀ k ∈ ilab its ++ t.lab, P1[k]? = P[k]? := fun k hk => f1 k (fun h => hn2.2.2 k (List.mem_append_left _ h) k hk rfl) fun e => hn2.2.2 op (by simp) k hk e.symm
    have sub : ∀ a, a ∈ s'.map (·.2) ++ its.map (·.2) → a ∈ s.map (·.2) ++ ((g, op) :: its).map (·.2) := by
      intro a ha
      rcases List.mem_append.mp ha with ha | ha
      · obtain ⟨q, hq, rfl⟩ := List.mem_map.mp ha
        rcases m1 q hq with e | h
        · rw [e]; simp
        · exact List.mem_append_left _ (List.mem_map_of_mem h)
      · exact List.mem_append_right _ (by rw [List.map_cons]; exact List.mem_cons_of_mem _ ha)
    have hd : s'.head?.map (·.2) = some op := by rw [e3]; rfl
    obtain ⟨T, t1, t2, t3, t4, t5, t6⟩ := ops_ok O its t s' P1 (fun a ha b hb' => hb a (sub a ha) b (by rw [List.map_cons]; exact List.mem_cons_of_mem _ hb')) i1 h1
      (fun q hq => by
        obtain ⟨a, b, c⟩ := hg q (by simp [hq])
        have nd : q.1.lab.Nodup := ilab_nd hq (List.nodup_append.mp hn2.2.1).1
        exact ⟨a.frame (fun k hk _ => fr k (List.mem_append_left _ (ilab_gr hq hk))) nd, b, (fr _ (List.mem_append_left _ (ilab_op hq))).trans c⟩)
      (hx.frame (fun k hk _ => fr k (List.mem_append_right _ hk)) (List.nodup_append.mp hn2.2.1).2.1) hc
      (fun k hk => ⟨fun q hq => (hw k (sub k hk)).1 q (by simp [hq]), (hw k (sub k hk)).2⟩)
      (by rw [hd]; exact ho.2.frame (fun q hq k hk => fr k (List.mem_append_left _ (ilab_gr hq hk))) fun k hk => fr k (List.mem_append_right _ hk))
      (by rw [e2]; exact hn) (by rw [e2, l1]; exact hl)
    refine ⟨T, by rw [t1, e2, hlab], t2, t3, fun k h1 h2 => ?_, by rw [t5, l1], fun _ => t6 (.inl (by rw [e3]; simp))⟩
    have h3 : k ∉ ilab its := fun h => h2 (by simp [ilab, h])
    have h4 : k ∉ slab s' := by
      rw [e2]
      intro h
      simp only [List.mem_append, List.mem_singleton] at h
      rcases h with h | h | h
      · exact h1 h
      · exact h2 (by simp [ilab, h])
      · exact h2 (by simp [ilab, h])
    rw [t4 k h4 h3]
    exact f1 k h1 fun e => h2 (by simp [ilab, e])
end Tr
namespace Tr
open Ex
def setR (P : Ps) (q : Option Nat) : Option Nat → Ps
  | some k => P.set k q
  | none => P
/-- the roots of the groups get their owners -/
def setG (bf : Nat → Nat → Bool) : Ps → Option Nat → List (Option Nat) → List Nat → Ps
  | P, prev, r :: rs, op :: ops => setG bf (setR P (some (own1 bf op prev)) r) (some op) rs ops
  | P, prev, r :: _, [] => setR P prev r
  | P, _, [], _ => P
def linkLv (bf : Nat → Nat → Bool) (P : Ps) (ops : List Nat) (roots : List (Option Nat)) : Ps × Option Nat := match ops with
  | [] => (P, roots.headD none)
  | _ => ((ops.foldl (linkStep bf) (setG bf P none roots ops, [])).1, (ops.foldl (linkStep bf) (setG bf P none roots ops, [])).2.getLast?)
theorem setR_len (P : Ps) (q r : Option Nat) : (setR P q r).length = P.length := by
  cases r <;> simp [setR]
theorem setR_ne {P : Ps} {q r : Option Nat} {k : Nat} (h : r ≠ some k) : (setR P q r)[k]? = P[k]? := by
  cases r with
  | none => rfl
  | some j => exact get_set_ne fun e => h (by rw [e])
theorem setR_eq {P : Ps} {q r : Option Nat} {k : Nat} (h : r = some k) (hl : k < P.length) : (setR P q r)[k]? = some q := by
  subst h; exact get_set_eq hl
def rootsOf (its : List (LT × Nat)) (t : LT) : List (Option Nat) := its.map (fun q => q.1.root) ++ [t.root]
theorem groups_ok {bf : Nat → Nat → Bool} : ∀ (its : List (LT × Nat)) (t : LT) (prev : Option Nat) (P : Ps), (ilab its ++ t.lab).Nodup → (∀ k ∈ ilab its ++ t.lab, k < P.length) →
    Owned bf (setG bf P prev (rootsOf its t) (its.map (·.2))) prev its t ∧ (∀ k, (∀ q ∈ its, q.1.root ≠ some k) → t.root ≠ some k → (setG bf P prev (rootsOf its t) (its.map (·.2)))[k]? = P[k]?) ∧ (setG bf P prev (rootsOf its t) (its.map (·.2))).length = P.length
  | [], t, prev, P, hn, hl => ⟨fun k hk => setR_eq hk (hl k (by simp [ilab, root_mem hk])), fun k _ h => setR_ne h, setR_len _ _ _⟩
  | (g, op) :: its, t, prev, P, hn, hl => by
    have hlab : ilab ((g, op) :: its) ++ t.lab = g.lab ++ ([op] ++ (ilab its ++ t.lab)) := by simp [ilab]
    rw [hlab] at hn hl
    have hn1 := List.nodup_append.mp hn
    have hn2 := List.nodup_append.mp hn1.2.1
    obtain ⟨a, b, c⟩ := groups_ok its t (some op) (setR P (some (own1 bf op prev)) g.root) hn2.2.1 (fun k hk => by rw [setR_len]; exact hl k (by simp at hk ⊢; rcases hk with h | h <;> simp [h]))
    have e : setG bf P prev (rootsOf ((g, op) :: its) t) (((g, op) :: its).map (·.2)) = setG bf (setR P (some (own1 bf op prev)) g.root) (some op) (rootsOf its t) (its.map (·.2)) := rfl
    rw [e]
    refine ⟨⟨fun k hk => ?_, a⟩, fun k h1 h2 => ?_, by rw [c, setR_len]⟩
    · have hk' := root_mem hk
      rw [b k (fun q hq h => hn1.2.2 k hk' k (List.mem_append_right _ (List.mem_append_left _ (ilab_gr hq (root_mem h)))) rfl) fun h => hn1.2.2 k hk' k (List.mem_append_right _ (List.mem_append_right _ (root_mem h))) rfl]
      exact setR_eq hk (hl k (List.mem_append_left _ hk'))
    · rw [b k (fun q hq => h1 q (by simp [hq])) h2]
      exact setR_ne (h1 (g, op) (by simp))
theorem level_ok {bf : Nat → Nat → Bool} {wk : Nat → Nat → Prop} (O : Ord wk) {its : List (LT × Nat)} {t : LT} {P : Ps}
    (hb : ∀ a ∈ its.map (·.2), ∀ b ∈ its.map (·.2), bf a b = true ↔ wk b a) (hg : ∀ q ∈ its, Rz P q.1 none ∧ Cart wk q.1 ∧ P[q.2]? = some none) (hx : Rz P t none) (hc : Cart wk t)
    (hw : ∀ k ∈ its.map (·.2), (∀ q ∈ its, ∀ x ∈ q.1.lab, wk k x) ∧ ∀ x ∈ t.lab, wk k x) (hn : (ilab its ++ t.lab).Nodup) (hl : ∀ k ∈ ilab its ++ t.lab, k < P.length) :
    ∃ T : LT, T.lab = ilab its ++ t.lab ∧ Rz (linkLv bf P (its.map (·.2)) (rootsOf its t)).1 T none ∧ Cart wk T ∧ (∀ k, k ∉ ilab its ++ t.lab → (linkLv bf P (its.map (·.2)) (rootsOf its t)).1[k]? = P[k]?) ∧
      (linkLv bf P (its.map (·.2)) (rootsOf its t)).1.length = P.length ∧ T.root = (linkLv bf P (its.map (·.2)) (rootsOf its t)).2 := by
  by_cases h : its = []
  · subst h
    exact ⟨t, rfl, hx, hc, fun k _ => rfl, rfl, rfl⟩
  · have e : linkLv bf P (its.map (·.2)) (rootsOf its t) = (((its.map (·.2)).foldl (linkStep bf) (setG bf P none (rootsOf its t) (its.map (·.2)), [])).1, ((its.map (·.2)).foldl (linkStep bf) (setG bf P none (rootsOf its t) (its.map (·.2)), [])).2.getLast?) := by
      cases its with
      | nil => exact absurd rfl h
      | cons a its => rfl
    obtain ⟨g1, g2, g3⟩ := groups_ok (bf := bf) its t none P hn hl
    rw [e]
    generalize setG bf P none (rootsOf its t) (its.map (·.2)) = P1 at *
    have hn1 := List.nodup_append.mp hn
    have opr : ∀ (its : List (LT × Nat)), (ilab its).Nodup → ∀ q ∈ its, ∀ q' ∈ its, q'.2 ∉ q.1.lab := by
      intro its
      induction its with
      | nil => intro _ q hq; cases hq
      | cons a its ih =>
        intro nd q hq q' hq'
        obtain ⟨u, k⟩ := a
        have nd := List.nodup_append.mp (show (u.lab ++ k :: ilab its).Nodup from nd)
        have nd2 := List.nodup_cons.mp nd.2.1
        rcases List.mem_cons.mp hq with rfl | hq <;> rcases List.mem_cons.mp hq' with rfl | hq'
        · exact fun hx => nd.2.2 _ hx k (by simp) rfl
        · exact fun hx => nd.2.2 _ hx q'.2 (List.mem_cons_of_mem _ (ilab_op hq')) rfl
        · exact fun hx => nd2.1 (ilab_gr hq hx)
        · exact ih nd2.2 q hq q' hq'
    have tr : ∀ q ∈ its, ∀ k ∈ q.1.lab, t.root ≠ some k := fun q hq k hk h => hn1.2.2 k (ilab_gr hq hk) k (root_mem h) rfl
    have gdis : ∀ (its : List (LT × Nat)), (ilab its).Nodup → ∀ q ∈ its, ∀ q' ∈ its, ∀ k ∈ q.1.lab, q'.1.root = some k → q.1.root = some k := by
      intro its
      induction its with
      | nil => intro _ q hq; cases hq
      | cons a its ih =>
        intro nd q hq q' hq' k hk hr
        obtain ⟨u, j⟩ := a
        have nd := List.nodup_append.mp (show (u.lab ++ j :: ilab its).Nodup from nd)
        have nd2 := List.nodup_cons.mp nd.2.1
        rcases List.mem_cons.mp hq with rfl | hq <;> rcases List.mem_cons.mp hq' with rfl | hq'
        · exact hr
        · exact absurd rfl (nd.2.2 k hk k (List.mem_cons_of_mem _ (ilab_gr hq' (root_mem hr))))
        · exact absurd rfl (nd.2.2 k (root_mem hr) k (List.mem_cons_of_mem _ (ilab_gr hq hk)))
        · exact ih nd2.2 q hq q' hq' k hk hr
    obtain ⟨T, t1, t2, t3, t4, t5, t6⟩ := ops_ok O its t [] P1 (fun a ha b hb' => hb a (by simpa using ha) b hb') trivial trivial
      (fun q hq => by
        obtain ⟨a, b, c⟩ := hg q hq
        refine ⟨a.rs.frame (fun k hk hkr => g2 k (fun q' hq' h => hkr (gdis its hn1.1 q hq q' hq' k hk h)) (tr q hq k hk)) (ilab_nd hq hn1.1), b, ?_⟩
        rw [g2 q.2 (fun q' hq' h => opr its hn1.1 q' hq' q hq (root_mem h)) fun h => hn1.2.2 q.2 (ilab_op hq) q.2 (root_mem h) rfl]
        exact c)
      (hx.rs.frame (fun k hk hkr => g2 k (fun q' hq' h => hn1.2.2 k (ilab_gr hq' (root_mem h)) k hk rfl) hkr) hn1.2.1) hc
      (fun k hk => hw k (by simpa using hk)) g1 (by simpa [slab] using hn) (by rw [g3]; simpa [slab] using hl)
    refine ⟨T, by simpa [slab] using t1, t2, t3, fun k hk => ?_, by rw [← g3]; exact t5, t6 (.inr h)⟩
    have h1 : k ∉ ilab its := fun x => hk (List.mem_append_left _ x)
    have h2 : k ∉ t.lab := fun x => hk (List.mem_append_right _ x)
    exact (t4 k (by simp [slab]) h1).trans (g2 k (fun q hq e => h1 (ilab_gr hq (root_mem e))) fun e => h2 (root_mem e))
abbrev TS := Ps × List (List Nat × List (Option Nat)) × Nat
def shut (bf : Nat → Nat → Bool) (P : Ps) (n : Nat) : List (List Nat × List (Option Nat)) → TS
  | (os, rs) :: (os2, rs2) :: B => ((linkLv bf P os rs).1, (os2, rs2 ++ [(linkLv bf P os rs).2]) :: B, n)
  | B => (P, B, n)
def addR : List (List Nat × List (Option Nat)) → Option Nat → List (List Nat × List (Option Nat))
  | (os, rs) :: B, r => (os, rs ++ [r]) :: B
  | [], _ => []
def addO : List (List Nat × List (Option Nat)) → Nat → List (List Nat × List (Option Nat))
  | (os, rs) :: B, n => (os ++ [n], rs) :: B
  | [], _ => []
def stp (bf : Nat → Nat → Bool) (s : TS) (c : Nat) : TS :=
  if c = 40 then (s.1, ([], []) :: s.2.1, s.2.2) else if c = 41 then shut bf s.1 s.2.2 s.2.1 else if c = 46 then (s.1, addR s.2.1 none, s.2.2) else (s.1, addO s.2.1 s.2.2, s.2.2 + 1)
mutual
def Op.deps : Op → Nat → List Nat
  | .dot, _ => []
  | .par e, d => E.deps e (d + 1)
def E.deps : E → Nat → List Nat
  | .one o, d => Op.deps o d
  | .cons o _ e, d => Op.deps o d ++ d :: E.deps e d
end
def wkO (dep : Nat → Nat) (v : Nat → Int) (a b : Nat) : Prop := dep a < dep b ∨ dep a = dep b ∧ (v a < v b ∨ v a = v b ∧ b < a)
theorem wkO_ord (dep : Nat → Nat) (v : Nat → Int) : Ord (wkO dep v) := by
  refine ⟨fun {a b c} h1 h2 => ?_, fun {a b} h => ?_, fun {a b} h1 h2 => ?_⟩ <;> unfold wkO at * <;> omega
def bfO (v : Nat → Int) (a b : Nat) : Bool := decide (v a > v b) || (decide (v a = v b) && decide (a < b))
theorem bfO_wk {dep : Nat → Nat} {v : Nat → Int} {a b : Nat} (h : dep a = dep b) : bfO v a b = true ↔ wkO dep v b a := by
  unfold bfO wkO
  simp only [Bool.or_eq_true, Bool.and_eq_true, decide_eq_true_eq]
  omega
mutual
theorem Op.deps_len : ∀ (o : Op) (d : Nat), (Op.deps o d).length = o.lets.length
  | .dot, _ => rfl
  | .par e, d => E.deps_len e (d + 1)
theorem E.deps_len : ∀ (e : E) (d : Nat), (E.deps e d).length = e.lets.length
  | .one o, d => Op.deps_len o d
  | .cons o _ e, d => by simp [E.deps, E.lets, Op.deps_len o d, E.deps_len e d]
end
mutual
theorem Op.deps_ge : ∀ (o : Op) (d : Nat), ∀ x ∈ Op.deps o d, d < x
  | .dot, _, x, h => by simp [Op.deps] at h
  | .par e, d, x, h => by have := E.deps_ge e (d + 1) x h; omega
theorem E.deps_ge : ∀ (e : E) (d : Nat), ∀ x ∈ E.deps e d, d ≤ x
  | .one o, d, x, h => Nat.le_of_lt (Op.deps_ge o d x h)
  | .cons o _ e, d, x, h => by
    simp only [E.deps, List.mem_append, List.mem_cons] at h
    rcases h with h | h | h
    · exact Nat.le_of_lt (Op.deps_ge o d x h)
    · omega
    · exact E.deps_ge e d x h
end
theorem stp_let {bf : Nat → Nat → Bool} {P : Ps} {os : List Nat} {rs : List (Option Nat)} {B : List (List Nat × List (Option Nat))} {n c : Nat} (h : isL c = true) : stp bf (P, (os, rs) :: B, n) c = (P, (os ++ [n], rs) :: B, n + 1) := by
  obtain ⟨h1, h2, h3⟩ := isL_40 h
  simp [stp, h1, h2, h3, addO]
theorem stp_opn {bf : Nat → Nat → Bool} {P : Ps} {B : List (List Nat × List (Option Nat))} {n : Nat} : stp bf (P, B, n) 40 = (P, ([], []) :: B, n) := rfl
theorem stp_cls {bf : Nat → Nat → Bool} {P : Ps} {os os2 : List Nat} {rs rs2 : List (Option Nat)} {B : List (List Nat × List (Option Nat))} {n : Nat} : stp bf (P, (os, rs) :: (os2, rs2) :: B, n) 41 = ((linkLv bf P os rs).1, (os2, rs2 ++ [(linkLv bf P os rs).2]) :: B, n) := rfl
/-- what a level leaves -/
structure Lvl (dep : Nat → Nat) (v : Nat → Int) (n d len : Nat) (P P' : Ps) (its : List (LT × Nat)) (t : LT) : Prop where
  lab : ilab its ++ t.lab = List.range' n len
  gr : ∀ q ∈ its, Rz P' q.1 none ∧ Cart (wkO dep v) q.1 ∧ P'[q.2]? = some none
  lst : Rz P' t none
  crt : Cart (wkO dep v) t
  dop : ∀ q ∈ its, dep q.2 = d
  dgr : ∀ q ∈ its, ∀ x ∈ q.1.lab, d < dep x
  dls : ∀ x ∈ t.lab, d < dep x
  fr : ∀ k, ¬ (n ≤ k ∧ k < n + len) → P'[k]? = P[k]?
  len : P'.length = P.length
theorem Lvl.link {dep : Nat → Nat} {v : Nat → Int} {n d len : Nat} {P P' : Ps} {its : List (LT × Nat)} {t : LT} (h : Lvl dep v n d len P P' its t) (hl : n + len ≤ P.length) :
    ∃ T : LT, T.lab = List.range' n len ∧ Rz (linkLv (bfO v) P' (its.map (·.2)) (rootsOf its t)).1 T none ∧ Cart (wkO dep v) T ∧ (∀ k, ¬ (n ≤ k ∧ k < n + len) → (linkLv (bfO v) P' (its.map (·.2)) (rootsOf its t)).1[k]? = P[k]?) ∧
      (linkLv (bfO v) P' (its.map (·.2)) (rootsOf its t)).1.length = P.length ∧ T.root = (linkLv (bfO v) P' (its.map (·.2)) (rootsOf its t)).2 := by
  have mr : ∀ k, k ∈ List.range' n len ↔ n ≤ k ∧ k < n + len := fun k => by rw [List.mem_range'_1]
  have dd : ∀ k ∈ its.map (·.2), dep k = d := fun k hk => by obtain ⟨q, hq, rfl⟩ := List.mem_map.mp hk; exact h.dop q hq
  obtain ⟨T, t1, t2, t3, t4, t5, t6⟩ := level_ok (wkO_ord dep v) (its := its) (t := t) (P := P') (bf := bfO v)
    (fun a ha b hb => bfO_wk ((dd a ha).trans (dd b hb).symm)) h.gr h.lst h.crt
    (fun k hk => ⟨fun q hq x hx => .inl (by rw [dd k hk]; exact h.dgr q hq x hx), fun x hx => .inl (by rw [dd k hk]; exact h.dls x hx)⟩)
    (by rw [h.lab]; exact List.nodup_range') (fun k hk => by rw [h.lab, mr] at hk; rw [h.len]; omega)
  refine ⟨T, t1.trans h.lab, t2, t3, fun k hk => ?_, t5.trans h.len, t6⟩
  rw [t4 k (by rw [h.lab, mr]; exact hk)]
  exact h.fr k hk
theorem range'_app (n a b : Nat) : List.range' n (a + b) = List.range' n a ++ List.range' (n + a) b := by
  rw [List.range'_append_1]
mutual
theorem Op.run {dep : Nat → Nat} {v : Nat → Int} : ∀ (o : Op) (n d : Nat) (P : Ps) (os : List Nat) (rs : List (Option Nat)) (B : List (List Nat × List (Option Nat))), (∀ c ∈ o.lets, isL c = true) → (List.range' n o.lets.length).map dep = Op.deps o d → (∀ k, n ≤ k → k < n + o.lets.length → P[k]? = some none) → n + o.lets.length ≤ P.length →
    ∃ (P' : Ps) (T : LT), o.text.foldl (stp (bfO v)) (P, (os, rs) :: B, n) = (P', (os, rs ++ [T.root]) :: B, n + o.lets.length) ∧ T.lab = List.range' n o.lets.length ∧ Rz P' T none ∧ Cart (wkO dep v) T ∧ (∀ k, ¬ (n ≤ k ∧ k < n + o.lets.length) → P'[k]? = P[k]?) ∧ P'.length = P.length ∧ (∀ x ∈ T.lab, d < dep x)
  | .dot, n, d, P, os, rs, B, _, _, _, _ => ⟨P, .leaf, rfl, rfl, trivial, trivial, fun _ _ => rfl, rfl, fun x h => (nomatch h)⟩
  | .par e, n, d, P, os, rs, B, hL, hd, hP, hl => by
    obtain ⟨P', its, t, e1, L⟩ := E.run (v := v) e n (d + 1) P [] [] ((os, rs) :: B) hL hd hP hl
    obtain ⟨T, t1, t2, t3, t4, t5, t6⟩ := L.link hl
    refine ⟨_, T, ?_, t1, t2, t3, t4, t5, fun x hx => ?_⟩
    · show (40 :: (e.text ++ [41])).foldl _ _ = _
      rw [List.foldl_cons, stp_opn, List.foldl_append, e1, List.nil_append, List.nil_append, List.foldl_cons, List.foldl_nil, stp_cls, ← t6]
      rfl
    · rw [t1] at hx
      have := List.mem_map_of_mem (f := dep) hx
      rw [show (List.range' n e.lets.length).map dep = E.deps e (d + 1) from hd] at this
      exact E.deps_ge e (d + 1) _ this
theorem E.run {dep : Nat → Nat} {v : Nat → Int} : ∀ (e : E) (n d : Nat) (P : Ps) (os : List Nat) (rs : List (Option Nat)) (B : List (List Nat × List (Option Nat))), (∀ c ∈ e.lets, isL c = true) → (List.range' n e.lets.length).map dep = E.deps e d → (∀ k, n ≤ k → k < n + e.lets.length → P[k]? = some none) → n + e.lets.length ≤ P.length →
    ∃ (P' : Ps) (its : List (LT × Nat)) (t : LT), e.text.foldl (stp (bfO v)) (P, (os, rs) :: B, n) = (P', (os ++ its.map (·.2), rs ++ rootsOf its t) :: B, n + e.lets.length) ∧ Lvl dep v n d e.lets.length P P' its t
  | .one o, n, d, P, os, rs, B, hL, hd, hP, hl => by
    obtain ⟨P', T, e1, t1, t2, t3, t4, t5, t6⟩ := Op.run (v := v) o n d P os rs B hL hd hP hl
    exact ⟨P', [], T, by rw [show (E.one o).text = o.text from rfl, e1]; simp [rootsOf, E.lets], ⟨t1, fun q h => (nomatch h), t2, t3, fun q h => (nomatch h), fun q h => (nomatch h), t6, t4, t5⟩⟩
  | .cons o c e, n, d, P, os, rs, B, hL, hd, hP, hl => by
    have hlen : (E.cons o c e).lets.length = o.lets.length + (1 + e.lets.length) := by simp [E.lets]; omega
    have hL1 : ∀ x ∈ o.lets, isL x = true := fun x hx => hL x (by simp [E.lets, hx])
    have hL2 : ∀ x ∈ e.lets, isL x = true := fun x hx => hL x (by simp [E.lets, hx])
    have hc : isL c = true := hL c (by simp [E.lets])
    rw [hlen, range'_app, range'_app, List.map_append, List.map_append, show E.deps (.cons o c e) d = Op.deps o d ++ ([d] ++ E.deps e d) from rfl] at hd
    obtain ⟨hd1, hd2⟩ := List.append_inj hd (by simp [Op.deps_len])
    obtain ⟨hd3, hd4⟩ := List.append_inj hd2 (by simp)
    have hdn : dep (n + o.lets.length) = d := by simpa using hd3
    rw [hlen] at hl hP
    obtain ⟨P1, T, e1, t1, t2, t3, t4, t5, t6⟩ := Op.run (v := v) o n d P os rs B hL1 hd1 (fun k h1 h2 => hP k h1 (by omega)) (by omega)
    obtain ⟨P2, its, t, e2, L⟩ := E.run (v := v) e (n + o.lets.length + 1) d P1 (os ++ [n + o.lets.length]) (rs ++ [T.root]) B hL2 hd4 (fun k h1 h2 => by rw [t4 k (by omega)]; exact hP k (by omega) (by omega)) (by omega)
    have m1 : ∀ k, k ∈ T.lab → n ≤ k ∧ k < n + o.lets.length := fun k hk => by rw [t1, List.mem_range'_1] at hk; exact hk
    refine ⟨P2, (T, n + o.lets.length) :: its, t, ?_, ⟨?_, ?_, L.lst, L.crt, ?_, ?_, L.dls, ?_, L.len.trans t5⟩⟩
    · rw [show (E.cons o c e).text = o.text ++ c :: e.text from rfl, List.foldl_append, e1, List.foldl_cons, stp_let hc, e2, hlen]
      simp [rootsOf]; omega
    · rw [hlen, range'_app, range'_app]
      show (T.lab ++ (n + o.lets.length) :: ilab its) ++ t.lab = _
      rw [List.append_assoc, List.cons_append, L.lab, t1]
      rfl
    · intro q hq
      rcases List.mem_cons.mp hq with rfl | hq
      · exact ⟨t2.frame fun k hk => L.fr k (by have := m1 k hk; omega), t3, (L.fr _ (by omega)).trans ((t4 _ (by omega)).trans (hP _ (by omega) (by omega)))⟩
      · exact L.gr q hq
    · intro q hq
      rcases List.mem_cons.mp hq with rfl | hq
      · exact hdn
      · exact L.dop q hq
    · intro q hq
      rcases List.mem_cons.mp hq with rfl | hq
      · exact t6
      · exact L.dgr q hq
    · intro k hk
      rw [hlen] at hk
      rw [L.fr k (by omega), t4 k (by omega)]
end
end Tr
namespace Pg
open PySem PySem.Spec PyProof.Rows L2 Pm
def rowOf (t : Tab) (c : Nat) : Nat × Int × Int := (t.find? fun r => r.1 == c).getD (0, 0, 0)
def has (t : Tab) (c : Nat) : Prop := ∃ r ∈ t, r.1 = c
theorem getL_none {α : Type} {k : Key} : ∀ {ks : List Key} {xs : List α}, ¬ ks.any (fun k2 => decide (k2 = k)) = true → getL ks xs k = none
  | [], _, _ => by simp [getL]
  | _ :: _, [], _ => by simp [getL]
  | a :: ks, x :: xs, h => by
    simp only [List.any_cons, Bool.or_eq_true, decide_eq_true_eq, not_or] at h
    rw [getL, if_neg h.1]
    exact getL_none (by simpa using h.2)
theorem getL_app {α : Type} {k k' : Key} {d : α} : ∀ {ks : List Key} {xs : List α}, ks.length = xs.length → getL (ks ++ [k]) (xs ++ [d]) k' = (getL ks xs k').or (if k = k' then some d else none)
  | [], [], _ => by
    simp only [List.nil_append, getL]
    split <;> rfl
  | [], _ :: _, h => by simp at h
  | _ :: _, [], h => by simp at h
  | a :: ks, x :: xs, h => by
    rw [List.cons_append, List.cons_append, getL, getL, getL_app (by simpa using h)]
    split <;> rfl
theorem getL_zip {α : Type} {k k' : Key} {d : α} : ∀ {ks : List Key} {xs : List α}, ks.length = xs.length → ks.any (fun k2 => decide (k2 = k)) = true → getL ks (List.zipWith (fun k2 x => if k2 = k then d else x) ks xs) k' = if k = k' then some d else getL ks xs k'
  | [], _, _, h => by simp at h
  | _ :: _, [], h, _ => by simp at h
  | a :: ks, x :: xs, hl, h => by
    rw [List.zipWith_cons_cons, getL, getL]
    by_cases e : a = k
    · subst e
      by_cases e2 : a = k'
      · simp [e2]
      · rw [if_neg e2, if_neg e2, if_neg e2]
        by_cases e3 : ks.any (fun k2 => decide (k2 = a)) = true
        · rw [getL_zip (by simpa using hl) e3, if_neg e2]
        · congr 1
          clear h
          have : ∀ (ks : List Key) (xs : List α), ks.length = xs.length → ¬ ks.any (fun k2 => decide (k2 = a)) = true → List.zipWith (fun k2 x => if k2 = a then d else x) ks xs = xs := by
            intro ks
            induction ks with
            | nil => intro xs hl _; cases xs with | nil => rfl | cons => simp at hl
            | cons b ks ih =>
              intro xs hl h
              cases xs with
              | nil => simp at hl
              | cons y ys =>
                simp only [List.any_cons, Bool.or_eq_true, decide_eq_true_eq, not_or] at h
                rw [List.zipWith_cons_cons, if_neg h.1, ih ys (by simpa using hl) (by simpa using h.2)]
          exact this ks xs (by simpa using hl) e3
    · have h2 : ks.any (fun k2 => decide (k2 = k)) = true := by simpa [e] using h
      rw [if_neg e, getL_zip (by simpa using hl) h2]
      by_cases e2 : a = k'
      · rw [if_pos e2, if_pos e2, if_neg (fun q => e (e2.trans q.symm))]
      · rw [if_neg e2, if_neg e2]
theorem get_put {α : Type} {k k' : Key} {d : α} {ks : List Key} {xs : List α} (hl : ks.length = xs.length) : getL (putKs ks k) (putL ks xs k d) k' = if k = k' then some d else getL ks xs k' := by
  unfold putKs putL
  by_cases h : ks.any (fun k2 => decide (k2 = k)) = true
  · rw [if_pos h, if_pos h, getL_zip hl h]
  · rw [if_neg h, if_neg h, getL_app hl]
    by_cases e : k = k'
    · rw [if_pos e, if_pos e, ← e, getL_none h]; rfl
    · rw [if_neg e, if_neg e]
      cases getL ks xs k' <;> rfl
theorem put_len {α : Type} (ks : List Key) (k : Key) : (putKs ks k).length ≤ ks.length + 1 := by
  unfold putKs
  split <;> simp
theorem put_plain {ks : List Key} {xs : List D} {k : Key} {d : D} (h : plainL xs = true) (hd : d.plain = true) : plainL (putL ks xs k d) = true := by
  have key : ∀ (ks : List Key) (xs : List D), plainL xs = true → plainL (List.zipWith (fun k2 x => if k2 = k then d else x) ks xs) = true := by
    intro ks
    induction ks with
    | nil => intro xs _; simp [plainL]
    | cons a ks ih =>
      intro xs hx
      cases xs with
      | nil => simp [plainL]
      | cons x xs =>
        simp only [plainL, Bool.and_eq_true] at hx
        rw [List.zipWith_cons_cons, plainL, ih xs hx.2]
        split
        · rw [hd]; rfl
        · rw [hx.1]; rfl
  unfold putL
  split
  · exact key ks xs h
  · clear key
    induction xs with
    | nil => simp [plainL, hd]
    | cons x xs ih =>
      simp only [plainL, Bool.and_eq_true] at h
      rw [List.cons_append, plainL, h.1, ih h.2]; rfl
theorem key_sg {c c' : Nat} : (Sum.inr (T [c]) : Key) = Sum.inr (T [c']) ↔ c = c' := by
  rw [Sum.inr.injEq]
  constructor
  · intro h
    have := congrArg code h
    exact this
  · intro h; rw [h]
def SmT (t : Tab) : Prop := ∀ r ∈ t, Sm 60 r.2.1 ∧ Sm 60 r.2.2
theorem SmT.of {t : Tab} (h : TabOk t) : SmT t := fun r hr => by
  have := h.num r hr
  unfold Sm GR at *
  omega
end Pg
namespace Pg
open PySem PySem.Spec PyProof.Rows L2 Pm
def vf (vs : List Int) (k : Nat) : Int := vs.getD k 0
def oD (b : Bool) (os : List Nat) : D := .node b .lst (os.map fun k : Nat => D.int (k : Int))
theorem oD_plain (os : List Nat) : plainL (os.map fun k : Nat => D.int (k : Int)) = true := by
  induction os with
  | nil => rfl
  | cons x xs ih => rw [List.map_cons, plainL, ih]; rfl
theorem frz_ints (os : List Nat) : frzL (os.map fun k : Nat => D.int (k : Int)) = os.map fun k : Nat => D.int (k : Int) := frzL_of_plain _ (oD_plain os)
end Pg
namespace Pm
open PySem PySem.Spec PyProof.Rows L2
end Pm
namespace Tr
open Ex
structure LvOk (n : Nat) (q : List Nat × List (Option Nat)) : Prop where
  asc : q.1.Pairwise (· < ·)
  ops : ∀ k ∈ q.1, k < n
  rts : ∀ r ∈ q.2, ∀ k, r = some k → k < n
theorem LvOk.mono {n m : Nat} {q : List Nat × List (Option Nat)} (h : LvOk n q) (l : n ≤ m) : LvOk m q := ⟨h.asc, fun k hk => Nat.lt_of_lt_of_le (h.ops k hk) l, fun r hr k e => Nat.lt_of_lt_of_le (h.rts r hr k e) l⟩
end Tr
namespace Pg
open PySem PySem.Spec PyProof.Rows L2 Pm
def st0 (n : Nat) : Tr.TS := (List.replicate n none, [([], [])], 0)
end Pg
namespace Tr
/-- the subtree of an operator -/
def subT : LT → Nat → LT
  | .leaf, _ => .leaf
  | .node l k r, x => if x = k then .node l k r else if x < k then subT l x else subT r x
/-- in order, without a gap -/
def Run (T : LT) (a m : Nat) : Prop := T.lab = List.range' a m
theorem Run.mem {T : LT} {a m x : Nat} (h : Run T a m) : x ∈ T.lab ↔ a ≤ x ∧ x < a + m := by rw [h, List.mem_range'_1]
theorem Run.root {T : LT} {a m k : Nat} (h : Run T a m) (e : T.root = some k) : a ≤ k ∧ k < a + m := h.mem.mp (root_mem e)
end Tr
namespace Tr
def leftOf (T : LT) (p : Nat) : Option Nat := match subT T p with
  | .node l _ _ => l.root
  | .leaf => none
def rightOf (T : LT) (p : Nat) : Option Nat := match subT T p with
  | .node _ _ r => r.root
  | .leaf => none
end Tr
namespace Pm
open PySem PySem.Spec PyProof.Rows L2
end Pm
namespace Pg
open PySem PySem.Spec PyProof.Rows L2 Pm
noncomputable def b_is_integer : M Fl := (rtn (andE (app opIsi (aCons (loc 0) (aCons (con (.op (.ty "int"))) aNil))) (notE (app opIsi (aCons (loc 0) (aCons (con (.op (.ty "bool"))) aNil))))))
noncomputable def x_is_integer : FSem := mkF 1 1 [] b_is_integer
noncomputable def b_is_between : M Fl := (rtn (andE (callF x_is_integer (aCons (loc 0) aNil)) (chI cLe cLe (loc 1) (loc 0) (loc 2))))
noncomputable def x_is_between : FSem := mkF 3 3 [] b_is_between
theorem isint_i (i : Int) : x_is_integer [.int i] = .ret (.bl true) [.int i] := by
  unfold x_is_integer
  refine mkF_rt (ρ := [some (.int i)]) ?_ rfl
  unfold b_is_integer
  show (rtn (andE (app opIsi (aCons (loc 0) (aCons (con (.op (.ty "int"))) aNil))) (notE (app opIsi (aCons (loc 0) (aCons (con (.op (.ty "bool"))) aNil)))))) [some (.int i)] = _
  have h1 : opIsi [.int i, .op (.ty "int")] = some (.bl true) := rfl
  have h2 : opIsi [.int i, .op (.ty "bool")] = some (.bl false) := rfl
  simp [rtn, bnd, app, aCons, aNil, loc, con, Pm.ret, peek1, peeks, use1, tst, andE, notE, h1, h2]
theorem between_i (i a b : Int) : x_is_between [.int i, .int a, .int b] = .ret (.bl (decide (a ≤ i ∧ i ≤ b))) [.int i, .int a, .int b] := by
  unfold x_is_between
  refine mkF_rt (ρ := [some (.int i), some (.int a), some (.int b)]) ?_ rfl
  unfold b_is_between
  show (rtn (andE (callF x_is_integer (aCons (loc 0) aNil)) (chI cLe cLe (loc 1) (loc 0) (loc 2)))) [some (.int i), some (.int a), some (.int b)] = _
  by_cases h1 : a ≤ i
  · simp [rtn, bnd, aCons, aNil, loc, Pm.ret, peek1, use1, tst, andE, D.plain, callF, takes, puts, isint_i, chI, cLe, h1]
  · simp [mkF, reFrz, seq, Pm.ite, rtn, mov, asg, drp, sNx, bnd, Pm.bin, Pm.un, app, aCons, aNil, idx, loc, con, Pm.ret, peek1, peeks, itemOf, on2I, iAdd, iSub, iGt, iGe, iLt, iLe, iDiv, iMod, use1, useL, gI, gN, tst, andT, orT, notT, andE, orE, notE, ifE, ixN, D.frz, D.plain, plainL, argsBack, opLen, opAbs, opInt1, opNeg, disp, cap, callF, takes, puts, selA, sel, aApp, par, gT, gsC, gs0, appF, opDivmod, frzL, plainL, isint_i, chI, cLe, h1]
end Pg
set_option maxHeartbeats 1000000
namespace Pg
open PySem PySem.Spec PyProof.Rows L2 Pm
noncomputable def b_is_number : M Fl := (rtn (callF x_is_between (aCons (loc 0) (aCons (Pm.un opNeg (con (.int 1000000000000))) (aCons (con (.int 1000000000000)) aNil)))))
noncomputable def x_is_number : FSem := mkF 1 1 [] b_is_number
/-- things at which nothing stops -/
structure Fi (B : Nat) (d : D) : Prop where
  ok : okD B d = true
  wt : wtD d ≤ 4000
theorem Fi.ty {B : Nat} {d : D} (h : Fi B d) : (tyN d).isSome = true := ok_ty h.ok
theorem Fi.str {B : Nat} {s : Str} (h : Fi B (.str s)) : s.length ≤ 1000000 := by
  have := h.wt
  rw [wtD] at this
  show s.cps.size ≤ 1000000
  omega
theorem Fi.len {B : Nat} {o : Bool} {k : Kd} {xs : List D} (h : Fi B (.node o k xs)) : xs.length ≤ 4000 := by
  have h1 := h.wt
  have h2 := wtL_len xs
  cases k <;> rw [wtD] at h1 <;> first | omega | simp
theorem Fi.tup {B : Nat} {o : Bool} {xs : List D} (h : Fi B (.node o .tup xs)) : ∀ x ∈ xs, Fi B x := fun x hx => by
  have h1 := h.ok
  have h2 := h.wt
  rw [okD] at h1
  rw [wtD] at h2
  · have := wtL_mem hx
    exact ⟨okL_all.mp h1 x hx, by omega⟩
  · simp
theorem Fi.lst {B : Nat} {o : Bool} {xs : List D} (h : Fi B (.node o .lst xs)) : ∀ x ∈ xs, Fi B x := fun x hx => by
  have h1 := h.ok
  have h2 := h.wt
  rw [okD] at h1
  rw [wtD] at h2
  · have := wtL_mem hx
    exact ⟨okL_all.mp h1 x hx, by omega⟩
  · simp
def btwB (a b : Int) : D → Bool
  | .int n => decide (a ≤ n) && decide (n ≤ b)
  | _ => false
abbrev numB : D → Bool := btwB (-1000000000000) 1000000000000
theorem integer_ok {B : Nat} {d : D} (hp : d.plain = true) (h : Fi B d) : x_is_integer [d] = .ret (.bl (isWhl d && !isBl d)) [d] := by
  have t1 := isi_int h.ty
  have t2 := isi_bl h.ty
  cases d with
  | node o k xs =>
    have ts : isWhl (.node o k xs) = false := rfl
    have tb : isBl (.node o k xs) = false := rfl
    rw [ts] at t1
    rw [ts, tb]
    unfold x_is_integer b_is_integer
    generalize D.node o k xs = NX at *
    simp [mkF, reFrz, rtn, bnd, app, aCons, aNil, loc, con, Pm.ret, peek1, peeks, use1, tst, andE, D.plain, argsBack, t1, hp]
  | _ => simp [x_is_integer, b_is_integer, mkF, reFrz, seq, Pm.ite, rtn, mov, asg, drp, sNx, bnd, Pm.bin, Pm.un, app, aCons, aNil, idx, loc, con, Pm.ret, peek1, peeks, itemOf, on2I, iAdd, iSub, iGt, iGe, iLt, iLe, iDiv, iMod, use1, useL, gI, gN, tst, andT, orT, notT, andE, orE, notE, ifE, ixN, D.frz, D.plain, plainL, argsBack, opLen, opAbs, opInt1, opNeg, disp, cap, callF, takes, puts, selA, sel, aApp, par, gT, gsC, gs0, appF, opDivmod, frzL, plainL, t1, t2, isWhl, isBl]
theorem between_ok {B : Nat} {d : D} (a b : Int) (hp : d.plain = true) (h : Fi B d) : x_is_between [d, .int a, .int b] = .ret (.bl (btwB a b d)) [d, .int a, .int b] := by
  have t1 := integer_ok hp h
  unfold x_is_between b_is_between
  generalize x_is_integer = XI at *
  cases d with
  | node o k xs =>
    have ts : (isWhl (.node o k xs) && !isBl (.node o k xs)) = false := rfl
    have tb : btwB a b (.node o k xs) = false := rfl
    rw [ts] at t1
    rw [tb]
    generalize D.node o k xs = NX at *
    simp [mkF, reFrz, rtn, bnd, aCons, aNil, loc, Pm.ret, peek1, use1, tst, andE, D.plain, argsBack, callF, takes, puts, t1, hp]
  | int n =>
    by_cases h : a ≤ n
    · simp [mkF, reFrz, seq, Pm.ite, rtn, mov, asg, drp, sNx, bnd, Pm.bin, Pm.un, app, aCons, aNil, idx, loc, con, Pm.ret, peek1, peeks, itemOf, on2I, iAdd, iSub, iGt, iGe, iLt, iLe, iDiv, iMod, use1, useL, gI, gN, tst, andT, orT, notT, andE, orE, notE, ifE, ixN, D.frz, D.plain, plainL, argsBack, opLen, opAbs, opInt1, opNeg, disp, cap, callF, takes, puts, selA, sel, aApp, par, gT, gsC, gs0, appF, opDivmod, frzL, plainL, t1, isWhl, isBl, btwB, chI, cLe, h]
    · simp [mkF, reFrz, seq, Pm.ite, rtn, mov, asg, drp, sNx, bnd, Pm.bin, Pm.un, app, aCons, aNil, idx, loc, con, Pm.ret, peek1, peeks, itemOf, on2I, iAdd, iSub, iGt, iGe, iLt, iLe, iDiv, iMod, use1, useL, gI, gN, tst, andT, orT, notT, andE, orE, notE, ifE, ixN, D.frz, D.plain, plainL, argsBack, opLen, opAbs, opInt1, opNeg, disp, cap, callF, takes, puts, selA, sel, aApp, par, gT, gsC, gs0, appF, opDivmod, frzL, plainL, t1, isWhl, isBl, btwB, chI, cLe, h]
  | _ => simp [mkF, reFrz, seq, Pm.ite, rtn, mov, asg, drp, sNx, bnd, Pm.bin, Pm.un, app, aCons, aNil, idx, loc, con, Pm.ret, peek1, peeks, itemOf, on2I, iAdd, iSub, iGt, iGe, iLt, iLe, iDiv, iMod, use1, useL, gI, gN, tst, andT, orT, notT, andE, orE, notE, ifE, ixN, D.frz, D.plain, plainL, argsBack, opLen, opAbs, opInt1, opNeg, disp, cap, callF, takes, puts, selA, sel, aApp, par, gT, gsC, gs0, appF, opDivmod, frzL, plainL, t1, isWhl, isBl, btwB]
theorem number_ok {B : Nat} {d : D} (hp : d.plain = true) (h : Fi B d) : x_is_number [d] = .ret (.bl (numB d)) [d] := by
  have t1 := between_ok (-1000000000000) 1000000000000 hp h
  unfold x_is_number b_is_number
  generalize x_is_between = XB at *
  simp [mkF, reFrz, rtn, bnd, Pm.un, app, aCons, aNil, loc, con, Pm.ret, peek1, peeks, use1, argsBack, opNeg, callF, takes, puts, t1, hp]
end Pg
set_option maxHeartbeats 1000000
namespace Pm
open PySem PySem.Spec PyProof.Rows L2
end Pm
namespace Pm
open PySem PySem.Spec PyProof.Rows L2
end Pm
set_option maxHeartbeats 2000000
namespace Pm
open PySem PySem.Spec PyProof.Rows L2
/-- an own class of exceptions as the module knows it -/
structure NCls (K : PySem.W.Frag) (mg : Str → Option Value) (n : Str) (C : Addr) : Prop where
  mgC : mg n = some (.ref C)
  rg : reg K n = some C
  xk : XK K C
  ty : PySem.W.typeIn K (.ref C) = some (.type "type")
/-- .. that is made with one field -/
structure ECls (P : Program) (w : World) (K : PySem.W.Frag) (mg : Str → Option Value) (base : Heap) (n f : Str) (C : Addr) : Prop where
  nc : NCls K mg n C
  ini : ∃ (fI : Addr) (fd : FuncData) (pn : Str), XC K C fI f ∧ FnOk P w K mg base CX0 1 fI fd ["self", pn] (spI K f) ∧ Binds K fd ["self", pn] []
section
variable {K : PySem.W.Frag} {mg : Str → Option Value} {W : WX} {X : Cx}
theorem S_raiseE {A : Nat → Bool} {k : Nat} {e : Expr} {fe : M EV} {n f : Str} {C : Addr} {p pos pos2 : Pos} (E : ECls X.prog X.w X.K X.mg X.base n f C) (ft : Fit X W k) (hk : 2 ≤ k) (ha : PA X [e] (tA X.K X.mg W (aCons fe aNil))) (hc : X.calm = true := by rfl) (hg : Gl X n := by rfl)
    (hdb : (n == ("__debug__" : Str)) = false := by decide) (he : starEach [e] X.env = (false, eval e X.env) :: starEach [] X.env := by rfl) (hpl : (backTo pos (starEach [] X.env)).any (·.1) = false := by rfl) :
    PS X (.Raise (some (.Call (.Name n p) [e] [] pos)) none pos2) (tS X.K X.mg W A (raise1 n f fe)) := by
  obtain ⟨fI, fd, pn, T, F1, hb⟩ := E.ini
  exact S_raise1 (k := 1) hc ft.tk T F1 (ft.room.mono hk) hb E.nc.mgC E.nc.rg ha hg hdb he hpl
theorem tb_n {P : Str × Bool → Prop} : ∀ q ∈ ([] : List (Str × Bool)), P q := fun _ h => nomatch h
theorem tb_c {P : Str × Bool → Prop} {q : Str × Bool} {l : List (Str × Bool)} (h : P q) (t : ∀ x ∈ l, P x) : ∀ x ∈ q :: l, P x := fun x hx => by
  rcases List.mem_cons.mp hx with rfl | hx
  · exact h
  · exact t x hx
theorem tb_look {P : Str → Bool → Prop} {tbl : List (Str × Bool)} (h : ∀ q ∈ tbl, P q.1 q.2) {c : Str} {b : Bool} (e : List.lookup c tbl = some b) : P c b := by
  induction tbl with
  | nil => cases e
  | cons q l ih =>
    obtain ⟨n, v⟩ := q
    rw [List.lookup_cons] at e
    cases hc : c == n with
    | true =>
      rw [hc] at e
      cases e
      rw [beq_iff_eq.mp hc]
      exact h (n, b) (by simp)
    | false =>
      rw [hc] at e
      exact ih (fun x hx => h x (by simp [hx])) e
/-- what the clause says of one class -/
def ExmP (K : PySem.W.Frag) (Cc : Addr) (q : Str × Bool) : Prop := ∀ C, reg K q.1 = some C → PySem.W.exmOne K (.ref C) (.ref Cc) = some q.2
theorem exm_of {n c : Str} {C Cc : Addr} {b : Bool} (E : NCls K mg n C) (Ec : NCls K mg c Cc) (s : PySem.W.subIn K (.ref C) (.ref Cc) = some b) : ExmP K Cc (n, b) := fun C' h => by
  have h : reg K n = some C' := h
  rw [E.rg] at h
  cases h
  exact PySem.W.exm_ref Ec.xk.exC Ec.xk.hdC Ec.ty s
/-- what isinstance says of one class -/
def KitP (K : PySem.W.Frag) (cu : Value) (q : Str × Bool) : Prop := ∀ C, reg K q.1 = some C → XK K C ∧ PySem.W.kitOne K (.ref C) cu = some q.2
theorem kit_p {n : Str} {C : Addr} {b : Bool} {cu : Value} (E : NCls K mg n C) (s : PySem.W.kitOne K (.ref C) cu = some b) : KitP K cu (n, b) := fun C' h => by
  have h : reg K n = some C' := h
  rw [E.rg] at h
  cases h
  exact ⟨E.xk, s⟩
/-- isinstance(e, c), c an own class -/
theorem E_iso {tbl : List (Str × Bool)} {fe : M EV} {e : Expr} {c : Str} {Cc : Addr} {p p2 pos : Pos} (hm : X.mg "isinstance" = none) (he : PE X e (tE X.K X.mg W fe)) (Ec : NCls X.K X.mg c Cc) (ht : ∀ q ∈ tbl, KitP X.K (.ref Cc) q) (hn : PySem.W.kitOne X.K (.type "NoneType") (.ref Cc) = some false)
    (hg : Gl X "isinstance" := by rfl) (hg2 : Gl X c := by rfl) (hd : (c == ("__debug__" : Str)) = false := by decide)
    (hs : starEach [e, .Name c p2] X.env = (false, eval e X.env) :: starEach [.Name c p2] X.env := by rfl) (hs2 : starEach [.Name c p2] X.env = (false, eval (.Name c p2) X.env) :: starEach [] X.env := by rfl) (hpl : (backTo pos (starEach [.Name c p2] X.env)).any (·.1) = false := by rfl) :
    PE X (.Call (.Name "isinstance" p) [e, .Name c p2] [] pos) (tE X.K X.mg W (xis (fun n => List.lookup n tbl) fe)) :=
  E_is1 hm he (pe_glob (v := .ref Cc) hg2 Ec.mgC rfl hd) (.own Cc) (fun n b C e hr => tb_look (P := fun n b => KitP X.K (.ref Cc) (n, b)) ht e C hr) hn hg hs hs2 hpl
/-- .. a built-in class -/
theorem E_isb {tbl : List (Str × Bool)} {fe : M EV} {e : Expr} {T : String} {p p2 pos : Pos} (hm : X.mg "isinstance" = none) (he : PE X e (tE X.K X.mg W fe)) (hmT : X.mg T = none) (ht : ∀ q ∈ tbl, KitP X.K (.type T) q) (hn : PySem.W.kitOne X.K (.type "NoneType") (.type T) = some false)
    (hv : bootBuiltins (T : Str) = some (.type T) := by rfl) (hgT : Gl X (T : Str) := by rfl) (hnT : (T : Str) ≠ "__name__" := by decide) (hdT : ((T : Str) == ("__debug__" : Str)) = false := by decide) (hg : Gl X "isinstance" := by rfl)
    (hs : starEach [e, .Name (T : Str) p2] X.env = (false, eval e X.env) :: starEach [.Name (T : Str) p2] X.env := by rfl) (hs2 : starEach [.Name (T : Str) p2] X.env = (false, eval (.Name (T : Str) p2) X.env) :: starEach [] X.env := by rfl) (hpl : (backTo pos (starEach [.Name (T : Str) p2] X.env)).any (·.1) = false := by rfl) :
    PE X (.Call (.Name "isinstance" p) [e, .Name (T : Str) p2] [] pos) (tE X.K X.mg W (xis (fun n => List.lookup n tbl) fe)) :=
  E_is1 hm he (pe_bltn (v := V.ty T) hgT hmT hv rfl hnT hdT) (.ty T) (fun n b C e hr => tb_look (P := fun n b => KitP X.K (.type T) (n, b)) ht e C hr) hn hg hs hs2 hpl
/-- e.f -/
theorem xg_n {f : Str} : ∀ n ∈ ([] : List Str), ∀ C, reg K n = some C → XK K C ∧ PySem.W.findIn K (.ref C) f = some none := fun _ h => nomatch h
theorem xg_c {f n : Str} {C : Addr} {ns : List Str} (E : NCls K mg n C) (hno : PySem.W.findIn K (.ref C) f = some none) (t : ∀ n ∈ ns, ∀ C, reg K n = some C → XK K C ∧ PySem.W.findIn K (.ref C) f = some none) : ∀ m ∈ n :: ns, ∀ C, reg K m = some C → XK K C ∧ PySem.W.findIn K (.ref C) f = some none := fun m hm C' h => by
  rcases List.mem_cons.mp hm with rfl | hm
  · rw [E.rg] at h
    cases h
    exact ⟨E.xk, hno⟩
  · exact t m hm C' h
end
abbrev lkT (tbl : List (Str × Bool)) : Str → Option Bool := fun n => List.lookup n tbl
theorem Fit.tr {X : Cx} {W W' : WX} {k : Nat} {pn : List (Addr × Obj)} {xe : Value → Shared → Prop} (ft : Fit X W k) (tk : Takes (X.tr pn xe) W') : Fit (X.tr pn xe) W' k := ⟨ft.gd, ft.room, tk⟩
def clsB : Stmt → List Stmt
  | .ClassDef _ _ _ b _ _ _ _ _ _ _ => b
  | _ => []
end Pm
set_option maxHeartbeats 2000000
namespace Pm
open PySem PySem.Spec PyProof.Rows L2
end Pm
set_option maxHeartbeats 2000000
namespace Pm
open PySem PySem.Spec PyProof.Rows L2
/-- an instance of the class n, the name m no field of it -/
def chk (n m : Str) (fe : M EV) : M EV := bnd fe fun e => fun ρ => match peek1 ρ e with
  | some (.node _ (.ins n' fs) _) => if n' = n ∧ m ∉ fs then .ok e ρ else .stuck
  | _ => .stuck
/-- a field that is plain -/
def fldE (n f : Str) (fe : M EV) : M EV := bnd fe fun e => fun ρ => match peek1 ρ e with
  | some (.node _ (.ins n' fs) xs) => if n' = n then (match (fs.zip xs).lookup f with
    | some d => if d.plain = true then .ok (.val d) ρ else .stuck
    | none => .stuck) else .stuck
  | _ => .stuck
def putN (f : Str) : List Str → List Str
  | [] => [f]
  | g :: r => if g = f then g :: r else g :: putN f r
def putX {α : Type} (f : Str) (d : α) : List Str → List α → List α
  | g :: r, x :: xs => if g = f then d :: xs else x :: putX f d r xs
  | _, _ => [d]
/-- the instance of the slot i gets a field -/
def setA (i : Nat) (n f : Str) (fe : M EV) : M Fl := bnd fe fun e => bnd (use1 e) fun d => fun ρ => match ρ.getD i none with
  | some (.node true (.ins n' fs) xs) => if n' = n ∧ fs.length < 900 ∧ fs.length = xs.length then .ok .nx (ρ.set i (some (.node true (.ins n (putN f fs)) (putX f d fs xs)))) else .stuck
  | _ => .stuck
section
variable {K : PySem.W.Frag} {mg : Str → Option Value} {W : WX} {Z H : Hp} {S : Fp} {σ : Sl} {X : Cx} {A : Nat → Bool}
theorem put_zip {f : Str} {v : V} : ∀ {fs : List Str} {ys : List V}, fs.length = ys.length → (putN f fs).zip (putX f v fs ys) = putF f v (fs.zip ys)
  | [], [], _ => rfl
  | [], _ :: _, h => by simp at h
  | _ :: _, [], h => by simp at h
  | g :: r, y :: ys, h => by
    unfold putN putX
    rw [List.zip_cons_cons]
    unfold putF
    by_cases e : g = f
    · rw [if_pos e, if_pos e, if_pos e, List.zip_cons_cons]
    · rw [if_neg e, if_neg e, if_neg e, List.zip_cons_cons, put_zip (by simpa using h)]
theorem put_len {α : Type} {f : Str} {d : α} : ∀ {fs : List Str} {xs : List α}, fs.length = xs.length → (putN f fs).length = (putX f d fs xs).length
  | [], [], _ => rfl
  | [], _ :: _, h => by simp at h
  | _ :: _, [], h => by simp at h
  | g :: r, y :: ys, h => by
    unfold putN putX
    by_cases e : g = f
    · rw [if_pos e, if_pos e]; exact h
    · rw [if_neg e, if_neg e, List.length_cons, List.length_cons, put_len (by simpa using h)]
theorem look_no {f : Str} {α : Type} : ∀ {fs : List Str} {ys : List α}, f ∉ fs → (fs.zip ys).lookup f = none
  | [], _, _ => rfl
  | _ :: _, [], _ => rfl
  | g :: r, y :: ys, h => by
    have h1 : f ≠ g := fun e => h (e ▸ List.mem_cons_self)
    rw [List.zip_cons_cons, List.lookup_cons, beq_eq_false_iff_ne.mpr h1]
    exact look_no fun q => h (List.mem_cons_of_mem _ q)
/-- a field put among the fields -/
theorem RepL.putX {f : Str} {d : D} {v : V} {T : Fp} (rv : Rep K Z H d v T) : ∀ {fs : List Str} {xs : List D} {ys : List V} {S1 : Fp}, fs.length = xs.length → RepL K Z H xs ys S1 → (∀ a, S1 a → T a → False) → RepL K Z H (Pm.putX f d fs xs) (Pm.putX f v fs ys) (fun a => S1 a ∨ T a)
  | [], [], [], S1, _, _, _ => ⟨T, Fp0, fun _ x => .inr x, fun _ x => x.elim, fun _ _ x => x, rv, trivial⟩
  | [], [], _ :: _, _, _, r, _ => r.elim
  | [], _ :: _, _, _, h, _, _ => by simp at h
  | _ :: _, [], _, _, h, _, _ => by simp at h
  | _ :: _, _ :: _, [], _, _, r, _ => r.elim
  | g :: r, x :: xs, y :: ys, S1, h, ⟨U1, U2, u1, u2, uj, rx, rl⟩, dj => by
    unfold Pm.putX
    by_cases e : g = f
    · rw [if_pos e, if_pos e]
      exact ⟨T, U2, fun _ x => .inr x, fun a x => .inl (u2 a x), fun a x y => dj a (u2 a y) x, rv, rl⟩
    · rw [if_neg e, if_neg e]
      refine ⟨U1, fun a => U2 a ∨ T a, fun a x => .inl (u1 a x), fun a x => x.elim (fun y => .inl (u2 a y)) .inr, fun a x y => y.elim (fun z => uj a x z) fun z => dj a (u1 a x) z, rx, ?_⟩
      exact RepL.putX rv (by simpa using h) rl fun a x y => dj a (u2 a x) y
/-- what stands where an instance is read -/
theorem ins_at {b : Bool} {n : Str} {fs : List Str} {xs : List D} {v : V} {S0 : Fp} (w : Sam Z H) (r : Rep K Z H (.node b (.ins n fs) xs) v S0) : ∃ (a C dx : Addr) (ys : List V) (S1 : Fp), v = .ref a ∧ reg K n = some C ∧ fs.length = ys.length ∧ H a = some (.ins C dx (fs.zip ys)) ∧ RepL K Z H xs ys S1 := by
  cases b with
  | false =>
    obtain ⟨a, ys, rfl, ⟨C, dx, h1, h2, h3⟩, rl⟩ := r
    exact ⟨a, C, dx, ys, S0, rfl, h1, h2, w.get _ _ h3 nt_ins, rl⟩
  | true =>
    obtain ⟨a, ys, S', rfl, ⟨C, dx, h1, h2, h3⟩, sa, na, sub, rl⟩ := r
    exact ⟨a, C, dx, ys, S', rfl, h1, h2, h3, rl⟩
theorem tE_chk {n m : Str} {fe : M EV} {Q : VK} (h : tE K mg W (chk n m fe) σ H Q) : tE K mg W fe σ H fun v H1 => (∃ (a C dx : Addr) (kvs : List (Str × V)), v = .ref a ∧ reg K n = some C ∧ H1 a = some (.ins C dx kvs) ∧ kvs.lookup m = none) ∧ Q v H1 := by
  obtain ⟨Z, ρ, S, w, er, o⟩ := h
  refine ⟨Z, ρ, S, w, er, ?_⟩
  simp only [chk, bnd] at o
  cases e1 : fe ρ with
  | stuck => rw [e1] at o; exact o
  | exc x ρ1 => rw [e1] at o; exact o
  | ok ev ρ1 =>
    simp only [e1] at o
    intro v Z' H' S' Sd st dj er' evr
    cases hp : peek1 ρ1 ev with
    | none => simp only [hp] at o; exact o.elim
    | some d =>
      simp only [hp] at o
      split at o
      · rename_i d b n' fs xs hd
        cases hd
        by_cases hn : n' = n ∧ m ∉ fs
        · rw [if_pos hn] at o
          obtain ⟨rfl, hm⟩ := hn
          obtain ⟨S0, rd⟩ := peek_rep er' evr hp
          obtain ⟨a, C, dx, ys, S1, rfl, h1, h2, h3, _⟩ := ins_at st.wd.same rd
          exact ⟨⟨a, C, dx, _, rfl, h1, h3, look_no hm⟩, o _ Z' H' S' Sd st dj er' evr⟩
        · rw [if_neg hn] at o; exact o.elim
      · exact o.elim
theorem E_fld {n f : Str} {C : Addr} {fe : M EV} {e : Expr} {pos : Pos} (hC : reg X.K n = some C) (hc : Cls X.K C) (hn : NoAttr X.K C f) (he : PE X e (tE X.K X.mg W fe)) (hb : attributeBase e f X.env (eval e X.env) = eval e X.env := by rfl) :
    PE X (.Attribute e f pos) (tE X.K X.mg W (fldE n f fe)) :=
  PE.of (pe_fld he hb) fun σ H Q h => by
    obtain ⟨Z, ρ, S, w, er, o⟩ := h
    refine ⟨Z, ρ, S, w, er, ?_⟩
    simp only [fldE, bnd] at o
    cases e1 : fe ρ with
    | stuck => rw [e1] at o; exact o.elim
    | exc x ρ1 => rw [e1] at o; exact o
    | ok ev ρ1 =>
      simp only [e1] at o
      intro v Z' H' S' Sd st dj er' evr
      cases hp : peek1 ρ1 ev with
      | none => simp only [hp] at o; exact o.elim
      | some d =>
        simp only [hp] at o
        split at o
        · rename_i d b n' fs xs hd
          cases hd
          by_cases hn' : n' = n
          · rw [if_pos hn'] at o
            subst hn'
            split at o
            · rename_i dat hdat
              by_cases hpl : dat.plain = true
              · rw [if_pos hpl] at o
                obtain ⟨S0, rd⟩ := peek_rep er' evr hp
                obtain ⟨a, C', dx, ys, S1, rfl, h1, h2, h3, rl⟩ := ins_at st.wd.same rd
                rw [hC] at h1
                cases h1
                obtain ⟨y, S2, ly, ry⟩ := look_rep rl hdat
                have wd' : Wd Z' H' S' := st.wd.less fun a q => .inl q
                refine ⟨a, C, dx, fs.zip ys, y, rfl, h3, hc, hn, ly, ?_⟩
                exact o y Z' H' S' Fp0 (st.less fun a q => q.elim .inl fun z => z.elim) (fun _ _ z => z.elim) er' (Rep.plain ry hpl)
              · rw [if_neg hpl] at o
                exact o.elim
            · exact o.elim
          · rw [if_neg hn'] at o
            exact o.elim
        · exact o.elim
theorem set_fld {j : Nat} {n f : Str} {fs : List Str} {xs : List D} {ρ : Env} {d : D} {v : V} {T : Fp} (w : Wd Z H (fun a => S a ∨ T a)) (dj : ∀ a, S a → T a → False) (er : EnvR K Z H ρ σ S) (e : ρ.getD j none = some (.node true (.ins n fs) xs)) (hl : fs.length = xs.length) (rv : Rep K Z H d v T) :
    ∃ (p C dx : Addr) (ys : List V), σ[j]? = some (some (.ref p)) ∧ reg K n = some C ∧ H p = some (.ins C dx (fs.zip ys)) ∧ fs.length = ys.length ∧ ∃ S', (∀ a, S' a → S a ∨ T a) ∧ S p ∧ EnvR K Z (upd H p (.ins C dx (putF f v (fs.zip ys)))) (ρ.set j (some (.node true (.ins n (putN f fs)) (putX f d fs xs)))) σ S' := by
  obtain ⟨u, U1, U2, hv, u1, u2, uj, ru, eu⟩ := er.take (getD_some e)
  obtain ⟨p, ys, U', rfl, ⟨C, dx, c1, c2, c3⟩, sa, na, sub, rl⟩ := ru
  obtain ⟨hj, ej⟩ := List.getElem?_eq_some_iff.mp hv
  have es : σ.set j (some (.ref p)) = σ := by rw [← ej, List.set_getElem_self]
  have hl' : j < ρ.length := by rw [er.length]; exact hj
  have keep : ∀ {B : Fp}, (∀ a, B a → a = p → False) → ∀ a o, B a → H a = some o → upd H p (.ins C dx (putF f v (fs.zip ys))) a = some o := fun {B} n a o b q => by rw [upd_ne fun z => n a b z]; exact q
  have nT : ∀ a, T a → a = p → False := fun a x y => dj p (u1 p sa) (by rw [← y]; exact x)
  have rv' : Rep K Z (upd H p (.ins C dx (putF f v (fs.zip ys)))) d v T := rv.move (Same.refl Z) (keep nT) fun _ x => x
  have pl : RepL K Z (upd H p (.ins C dx (putF f v (fs.zip ys)))) (putX f d fs xs) (putX f v fs ys) (fun a => U' a ∨ T a) := RepL.putX rv' hl (rl.move (Same.refl Z) (keep fun a x y => na (by rw [← y]; exact x)) fun _ x => x) fun a x y => dj a (u1 a (sub a x)) y
  have rn : Rep K Z (upd H p (.ins C dx (putF f v (fs.zip ys)))) (.node true (.ins n (putN f fs)) (putX f d fs xs)) (.ref p) (fun a => a = p ∨ (U' a ∨ T a)) := ⟨p, putX f v fs ys, _, rfl, ⟨C, dx, c1, put_len c2, by rw [put_zip c2]; exact upd_same⟩, .inl rfl, fun x => x.elim na fun z => nT p z rfl, fun _ x => .inr x, pl⟩
  have q := EnvR.put (S := fun a => (a = p ∨ (U' a ∨ T a)) ∨ U2 a) (eu.move (Same.refl Z) (keep fun a x y => uj p sa (by rw [← y]; exact x)) fun _ x => x) hl' rn (fun _ x => .inl x) (fun _ x => .inr x) fun a x y => by
    rcases x with x | x | x
    · exact uj p sa (by rw [← x]; exact y)
    · exact uj a (sub a x) y
    · exact dj a (u2 a y) x
  rw [es] at q
  refine ⟨p, C, dx, ys, hv, c1, c3, c2, _, fun a x => ?_, u1 p sa, q⟩
  rcases x with (x | x | x) | x
  · exact .inl (by rw [x]; exact u1 p sa)
  · exact .inl (u1 a (sub a x))
  · exact .inr x
  · exact .inl (u2 a x)
theorem tS_setA {j : Nat} {n f : Str} {C : Addr} {fe : M EV} {D : Ends} (hC : reg K n = some C) (hc : Cls K C) (hn : NoAttr K C f) (h : tS K mg W A (setA j n f fe) D σ H) : sFld K (tVar j) (tE K mg W fe) f D σ H := by
  obtain ⟨Z, ρ, S, w, er, o⟩ := h
  refine ⟨Z, ρ, S, w, er, ?_⟩
  simp only [setA, bnd] at o
  cases e1 : fe ρ with
  | stuck => rw [e1] at o; exact o
  | exc x ρ1 => rw [e1] at o; exact o σ (Keep.refl σ)
  | ok ev ρ1 =>
    simp only [e1] at o
    intro v Z1 H1 S1 Sa st1 dj1 er1 r1
    cases e2 : use1 ev ρ1 with
    | stuck => rw [e2] at o; exact o.elim
    | exc x ρ2 => exact absurd e2 use1_noexc
    | ok d ρ2 =>
      simp only [e2] at o
      have w1 : Wd Z1 H1 (fun a => (S1 a ∨ Sa a) ∨ Fp0 a) := st1.wd.less fun a x => x.elim id False.elim
      obtain ⟨Z2, S2, st2, m2, er2, r2⟩ := use1_ok w1 dj1 (fun _ _ x => x) er1 r1 e2
      have st2' : Step Z1 H1 (fun a => S1 a ∨ Sa a) Z2 H1 (fun a => S2 a ∨ Sa a) := ⟨st2.wd.less fun a x => .inl x, st2.zz, fun a o n e _ => e, fun a x => .inl (x.elim (fun y => .inl (m2 a y)) .inr), fun a o e => (st2.znew a o e).elim .inl fun y => .inr (y.elim (fun z => z.elim .inl False.elim) .inr)⟩
      split at o
      · rename_i n' fs xs h1
        split at o
        · rename_i hz
          obtain ⟨rfl, hz2, hz3⟩ := hz
          obtain ⟨p, C', dx, ys, hv2, c1, hp, hl, S', m', sp, er'⟩ := set_fld (f := f) st2'.wd (fun a x y => dj1 a (m2 a x) y) er2 h1 hz3 r2
          rw [hC] at c1
          cases c1
          refine ⟨.ref p, hv2, p, C, dx, _, rfl, hp, hc, hn, ?_, ?_⟩
          · rw [List.length_zip]; omega
          · exact o σ .non _ _ S' Fp0 (Keep.refl σ) ((((st1.trans st2').trans (Step.write st2'.wd (.inl sp))).less m').less fun a x => x.elim id False.elim) (fun _ _ x => x) er' trivial
        · exact o.elim
      · exact o.elim
theorem S_setA {j : Nat} {n f x : Str} {C : Addr} {fe : M EV} {e : Expr} {p2 pos' pos : Pos} (hC : reg X.K n = some C) (hc : Cls X.K C) (hn : NoAttr X.K C f) (he : PE X e (tE X.K X.mg W fe)) (hj : X.N[j]? = some x := by rfl) (hv : Vis X.env.scope x := by first | exact Or.inl rfl | exact Or.inr (Or.inl rfl) | exact Or.inr (Or.inr rfl)) (hd : (x == ("__debug__" : Str)) = false := by decide) (hcd : (x == ("__classdict__" : Str)) = false := by decide)
    (hs : swapsWith e (some (.Attribute (.Name x p2) f pos')) pos.line X.env = pure false := by rfl) : PS X (.Assign [.Attribute (.Name x p2) f pos'] e pos) (tS X.K X.mg W A (setA j n f fe)) :=
  PS.of (ps_fld (pe_var hj hv hd hcd) he hs) fun D σ H q => tS_setA hC hc hn q
end
end Pm
set_option maxHeartbeats 2000000
namespace Pm
open PySem PySem.Spec PyProof.Rows L2
/-- C(..): a new instance, told by its __init__ -/
def makeC (n : Str) (g : FSem) (fs : M (List EV)) : M EV := bnd fs fun es => fun ρ => match takes ρ es with
  | none => .stuck
  | some (ds, ρ1) => match g (.node true (.ins n []) [] :: ds) with
    | .stuck => .stuck
    | .ret .non (d :: as) => .ok (.val d) (puts es ds as ρ1)
    | .ret _ _ => .stuck
    | .exc x (_ :: as) => .exc x (puts es ds as ρ1)
    | .exc _ [] => .stuck
section
variable {K : PySem.W.Frag} {mg : Str → Option Value} {W : WX} {Z H : Hp} {S : Fp} {σ : Sl} {X : Cx} {A : Nat → Bool}
/-- a class's __init__ -/
structure IDef (P : Program) (w : World) (K : PySem.W.Frag) (mg : Str → Option Value) (base : Heap) (k : Nat) (n : Str) (C f : Addr) (fd : FuncData) (ps : List Str) (g : FSem) : Prop where
  ok : FnG P w K mg base k f fd ps g
  mkd : Mk K C f
  mg : mg n = some (.ref C)
  bd : Binds K fd ps []
theorem tE_make {n : Str} {C : Addr} {g : FSem} {fs : M (List EV)} {Q : VK} (hC : reg K n = some C) (h : tE K mg W (makeC n g fs) σ H Q) : tA K mg W fs σ H fun vs H1 => ∀ x dx, H1 x = none → H1 dx = none → dx ≠ x →
    spG K mg g (.ref x :: vs) (upd (upd H1 dx (.own x)) x (.ins C dx [])) (fun v H2 => v = .non ∧ Q (.ref x) H2) (fun cls d H => W cls d σ H) := by
  obtain ⟨Z, ρ, S, w, er, o⟩ := h
  refine ⟨Z, ρ, S, w, er, ?_⟩
  simp only [makeC, bnd] at o
  cases e1 : fs ρ with
  | stuck => rw [e1] at o; exact o
  | exc x ρ1 => rw [e1] at o; exact o
  | ok es ρ1 =>
    simp only [e1] at o
    intro vs Z1 H1 S1 Sa st1 dj1 er1 r1 x dx hx hdx ne
    cases e2 : takes ρ1 es with
    | none => simp only [e2] at o; exact o.elim
    | some p =>
      obtain ⟨ds, ρ2⟩ := p
      simp only [e2] at o
      obtain ⟨S2, T, m1, m2, tj, er2, rl⟩ := takes_ok er1 r1 dj1 e2
      have w2 : Wd Z1 H1 (fun a => T a ∨ S2 a) := st1.wd.less fun a x => x.elim (m2 a) fun y => .inl (m1 a y)
      have st1' : Step Z H S Z1 H1 (fun a => T a ∨ S2 a) := st1.less fun a x => x.elim (m2 a) fun y => .inl (m1 a y)
      have hx2 : upd H1 dx (.own x) x = none := by rw [upd_ne (Ne.symm ne)]; exact hx
      have sA := (Step.alloc (o := .own x) w2 hdx).less (S2 := fun a => T a ∨ S2 a) fun a q => .inl q
      have sB := (Step.alloc (o := .ins C dx []) sA.wd hx2)
      have stN : Step Z1 H1 (fun a => T a ∨ S2 a) Z1 (upd (upd H1 dx (.own x)) x (.ins C dx [])) (fun a => (a = x ∨ T a) ∨ S2 a) := (sA.trans sB).less fun a q => q.elim (fun q => q.elim .inr fun y => .inl (.inl y)) fun y => .inl (.inr y)
      have nT : ∀ a, T a → a ≠ x := fun a q e => w2.dom a (.inl q) (by rw [e]; exact hx)
      have nS : ∀ a, S2 a → a ≠ x := fun a q e => w2.dom a (.inr q) (by rw [e]; exact hx)
      have kp : ∀ a o, H1 a = some o → upd (upd H1 dx (.own x)) x (.ins C dx []) a = some o := fun a o e => by
        rw [upd_ne (ne_of_none e hx), upd_ne (ne_of_none e hdx)]; exact e
      have rl2 : RepL K Z1 (upd (upd H1 dx (.own x)) x (.ins C dx [])) (.node true (.ins n []) [] :: ds) (.ref x :: vs) (fun a => a = x ∨ T a) :=
        ⟨fun a => a = x, T, fun _ q => .inl q, fun _ q => .inr q, fun a q y => nT a y q, ⟨x, [], Fp0, rfl, ⟨C, dx, hC, rfl, upd_same⟩, rfl, fun q => q, fun _ q => q.elim, trivial⟩, rl.move (Same.refl Z1) (fun a o _ e => kp a o e) fun _ q => q⟩
      have w3 : Wd Z1 (upd (upd H1 dx (.own x)) x (.ins C dx [])) (fun a => (a = x ∨ T a) ∨ S2 a) := stN.wd
      have dj3 : ∀ a, (a = x ∨ T a) → S2 a → False := fun a q y => q.elim (fun e => nS a y e) fun t => tj a y t
      have er2' : EnvR K Z1 (upd (upd H1 dx (.own x)) x (.ins C dx [])) ρ2 σ S2 := er2.move (Same.refl Z1) (fun a o _ e => kp a o e) fun _ q => q
      have st1N := st1'.trans stN
      refine ⟨Z1, fun a => a = x ∨ T a, .node true (.ins n []) [] :: ds, er2.marks, w3.less fun a x => .inl x, rl2, ?_⟩
      cases e3 : g (.node true (.ins n []) [] :: ds) with
      | stuck => simp only [e3] at o; exact o
      | ret d as =>
        cases d with
        | non =>
          cases as with
          | nil => simp only [e3] at o; exact o.elim
          | cons d0 as =>
            simp only [e3] at o
            intro v Z3 H3 S3 Sd st3 dj4 ra rd
            cases (show v = .non from rd)
            refine ⟨rfl, ?_⟩
            obtain ⟨T1, T2, t1, t2, tj2, ra1, ra2⟩ := ra
            have st3' := st3.frame w3 dj3
            have ap := st3.apart (fun a q => w3.live a (.inr q)) dj3
            have er3 : EnvR K Z3 H3 ρ2 σ S2 := st3.stayE dj3 er2'
            have er4 := puts_ok (ds := ds) er3 r1 ra2 fun a q y => ap a (.inl (t2 a y)) q
            exact o (.ref x) Z3 H3 (fun a => S2 a ∨ T2 a) T1 ((st1N.trans st3').less fun a q => q.elim (fun q => q.elim .inr fun z => .inl (.inl (t2 a z))) fun y => .inl (.inl (t1 a y))) (fun a q y => q.elim (fun z => ap a (.inl (t1 a y)) z) fun z => tj2 a y z) er4 ra1
        | _ => simp only [e3] at o; exact o.elim
      | exc xx as =>
        cases as with
        | nil => simp only [e3] at o; exact o.elim
        | cons d0 as =>
          simp only [e3] at o
          intro cls dd Z3 H3 S3 st3 ra xr
          obtain ⟨T1, T2, t1, t2, tj2, ra1, ra2⟩ := ra
          have st3' := st3.frame w3 dj3
          have ap := st3.apart (fun a q => w3.live a (.inr q)) dj3
          have er3 : EnvR K Z3 H3 ρ2 σ S2 := st3.stayE dj3 er2'
          have er4 := puts_ok (ds := ds) er3 r1 ra2 fun a q y => ap a (t2 a y) q
          exact o cls dd Z3 H3 (fun a => S2 a ∨ T2 a) ((st1N.trans st3').less fun a q => q.elim .inr fun z => .inl (t2 a z)) er4 xr
theorem run_makeG {k : Nat} {n : Str} {C f : Addr} {fd : FuncData} {ps : List Str} {g : FSem} {pins : List (Addr × Obj)} {s : Shared} {Q : VK} {us : List Value} {vs : List V} (F : IDef X.prog X.w X.K X.mg X.base k n C f fd ps g) (hgd : X.A.guards = some []) (hr : Room (k + 1) X.A)
    (tk : Takes X W) (I : Inv X pins σ H s) (r : Vals vs us) (h : ∀ x dx, H x = none → H dx = none → dx ≠ x → spG X.K X.mg g (.ref x :: vs) (upd (upd H dx (.own x)) x (.ins C dx [])) (fun v H2 => v = .non ∧ Q (.ref x) H2) (fun cls d H => W cls d σ H)) :
    wpAny (model X.prog X.w) X.A (call (.ref C) us) (EP X pins σ Q) X.xe s := by
  have hq := h (s.heap.objs.size + 1) s.heap.objs.size (I.hok.fresh (Nat.le_succ _)) (I.hok.fresh (Nat.le_refl _)) (Nat.ne_of_lt (Nat.lt_succ_self _))
  have I2 := Inv.made (C := C) I
  have r2 : Vals (V.ref (s.heap.objs.size + 1) :: vs) (Value.ref (s.heap.objs.size + 1) :: us) := .cons rfl r
  have hl : (Value.ref (s.heap.objs.size + 1) :: us).length = ps.length := by rw [← r2.length]; exact spG_len F.ok.len hq
  refine wpAny_call (make_map (f := f) I.kIn F.mkd.makes F.mkd.init (beq_iff_eq.mp F.mkd.fn) (codeAny_mono (F.ok.run _ X.stack _ _ ⟨Value.ref (s.heap.objs.size + 1) :: us, []⟩ (Value.ref (s.heap.objs.size + 1) :: us) _ _ _ (by first | exact hgd | (simpa [Around.under] using hgd)) (hr.make C us [])
    (I2.env0.make C us []) (by have b := F.bd _ (Value.ref (s.heap.objs.size + 1) :: us) I2.kIn (by rw [List.append_nil]; exact hl); rw [List.append_nil] at b; exact b) r2 hq) fun r s' hq' => ?_))
  cases r with
  | error e => exact passAt tk σ pins _ _ e s' I2 hq'
  | ok fl =>
    cases fl with
    | ret u =>
      obtain ⟨v, H', I3, rv, ev, q3⟩ := I2.after hq'
      subst ev
      exact ⟨rv, ⟨V.ref (s.heap.objs.size + 1), H', I3, rfl, q3⟩⟩
    | next => exact False.elim hq'
    | brk => exact False.elim hq'
    | cont => exact False.elim hq'
theorem E_make {k j : Nat} {n : Str} {C f : Addr} {fd : FuncData} {ps : List Str} {g : FSem} {e : Expr} {es : List Expr} {fs : M (List EV)} {p pos : Pos} (hC : reg X.K n = some C) (F : IDef X.prog X.w X.K X.mg X.base k n C f fd ps g) (ft : Fit X W j) (ha : PA X (e :: es) (tA X.K X.mg W fs)) (hk : k + 1 ≤ j := by first | decide | omega) (hg : Gl X n := by rfl)
    (hdb : (n == ("__debug__" : Str)) = false := by decide) (he : starEach (e :: es) X.env = (false, eval e X.env) :: starEach es X.env := by rfl) (hpl : (backTo pos (starEach es X.env)).any (·.1) = false := by rfl) :
    PE X (.Call (.Name n p) (e :: es) [] pos) (tE X.K X.mg W (makeC n g fs)) := by
  refine ⟨fun pins s σ H Q I h => ?_⟩
  refine wpAny_Call_Name_kw (ld_glob I hg F.mg ?_ hdb)
  refine PySem.W.callWith_K (h₀ := X.base) I.ok.mod.kin F.mkd.kp (thn (ha.run pos pins s σ H _ I (tE_make hC h)) fun us s1 ⟨vs, H1, I1, r, q⟩ => ⟨I1.kIn, ?_⟩) he hpl
  exact run_makeG F ft.gd (ft.room.mono hk) ft.tk I1 r q
def augA (j : Nat) (n f : Str) (g : List D → Option D) (fe : M EV) : M Fl := setA j n f (bin g (fldE n f (loc j)) fe)
end
end Pm
namespace Sc
open PySem PySem.Spec PyProof.Rows L2 Pm
open Pg (sg)
noncomputable def b_Scanner____init__ : M Fl := (seq (Pm.ite (notT (tst (app opIsi (aCons (loc 1) (aCons (con (.op (.ty "str"))) aNil))))) (raise1 "InvalidText" "position" (con .non)) sNx)
    (seq (setA 0 "Scanner" "source" (loc 1))
    (setA 0 "Scanner" "spot" (con (.int 0)))))
noncomputable def x_Scanner____init__ : FSem := mkF 2 2 [] b_Scanner____init__
noncomputable def b_Scanner__is_at_end : M Fl := (rtn (Pm.bin opEq (fldE "Scanner" "spot" (loc 0)) (app opLen (aCons (fldE "Scanner" "source" (loc 0)) aNil))))
noncomputable def x_Scanner__is_at_end : FSem := mkF 1 1 [] b_Scanner__is_at_end
noncomputable def b_Scanner__sees : M Fl := (rtn (andE (notE (callF x_Scanner__is_at_end (aCons (chk "Scanner" "is_at_end" (loc 0)) aNil))) (Pm.bin opIn (idx (aCons (fldE "Scanner" "source" (loc 0)) (aCons (fldE "Scanner" "spot" (loc 0)) aNil))) (loc 1))))
noncomputable def x_Scanner__sees : FSem := mkF 2 2 [] b_Scanner__sees
noncomputable def b_Scanner__take : M Fl := (seq (Pm.ite (notT (tst (callF x_Scanner__sees (aCons (chk "Scanner" "sees" (loc 0)) (aCons (loc 1) aNil))))) (raise1 "InvalidText" "position" (fldE "Scanner" "spot" (loc 0))) sNx)
    (seq (augA 0 "Scanner" "spot" gAdd (con (.int 1)))
    (rtn (idx (aCons (fldE "Scanner" "source" (loc 0)) (aCons (Pm.bin (on2I iSub) (fldE "Scanner" "spot" (loc 0)) (con (.int 1))) aNil))))))
noncomputable def x_Scanner__take : FSem := mkF 2 2 [] b_Scanner__take
def scD (src : List Nat) (k : Nat) : D := .node true (.ins "Scanner" ["source", "spot"]) [.str (T src), .int (k : Int)]
theorem scD_pl (src : List Nat) (k : Nat) : (scD src k).plain = false := rfl
theorem e_ss : (("spot" : Str) == ("source" : Str)) = false := by decide +kernel
section
variable {src : List Nat} {k : Nat} {t : List (Option D)}
theorem fld_src {i : Nat} {ρ : Pm.Env} (h : ρ.getD i none = some (scD src k)) : fldE "Scanner" "source" (loc i) ρ = .ok (.val (.str (T src))) ρ := by
  unfold fldE
  have hl : loc i ρ = .ok (.ref i) ρ := by unfold loc; rw [h]
  simp only [bnd, hl, peek1, h, scD]
  rfl
theorem fld_spot {i : Nat} {ρ : Pm.Env} (h : ρ.getD i none = some (scD src k)) : fldE "Scanner" "spot" (loc i) ρ = .ok (.val (.int (k : Int))) ρ := by
  unfold fldE
  have hl : loc i ρ = .ok (.ref i) ρ := by unfold loc; rw [h]
  have e : ((["source", "spot"] : List Str).zip [D.str (T src), .int (k : Int)]).lookup ("spot" : Str) = some (D.int (k : Int)) := by
    simp [List.lookup, e_ss]
  simp only [bnd, hl, peek1, h, scD]
  rw [if_pos trivial, e]
  rfl
theorem chk_ok {i : Nat} {m : Str} {ρ : Pm.Env} (hm : m ∉ (["source", "spot"] : List Str)) (h : ρ.getD i none = some (scD src k)) : chk "Scanner" m (loc i) ρ = .ok (.ref i) ρ := by
  unfold chk
  have hl : loc i ρ = .ok (.ref i) ρ := by unfold loc; rw [h]
  simp only [bnd, hl, peek1, h, scD]
  rw [if_pos ⟨trivial, hm⟩]
end
theorem m1 : ("is_at_end" : Str) ∉ (["source", "spot"] : List Str) := by decide +kernel
theorem m2 : ("sees" : Str) ∉ (["source", "spot"] : List Str) := by decide +kernel
theorem m3 : ("take" : Str) ∉ (["source", "spot"] : List Str) := by decide +kernel
theorem m4 : ("take_digits" : Str) ∉ (["source", "spot"] : List Str) := by decide +kernel
section
variable {src : List Nat} {k : Nat}
theorem atend_ok (hl : src.length ≤ 1000000) : x_Scanner__is_at_end [scD src k] = .ret (.bl (decide (k = src.length))) [scD src k] := by
  have hw : Wf x_Scanner__is_at_end [scD src k] fun d as => d = .bl (decide (k = src.length)) ∧ as = [scD src k] := by
    have f1 := fld_src (src := src) (k := k) (i := 0) (ρ := [some (scD src k)]) rfl
    have f2 := fld_spot (src := src) (k := k) (i := 0) (ρ := [some (scD src k)]) rfl
    have l : opLen [.str (T src)] = some (.int (src.length : Int)) := by
      show (if (T src).length ≤ 1000000 then some (D.int ((T src).length : Int)) else none) = _
      rw [T_len, if_pos hl]
    have q : opEq [.int (k : Int), .int (src.length : Int)] = some (.bl (decide (k = src.length))) := by
      rw [eq_int']
      congr 2
      by_cases h : k = src.length
      · rw [decide_eq_true h, h]; simp
      · rw [decide_eq_false h]; exact beq_eq_false_iff_ne.mpr fun e => h (Int.ofNat_inj.mp e)
    have pl := scD_pl src k
    unfold x_Scanner__is_at_end
    refine wf_mkF ?_
    unfold b_Scanner__is_at_end
    show Wp _ [some (scD src k)] _
    generalize scD src k = SD at *
    generalize T src = TS at *
    generalize decide (k = src.length) = B at *
    generalize (k : Int) = K0 at *
    generalize (src.length : Int) = L0 at *
    generalize fldE "Scanner" "source" (loc 0) = F1 at *
    generalize fldE "Scanner" "spot" (loc 0) = F2 at *
    generalize opLen = OL at *
    generalize opEq = OE at *
    refine wp_end fun K k1 k2 k3 k4 => ?_
    simp [Wp, rtn, bnd, Pm.bin, app, aCons, aNil, Pm.ret, peek1, peeks, use1, f1, f2, l, q]
    exact k2 _ _ ⟨[SD], by simp [argsBack, reFrz, pl], rfl, rfl⟩
  obtain ⟨d, as, e, rfl, rfl⟩ := hw
  exact e
def seen (src : List Nat) (k : Nat) (cs : List Nat) : Bool := match src[k]? with
  | some c => decide (c ∈ cs)
  | none => false
theorem char_at {c : Nat} (hl : src.length ≤ 1000000) (hc : src[k]? = some c) (ρ : Pm.Env) : itemOf (.val (.str (T src))) (k : Int) ρ = .ok (.val (.str (T [c]))) ρ := by
  have hlt := (List.getElem?_eq_some_iff.mp hc).1
  have ha : atI (T src).cps.toList (k : Int) = some c := by
    unfold atI ixN
    have e : (T src).cps.toList = src := rfl
    rw [e, if_pos (by omega), if_pos (by omega)]
    show src[((k : Int)).toNat]? = _
    rw [Int.toNat_natCast]
    exact hc
  show (if (T src).length ≤ 1000000 then _ else _) = _
  rw [T_len, if_pos hl]
  show (match atI (T src).cps.toList (k : Int) with | some c => _ | none => _) = _
  rw [ha]
  rfl
theorem in_cs (c : Nat) (cs : List Nat) : opIn [.str (T [c]), .str (T cs)] = some (.bl (decide (c ∈ cs))) := by
  have h : opIn [.str (T [c]), .str (T cs)] = some (.bl (subS (T [c]) (T cs))) := rfl
  rw [h, sub_T]
theorem sees_ok {cs : List Nat} (hl : src.length ≤ 1000000) (hk : k ≤ src.length) : x_Scanner__sees [scD src k, .str (T cs)] = .ret (.bl (seen src k cs)) [scD src k, .str (T cs)] := by
  have hw : Wf x_Scanner__sees [scD src k, .str (T cs)] fun d as => d = .bl (seen src k cs) ∧ as = [scD src k, .str (T cs)] := by
    have f1 := fun ρ => fld_src (src := src) (k := k) (i := 0) (ρ := some (scD src k) :: ρ) rfl
    have f2 := fun ρ => fld_spot (src := src) (k := k) (i := 0) (ρ := some (scD src k) :: ρ) rfl
    have f3 := fun ρ => chk_ok (src := src) (k := k) (i := 0) (ρ := some (scD src k) :: ρ) m1 rfl
    have ae := atend_ok (src := src) (k := k) hl
    have pl := scD_pl src k
    have fin : Pm.Fin [] [scD src k, .str (T cs)] (fun d as => d = .bl (seen src k cs) ∧ as = [scD src k, .str (T cs)]) (.rt (.bl (seen src k cs))) [some (scD src k), some (.str (T cs))] := ⟨[scD src k, .str (T cs)], by simp [argsBack, reFrz, pl, D.plain], rfl, rfl⟩
    unfold x_Scanner__sees
    refine wf_mkF ?_
    unfold b_Scanner__sees
    show Wp _ [some (scD src k), some (.str (T cs))] _
    cases hc : src[k]? with
    | none =>
      have hkl : k = src.length := by
        have := List.getElem?_eq_none_iff.mp hc
        omega
      have es : seen src k cs = false := by unfold seen; rw [hc]
      rw [decide_eq_true hkl] at ae
      rw [es] at fin ⊢
      generalize scD src k = SD at *
      generalize T cs = CS at *
      generalize T src = TS at *
      generalize fldE "Scanner" "source" (loc 0) = F1 at *
      generalize fldE "Scanner" "spot" (loc 0) = F2 at *
      generalize chk "Scanner" "is_at_end" (loc 0) = F3 at *
      generalize x_Scanner__is_at_end = XA at *
      refine wp_end fun K k1 k2 k3 k4 => ?_
      simp [Wp, rtn, bnd, Pm.bin, app, aCons, aNil, idx, loc, Pm.ret, peek1, peeks, use1, tst, andE, notE, callF, takes, puts, f3, ae, pl]
      exact k2 _ _ fin
    | some c =>
      have hlt := (List.getElem?_eq_some_iff.mp hc).1
      have es : seen src k cs = decide (c ∈ cs) := by unfold seen; rw [hc]
      have ci := char_at hl hc
      have ic := in_cs c cs
      rw [decide_eq_false (by omega)] at ae
      rw [es] at fin ⊢
      generalize scD src k = SD at *
      generalize decide (c ∈ cs) = B at *
      generalize T cs = CS at *
      generalize T src = TS at *
      generalize T [c] = TC at *
      generalize (k : Int) = K0 at *
      generalize fldE "Scanner" "source" (loc 0) = F1 at *
      generalize fldE "Scanner" "spot" (loc 0) = F2 at *
      generalize chk "Scanner" "is_at_end" (loc 0) = F3 at *
      generalize x_Scanner__is_at_end = XA at *
      generalize opIn = OI at *
      refine wp_end fun K k1 k2 k3 k4 => ?_
      simp [Wp, mkF, reFrz, seq, Pm.ite, rtn, mov, asg, drp, sNx, bnd, Pm.bin, Pm.un, app, aCons, aNil, idx, loc, con, Pm.ret, peek1, peeks, on2I, iAdd, iSub, iGt, iGe, iLt, iLe, iDiv, iMod, use1, useL, gN, tst, andT, orT, notT, andE, orE, notE, ifE, ixN, D.frz, D.plain, plainL, argsBack, opLen, opAbs, opInt1, opNeg, disp, cap, callF, takes, puts, selA, sel, aApp, par, gT, gsC, gs0, appF, opDivmod, frzL, plainL, f1, f2, f3, ae, pl, ci, ic]
      exact k2 _ _ fin
  obtain ⟨d, as, e, rfl, rfl⟩ := hw
  exact e
theorem aug_ok {t : List (Option D)} : augA 0 "Scanner" "spot" gAdd (con (.int 1)) (some (scD src k) :: t) = .ok .nx (some (scD src (k + 1)) :: t) := by
  have f2 := fld_spot (src := src) (k := k) (i := 0) (ρ := some (scD src k) :: t) rfl
  have ga : gAdd [.int (k : Int), .int 1] = some (.int ((k + 1 : Nat) : Int)) := rfl
  have hb : Pm.bin gAdd (fldE "Scanner" "spot" (loc 0)) (con (.int 1)) (some (scD src k) :: t) = .ok (.val (.int ((k + 1 : Nat) : Int))) (some (scD src k) :: t) := by
    generalize scD src k = SD at *
    generalize fldE "Scanner" "spot" (loc 0) = F2 at *
    generalize ((k + 1 : Nat) : Int) = K1 at *
    generalize (k : Int) = K0 at *
    generalize gAdd = GA at *
    simp [bnd, Pm.bin, app, aCons, aNil, con, Pm.ret, peek1, peeks, f2, ga]
  unfold augA setA
  simp only [bnd, hb, use1, Pm.ret]
  have e0 : (some (scD src k) :: t).getD 0 none = some (.node true (.ins "Scanner" ["source", "spot"]) [.str (T src), .int (k : Int)]) := rfl
  simp only [e0]
  rw [if_pos ⟨trivial, by decide, rfl⟩]
  have e1 : putN ("spot" : Str) (["source", "spot"] : List Str) = (["source", "spot"] : List Str) := by
    have : ¬ (("source" : Str) = ("spot" : Str)) := by decide +kernel
    simp [putN, this]
  have e2 : putX ("spot" : Str) (D.int ((k + 1 : Nat) : Int)) (["source", "spot"] : List Str) [D.str (T src), .int (k : Int)] = [D.str (T src), .int ((k + 1 : Nat) : Int)] := by
    have : ¬ (("source" : Str) = ("spot" : Str)) := by decide +kernel
    simp [putX, this]
  rw [e1, e2]
  rfl
theorem take_ok {cs : List Nat} {c : Nat} (hl : src.length ≤ 1000000) (hc : src[k]? = some c) (hm : c ∈ cs) : x_Scanner__take [scD src k, .str (T cs)] = .ret (.str (T [c])) [scD src (k + 1), .str (T cs)] := by
  have hlt := (List.getElem?_eq_some_iff.mp hc).1
  have hw : Wf x_Scanner__take [scD src k, .str (T cs)] fun d as => d = .str (T [c]) ∧ as = [scD src (k + 1), .str (T cs)] := by
    have f1 := fun ρ => fld_src (src := src) (k := k + 1) (i := 0) (ρ := some (scD src (k + 1)) :: ρ) rfl
    have f2 := fun ρ => fld_spot (src := src) (k := k + 1) (i := 0) (ρ := some (scD src (k + 1)) :: ρ) rfl
    have f3 := fun ρ => chk_ok (src := src) (k := k) (i := 0) (ρ := some (scD src k) :: ρ) m2 rfl
    have se := sees_ok (k := k) (cs := cs) hl (by omega)
    have es : seen src k cs = true := by unfold seen; rw [hc]; exact decide_eq_true hm
    rw [es] at se
    have au := fun t => aug_ok (src := src) (k := k) (t := t)
    have ci := char_at hl hc
    have sb : iSub ((k + 1 : Nat) : Int) 1 = some (.int (k : Int)) := by
      show some (D.int (((k + 1 : Nat) : Int) - 1)) = _
      congr 2
      omega
    have pl := scD_pl src k
    have pl1 := scD_pl src (k + 1)
    have fin : Pm.Fin [] [scD src k, .str (T cs)] (fun d as => d = .str (T [c]) ∧ as = [scD src (k + 1), .str (T cs)]) (.rt (.str (T [c]))) [some (scD src (k + 1)), some (.str (T cs))] := ⟨[scD src (k + 1), .str (T cs)], by simp [argsBack, reFrz, pl, pl1, D.plain], rfl, rfl⟩
    unfold x_Scanner__take
    refine wf_mkF ?_
    unfold b_Scanner__take
    show Wp _ [some (scD src k), some (.str (T cs))] _
    generalize (fun (d : D) (as : List D) => d = .str (T [c]) ∧ as = [scD src (k + 1), .str (T cs)]) = QQ at *
    generalize ((k + 1 : Nat) : Int) = K1 at *
    generalize (k : Int) = K0 at *
    generalize scD src (k + 1) = SD1 at *
    generalize scD src k = SD at *
    generalize T cs = CS at *
    generalize T src = TS at *
    generalize T [c] = TC at *
    generalize fldE "Scanner" "source" (loc 0) = F1 at *
    generalize fldE "Scanner" "spot" (loc 0) = F2 at *
    generalize chk "Scanner" "sees" (loc 0) = F3 at *
    generalize augA 0 "Scanner" "spot" gAdd (con (.int 1)) = AU at *
    generalize x_Scanner__sees = XA at *
    generalize iSub = IS at *
    refine wp_seq fun K k1 k2 k3 k4 => ?_
    simp [Wp, mkF, reFrz, seq, Pm.ite, rtn, mov, asg, drp, sNx, bnd, Pm.bin, Pm.un, app, aCons, aNil, idx, loc, con, Pm.ret, peek1, peeks, itemOf, on2I, iAdd, iSub, iGt, iGe, iLt, iLe, iDiv, iMod, use1, useL, gI, gN, tst, andT, orT, notT, andE, orE, notE, ifE, ixN, D.frz, D.plain, plainL, argsBack, opLen, opAbs, opInt1, opNeg, disp, cap, callF, takes, puts, selA, sel, aApp, par, gT, gsC, gs0, appF, opDivmod, frzL, plainL, f3, se, pl]
    refine k1 _ ?_
    clear k1 k2 k3 k4 K
    refine wp_seq fun K k1 k2 k3 k4 => ?_
    refine Wp.of (au _) (k1 _ ?_)
    clear k1 k2 k3 k4 K
    refine wp_end fun K k1 k2 k3 k4 => ?_
    simp [Wp, mkF, reFrz, seq, Pm.ite, rtn, mov, asg, drp, sNx, bnd, Pm.bin, Pm.un, app, aCons, aNil, idx, loc, con, Pm.ret, peek1, peeks, on2I, iAdd, iSub, iGt, iGe, iLt, iLe, iDiv, iMod, use1, useL, gI, gN, tst, andT, orT, notT, andE, orE, notE, ifE, ixN, D.frz, D.plain, plainL, argsBack, opLen, opAbs, opInt1, opNeg, disp, cap, callF, takes, puts, selA, sel, aApp, par, gT, gsC, gs0, appF, opDivmod, frzL, plainL, f1, f2, sb, ci]
    exact k2 _ _ fin
  obtain ⟨d, as, e, rfl, rfl⟩ := hw
  exact e
theorem lit {s : String} {l : List Nat} (h : s.toList.map Char.toNat = l) : ((s : String) : Str) = T l := by rw [show ((s : String) : Str) = Str.ofString s from rfl, T_lit, h]
theorem litn : (("123456789" : String) : Str) = T [49, 50, 51, 52, 53, 54, 55, 56, 57] := lit rfl
theorem litd : (("0123456789" : String) : Str) = T [48, 49, 50, 51, 52, 53, 54, 55, 56, 57] := lit rfl
abbrev NZ : List Nat := [49, 50, 51, 52, 53, 54, 55, 56, 57]
abbrev DG : List Nat := [48, 49, 50, 51, 52, 53, 54, 55, 56, 57]
def isDg (c : Nat) : Bool := decide (c ∈ DG)
theorem isDg_iff {c : Nat} : isDg c = true ↔ 48 ≤ c ∧ c ≤ 57 := by
  unfold isDg
  rw [decide_eq_true_iff]
  constructor
  · intro h
    simp [DG] at h
    omega
  · intro h
    simp [DG]
    omega
/-- the digits from a place on -/
def run (src : List Nat) (k : Nat) : List Nat := (src.drop k).takeWhile isDg
theorem run_at {j : Nat} (hj : j < (run src k).length) : ∃ c, src[k + j]? = some c ∧ (run src k)[j]? = some c ∧ c ∈ DG := by
  have h1 := List.getElem?_eq_getElem hj
  obtain ⟨w, hw⟩ : ∃ w, src.drop k = run src k ++ w := ⟨(src.drop k).dropWhile isDg, (List.takeWhile_append_dropWhile).symm⟩
  have h2 : (src.drop k)[j]? = some (run src k)[j] := by
    rw [hw, List.getElem?_append_left hj, h1]
  rw [List.getElem?_drop] at h2
  refine ⟨_, h2, h1, ?_⟩
  have h3 := List.all_takeWhile (p := isDg) (l := src.drop k)
  rw [List.all_eq_true] at h3
  have h4 := h3 _ (List.getElem_mem hj)
  exact of_decide_eq_true h4
theorem run_end : seen src (k + (run src k).length) DG = false := by
  unfold seen
  rw [← List.getElem?_drop]
  generalize hL : src.drop k = L
  have : run src k = L.takeWhile isDg := by unfold run; rw [hL]
  rw [this]
  clear this hL
  induction L with
  | nil => rfl
  | cons c L ih =>
    by_cases h : isDg c = true
    · rw [List.takeWhile_cons_of_pos h]
      exact ih
    · rw [List.takeWhile_cons_of_neg h]
      show (match some c with | some c => decide (c ∈ DG) | none => false) = false
      simpa [isDg] using h
theorem run_len : k + (run src k).length ≤ src.length ∨ src.length < k := by
  by_cases h : src.length < k
  · exact .inr h
  · have : (run src k).length ≤ (src.drop k).length := (List.takeWhile_sublist _).length_le
    rw [List.length_drop] at this
    omega
end
end Sc
namespace Sc
open PySem PySem.Spec PyProof.Rows L2 Pm
open Pg (sg Tab rowD tabD abc_T)
open TL (numL numL_lt numL_step numL_digits numL_val numL_ne numL_inj numL_len)
abbrev RowT := Nat × Int × Int
/-- a number's text -/
def intL (i : Int) : List Nat := if i < 0 then 45 :: numL i.natAbs else numL i.natAbs
section
variable {src : List Nat} {k : Nat}
/-- an entry's text -/
def entL (r : RowT) : List Nat := r.1 :: 32 :: (intL r.2.1 ++ 32 :: intL r.2.2)
end
end Sc
namespace Sc
open PySem PySem.Spec PyProof.Rows L2 Pm
open Pg (sg Tab rowD tabD abc_T rows_plain tabD_plain TabOk Fi numB)
open TL (numL numL_lt numL_step numL_digits numL_val numL_ne numL_inj numL_len joinL)
/-- a table's text -/
def tabL (t : List RowT) : List Nat := joinL [59, 32] (t.map entL)
def tailL : List RowT → List Nat
  | [] => []
  | r :: t => 59 :: 32 :: (entL r ++ tailL t)
theorem tabL_cons (r : RowT) (t : List RowT) : tabL (r :: t) = entL r ++ tailL t := by
  induction t generalizing r with
  | nil => show joinL [59, 32] [entL r] = _; simp [joinL, tailL]
  | cons s t ih =>
    have := ih s
    show joinL [59, 32] (entL r :: entL s :: t.map entL) = _
    unfold tabL at this
    rw [List.map_cons] at this
    show entL r ++ ([59, 32] ++ joinL [59, 32] (entL s :: t.map entL)) = _
    rw [this]
    simp [tailL]
structure Rws (t : List RowT) : Prop where
  n1 : 1 ≤ t.length
  n6 : t.length ≤ 6
  asc : (t.map (·.1)).Pairwise (· < ·)
  let1 : ∀ r ∈ t, 97 ≤ r.1 ∧ r.1 ≤ 122
  num : ∀ r ∈ t, -1000000000000 ≤ r.2.1 ∧ r.2.1 ≤ 1000000000000 ∧ -1000000000000 ≤ r.2.2 ∧ r.2.2 ≤ 1000000000000
theorem numL_small {n : Nat} (h : n ≤ 1000000000000) : (numL n).length ≤ 13 := numL_len (by decide) (by omega)
theorem intL_small {i : Int} (h1 : -1000000000000 ≤ i) (h2 : i ≤ 1000000000000) : (intL i).length ≤ 14 := by
  have := numL_small (n := i.natAbs) (by omega)
  unfold intL
  split
  · rw [List.length_cons]; omega
  · omega
theorem Rws.ent {t : List RowT} (h : Rws t) : ∀ r ∈ t, (entL r).length ≤ 31 := fun r hr => by
  have h2 := h.num r hr
  have a := intL_small h2.1 h2.2.1
  have b := intL_small h2.2.2.1 h2.2.2.2
  unfold entL
  simp only [List.length_cons, List.length_append]
  omega
theorem tail_len {t : List RowT} (h : ∀ r ∈ t, (entL r).length ≤ 31) : (tailL t).length ≤ t.length * 33 := by
  induction t with
  | nil => simp [tailL]
  | cons r t ih =>
    have h1 := h r (by simp)
    have h2 := ih fun x hx => h x (by simp [hx])
    simp only [tailL, List.length_cons, List.length_append, Nat.add_mul, Nat.one_mul]
    omega
theorem Rws.len {t : List RowT} (h : Rws t) : (tabL t).length ≤ 1000 := by
  cases t with
  | nil => have := h.n1; simp at this
  | cons r t =>
    rw [tabL_cons, List.length_append]
    have h1 := h.ent r (by simp)
    have h2 := tail_len fun x hx => h.ent x (List.mem_cons_of_mem _ hx)
    have h3 := h.n6
    rw [List.length_cons] at h3
    have : t.length * 33 ≤ 5 * 33 := Nat.mul_le_mul_right _ (by omega)
    omega
end Sc
namespace Sc
open PySem PySem.Spec PyProof.Rows L2 Pm
open Pg (sg Tab rowD tabD abc_T rows_plain tabD_plain TabOk Fi numB)
open TL (numL numL_lt numL_step numL_digits numL_val numL_ne numL_inj numL_len joinL)
theorem init_ok (src : List Nat) : x_Scanner____init__ [.node true (.ins "Scanner" []) [], .str (T src)] = .ret .non [scD src 0, .str (T src)] := by
  have hw : Wf x_Scanner____init__ [.node true (.ins "Scanner" []) [], .str (T src)] fun d as => d = .non ∧ as = [scD src 0, .str (T src)] := by
    have i1 : opIsi [.str (T src), .op (.ty "str")] = some (.bl true) := isi_str rfl
    have s1 : setA 0 "Scanner" "source" (loc 1) [some (.node true (.ins "Scanner" []) []), some (.str (T src))] = .ok .nx [some (.node true (.ins "Scanner" (["source"] : List Str)) [.str (T src)]), some (.str (T src))] := by
      unfold setA
      have hl : loc 1 [some (.node true (.ins "Scanner" []) []), some (.str (T src))] = .ok (.ref 1) [some (.node true (.ins "Scanner" []) []), some (.str (T src))] := rfl
      simp only [bnd, hl]
      rfl
    have s2 : setA 0 "Scanner" "spot" (con (.int 0)) [some (.node true (.ins "Scanner" (["source"] : List Str)) [.str (T src)]), some (.str (T src))] = .ok .nx [some (scD src 0), some (.str (T src))] := by
      unfold setA
      have hl : con (.int 0) [some (.node true (.ins "Scanner" (["source"] : List Str)) [.str (T src)]), some (.str (T src))] = .ok (.val (.int 0)) [some (.node true (.ins "Scanner" (["source"] : List Str)) [.str (T src)]), some (.str (T src))] := rfl
      have ne : ¬ (("source" : Str) = ("spot" : Str)) := by decide +kernel
      have e1 : putN ("spot" : Str) (["source"] : List Str) = (["source", "spot"] : List Str) := by simp [putN, ne]
      have e2 : putX ("spot" : Str) (D.int 0) (["source"] : List Str) [D.str (T src)] = [.str (T src), .int 0] := by simp [putX, ne]
      have e0 : ([some (D.node true (.ins "Scanner" (["source"] : List Str)) [.str (T src)]), some (.str (T src))]).getD 0 none = some (.node true (.ins "Scanner" (["source"] : List Str)) [.str (T src)]) := rfl
      simp only [bnd, hl, use1, Pm.ret, e0]
      rw [if_pos ⟨trivial, by decide, rfl⟩, e1, e2]
      rfl
    have pl := scD_pl src 0
    unfold x_Scanner____init__
    refine wf_mkF ?_
    unfold b_Scanner____init__
    show Wp _ [some (.node true (.ins "Scanner" []) []), some (.str (T src))] _
    have g0 : Pm.ite (notT (tst (app opIsi (aCons (loc 1) (aCons (con (.op (.ty "str"))) aNil))))) (raise1 "InvalidText" "position" (con .non)) sNx [some (.node true (.ins "Scanner" []) []), some (.str (T src))] = .ok .nx [some (.node true (.ins "Scanner" []) []), some (.str (T src))] := by
      generalize T src = TS at *
      generalize opIsi = OI at *
      simp [mkF, reFrz, seq, Pm.ite, rtn, mov, asg, drp, sNx, bnd, Pm.bin, Pm.un, app, aCons, aNil, idx, loc, con, Pm.ret, peek1, peeks, itemOf, on2I, iAdd, iSub, iGt, iGe, iLt, iLe, iDiv, iMod, use1, useL, gI, gN, tst, andT, orT, notT, andE, orE, notE, ifE, ixN, D.frz, D.plain, plainL, argsBack, opLen, opAbs, opInt1, opNeg, disp, cap, callF, takes, puts, selA, sel, aApp, par, gT, gsC, gs0, appF, opDivmod, frzL, plainL, i1]
    refine wp_seq fun K k1 k2 k3 k4 => ?_
    refine Wp.of g0 (k1 _ ?_)
    clear k1 k2 k3 k4 K
    refine wp_seq fun K k1 k2 k3 k4 => ?_
    refine Wp.of s1 (k1 _ ?_)
    clear k1 k2 k3 k4 K
    refine wp_end fun K k1 k2 k3 k4 => ?_
    exact Wp.of s2 (k1 _ ⟨[scD src 0, .str (T src)], by simp [argsBack, reFrz, pl, D.plain], rfl, rfl⟩)
  obtain ⟨d, as, e, rfl, rfl⟩ := hw
  exact e
end Sc
namespace Pg
open PySem PySem.Spec PyProof.Rows L2 Pm
end Pg
namespace Sc
open PySem PySem.Spec PyProof.Rows L2 Pm
open Pg (sg rowD tabD abc_T rows_plain tabD_plain dr divS ABC get_sg perm_erase erase_map sorted_sg sgs_plain)
open TL (numL joinL)
noncomputable def b_lnumber (S : FSem) : M Fl := (seq (asg (idx (aCons (disp true .lst (aCons (con (.int 1)) (aCons (con (.int 3)) (aCons (loc 1) (aCons (Pm.bin (on2I iPow) (con (.int 10)) (con (.int 12))) aNil))))) (aCons (callF S (aCons (loc 0) (aCons (con (.int 4)) aNil))) aNil))) (gN 2))
    (rtn (Pm.bin (on2I iSub) (callF S (aCons (loc 0) (aCons (Pm.bin hAdd (Pm.bin hMulT (con (.int 2)) (loc 2)) (con (.int 1))) aNil))) (loc 2))))
noncomputable def x_lnumber (S : FSem) : FSem := mkF 2 3 [] (b_lnumber S)
noncomputable def c_lentries_1 (S : FSem) : M EV := comp [10] (srcR1 (aCons (Pm.bin hAdd (con (.int 1)) (callF S (aCons (loc 0) (aCons (loc 1) aNil)))) aNil)) (gN 10) yesT (popi 2 (callF S (aCons (loc 0) (aCons (app opLen (aCons (loc 2) aNil)) aNil))))
noncomputable def b_lentries_1 (S : FSem) : M Fl := (seq (par 8 9 (aCons (callF (x_lnumber S) (aCons (loc 0) (aCons (con (.int 40)) aNil))) (aCons (callF (x_lnumber S) (aCons (loc 0) (aCons (con (.int 5)) aNil))) aNil)))
    (drp (appd 6 (disp false .tup (aCons (loc 7) (aCons (idx (aCons (disp true .lst (aCons (loc 8) (aCons (loc 5) aNil))) (aCons (app opInt (aCons (Pm.bin opEq (loc 4) (con (.int 1))) aNil)) aNil))) (aCons (idx (aCons (disp true .lst (aCons (loc 9) (aCons (loc 5) (aCons (loc 9) (aCons (con (.int 0)) aNil))))) (aCons (loc 4) aNil))) aNil)))))))
noncomputable def b_lentries (S : FSem) : M Fl := (seq (asg (app opListA (aCons (con (.str "abcdefghijklmnopqrstuvwxyz")) aNil)) (gN 2))
    (seq (asg (app opSorted (aCons (c_lentries_1 S) aNil)) (gN 3))
    (seq (asg (callF S (aCons (loc 0) (aCons (con (.int 4)) aNil))) (gN 4))
    (seq (asg (callF (x_lnumber S) (aCons (loc 0) (aCons (con (.int 9)) aNil))) (gN 5))
    (seq (asg (disp true .lst aNil) (gN 6))
    (seq (forS (srcA (loc 3)) (gN 7) (b_lentries_1 S))
    (rtn (app opTuple (aCons (loc 6) aNil)))))))))
noncomputable def x_lentries (S : FSem) : FSem := mkF 2 11 [] (b_lentries S)
theorem pow12 : iPow 10 12 = some (.int 1000000000000) := rfl
theorem at4i {a b c e r : Int} (h0 : 0 ≤ r) (h1 : r < 4) : ∃ p, atI [D.int a, .int b, .int c, .int e] r = some (.int p) ∧ (p = a ∨ p = b ∨ p = c ∨ p = e) := by
  have : r = 0 ∨ r = 1 ∨ r = 2 ∨ r = 3 := by omega
  rcases this with rfl | rfl | rfl | rfl
  · exact ⟨a, rfl, by simp⟩
  · exact ⟨b, rfl, by simp⟩
  · exact ⟨c, rfl, by simp⟩
  · exact ⟨e, rfl, by simp⟩
theorem number_ok {S : FSem} (hS : Draws S) {ns : List Int} {q a : Int} {xs : List D} (hl : ns.length ≤ 63) (hp : Pen ns a (.node true .lst xs)) (hq : 0 ≤ q) (hq2 : q ≤ 1000000000000) (ha : a + 10 ≤ 1000000) :
    ∃ (r : Int) (xs' : List D), x_lnumber S [.node true .lst xs, .int q] = .ret (.int r) [.node true .lst xs', .int q] ∧ -1000000000000 ≤ r ∧ r ≤ 1000000000000 ∧ Pen ns (a + 2) (.node true .lst xs') := by
  obtain ⟨k, y1, e1, k0, k1, p1⟩ := dr hS (m := 4) hl hp (by omega) (by decide) (by decide)
  obtain ⟨b, eb, hb⟩ := at4i (a := 1) (b := 3) (c := q) (e := 1000000000000) k0 k1
  have hb0 : 0 ≤ b ∧ b ≤ 1000000000000 := by omega
  obtain ⟨r, z1, e2, r0, r1, p2⟩ := dr hS (m := 2 * b + 1) hl p1 (by omega) (by omega) (divS (by omega) (by omega))
  have hw : Wf (x_lnumber S) [.node true .lst xs, .int q] fun d as => d = .int (r - b) ∧ as = [.node true .lst z1, .int q] := by
    have m1 : hMulT [.int 2, .int b] = some (.int (2 * b)) := by
      rw [hMulT_ii]
      exact mulL (by decide)
    have a1 := hAdd_ii (2 * b) 1
    have pw := pow12
    unfold x_lnumber
    refine wf_mkF ?_
    unfold b_lnumber
    show Wp _ [some (.node true .lst xs), some (.int q), none] _
    generalize 2 * b + 1 = m at *
    generalize hMulT = HM at *
    generalize hAdd = HA at *
    generalize iPow = IP at *
    refine wp_seq fun K k1 k2 k3 k4 => ?_
    simp [Wp, mkF, reFrz, seq, Pm.ite, rtn, asg, sNx, bnd, Pm.bin, app, aCons, aNil, idx, loc, con, Pm.ret, peek1, peeks, itemOf, on2I, iAdd, iSub, use1, useL, gN, tst, andT, notT, ixN, D.frz, D.plain, plainL, argsBack, opLen, disp, cap, callF, takes, puts, gT, gsC, gs0, appF, frzL, e1, pw, eb]
    refine k1 _ ?_
    clear k1 k2 k3 k4 K
    refine wp_end fun K k1 k2 k3 k4 => ?_
    simp [Wp, mkF, reFrz, seq, Pm.ite, rtn, asg, sNx, bnd, Pm.bin, app, aCons, aNil, idx, loc, con, Pm.ret, peek1, peeks, itemOf, on2I, iAdd, iSub, use1, useL, gN, tst, andT, notT, ixN, D.frz, D.plain, plainL, argsBack, opLen, disp, cap, callF, takes, puts, gT, gsC, gs0, appF, frzL, m1, a1, e2]
    exact k2 _ _ ⟨[.node true .lst z1, .int q], by simp [argsBack, reFrz, D.plain], rfl, rfl⟩
  obtain ⟨d, as, e, rfl, rfl⟩ := hw
  exact ⟨r - b, z1, e, by omega, by omega, p2.mono (by omega)⟩
theorem marks_ok {S : FSem} (hS : Draws S) {ns : List Int} {a : Int} {z : List D} {m : Int} (hl : ns.length ≤ 63) (hp : Pen ns a (.node true .lst z)) (ha : a + 100 ≤ 1000000) (hm0 : 0 < m) (hm : m ≤ 19) :
    ∃ (z' : List D) (l ps : List Nat), (c_lentries_1 S) [some (.node true .lst z), some (.int m), some (.node true .lst (ABC.map sg)), none, none, none, none, none, none, none, none]
      = .ok (.val (.lst true (ps.map sg))) [some (.node true .lst z'), some (.int m), some (.node true .lst (l.map sg)), none, none, none, none, none, none, none, none] ∧ Pen ns (a + 30) (.node true .lst z') ∧ 1 ≤ ps.length ∧ ((ps.length : Nat) : Int) ≤ m ∧ (ps ++ l).Perm ABC := by
  obtain ⟨r, z0, e0, r0, r1, p0⟩ := dr hS (m := m) hl hp (by omega) hm0 (divS (by omega) (by omega))
  obtain ⟨n, hn⟩ : ∃ n : Nat, 1 + r = (n : Int) := ⟨(1 + r).toNat, by omega⟩
  have hsrc : srcR1 (aCons (Pm.bin hAdd (con (.int 1)) (callF S (aCons (loc 0) (aCons (loc 1) aNil)))) aNil) [some (.node true .lst z), some (.int m), some (.node true .lst (ABC.map sg)), none, none, none, none, none, none, none, none]
      = .ok (rangeD 0 n) [some (.node true .lst z0), some (.int m), some (.node true .lst (ABC.map sg)), none, none, none, none, none, none, none, none] := by
    have a1 := hAdd_ii 1 r
    rw [hn] at a1
    refine src_r1 (es := [.val (.int (n : Int))]) (n := n) ?_ rfl (by omega)
    generalize hAdd = HA at *
    simp [mkF, reFrz, seq, Pm.ite, rtn, asg, sNx, bnd, Pm.bin, app, aCons, aNil, idx, loc, con, Pm.ret, peek1, peeks, itemOf, on2I, iAdd, iSub, use1, useL, gN, tst, andT, notT, ixN, D.frz, D.plain, plainL, argsBack, opLen, disp, cap, callF, takes, puts, gT, gsC, gs0, appF, frzL, e0, a1]
  obtain ⟨acc, ρ', e, z', l, ps, rfl, p', rfl, hperm, hlen⟩ := comp_wp (own := [10]) (g := gN 10) (c := yesT) (e := popi 2 (callF S (aCons (loc 0) (aCons (app opLen (aCons (loc 2) aNil)) aNil)))) hsrc
    (fun j ρ acc => ∃ (z' : List D) (l ps : List Nat), ρ = [some (.node true .lst z'), some (.int m), some (.node true .lst (l.map sg)), none, none, none, none, none, none, none, none] ∧ Pen ns (a + 1 + j) (.node true .lst z') ∧ acc = ps.map sg ∧ (ps ++ l).Perm ABC ∧ ps.length = j)
    ⟨z0, ABC, [], rfl, p0.mono (by omega), rfl, List.Perm.refl _, rfl⟩ (by rw [range_len]; show n ≤ 1000000; omega)
    (fun j d ρ acc hd ⟨z', l, ps, e, hp', ea, hperm, hlen⟩ => by
      subst e
      obtain ⟨hj, rfl⟩ := range_get hd
      have hsum : ps.length + l.length = 26 := by rw [← List.length_append, hperm.length_eq]; rfl
      obtain ⟨r, z2, e2, r20, r21, p2⟩ := dr hS (m := (l.length : Int)) hl hp' (by omega) (by omega) (divS (by omega) (by omega))
      obtain ⟨k, rfl⟩ := Int.eq_ofNat_of_zero_le r20
      have hk : k < l.length := by omega
      refine ⟨_, rfl, ?_⟩
      refine Wp.of (a := true) rfl ⟨fun _ => ?_, fun q => nomatch q⟩
      refine Wp.of (a := .val (sg l[k])) (ρ' := [some (.node true .lst z2), some (.int m), some (.node true .lst ((l.map sg).eraseIdx k)), none, none, none, none, none, none, none, some (.int (0 + (j : Int)))]) ?_ ?_
      · have hc : l.length ≤ cap := by show _ ≤ 1000000; omega
        have h1 : ixN l.length (k : Int) = some k := by
          unfold ixN
          rw [if_pos (by omega), if_pos (by omega), Int.toNat_natCast]
        simp [popi, mkF, reFrz, seq, Pm.ite, rtn, asg, sNx, bnd, Pm.bin, app, aCons, aNil, idx, loc, con, Pm.ret, peek1, peeks, itemOf, on2I, iAdd, iSub, use1, useL, gN, tst, andT, notT, D.frz, D.plain, plainL, argsBack, opLen, disp, cap, callF, takes, puts, gT, gsC, gs0, appF, frzL, e2, get_sg hk, h1, hk, hc]
      · refine ⟨_, _, rfl, z2, l.eraseIdx k, ps ++ [l[k]], ?_, p2.mono (by omega), by rw [ea]; simp, perm_erase hk hperm, by simp [hlen]⟩
        simp [wipeE, erase_map])
  rw [range_len] at p' hlen
  refine ⟨z', l, ps, ?_, p'.mono (by omega), by omega, by omega, hperm⟩
  unfold c_lentries_1
  rw [e]
  rfl
theorem at2i {a b : Int} {r : Int} (h : r = 0 ∨ r = 1) : ∃ p, atI [D.int a, .int b] r = some (.int p) ∧ (p = a ∨ p = b) := by
  rcases h with rfl | rfl
  · exact ⟨a, rfl, .inl rfl⟩
  · exact ⟨b, rfl, .inr rfl⟩
theorem opInt_bl (b : Bool) : opInt [.bl b] = some (.int (if b = true then 1 else 0)) := by cases b <;> rfl
theorem entries_ok {S : FSem} (hS : Draws S) {ns : List Int} {a : Int} {z : List D} {m : Int} (hl : ns.length ≤ 63) (hp : Pen ns a (.node true .lst z)) (ha : a + 1000 ≤ 1000000) (hm0 : 0 < m) (hm : m ≤ 6) :
    ∃ (z' : List D) (t : List RowT), (x_lentries S) [.node true .lst z, .int m] = .ret (tabD t) [.node true .lst z', .int m] ∧ Rws t ∧ Pen ns (a + 100) (.node true .lst z') := by
  obtain ⟨z1, l, ps, e1, p1, h1, h2, hperm⟩ := marks_ok hS hl hp (by omega) hm0 (by omega)
  have hnd : (ps ++ l).Nodup := hperm.nodup_iff.mpr (by decide)
  obtain ⟨qs, e2, hqp, hasc⟩ := sorted_sg ps (by intro q; rw [q] at h1; simp at h1) (by omega) (List.nodup_append.mp hnd).1
  have hql : qs.length = ps.length := hqp.length_eq
  have hqin : ∀ c ∈ qs, 97 ≤ c ∧ c ≤ 122 := fun c hc => by
    have : c ∈ ABC := hperm.mem_iff.mp (List.mem_append_left l (hqp.mem_iff.mp hc))
    simp only [ABC, List.mem_cons, List.not_mem_nil, or_false] at this
    omega
  obtain ⟨w, z2, e3, w0, w1, p2⟩ := dr hS (m := 4) hl p1 (by omega) (by decide) (by decide)
  obtain ⟨al, z3, e4, a0, a1, p3⟩ := number_ok hS (q := 9) hl p2 (by decide) (by decide) (by omega)
  have hw : Wf (x_lentries S) [.node true .lst z, .int m] fun d as => ∃ (z' : List D) (t : List RowT), d = tabD t ∧ as = [.node true .lst z', .int m] ∧ Rws t ∧ Pen ns (a + 100) (.node true .lst z') := by
    unfold x_lentries
    refine wf_mkF ?_
    unfold b_lentries
    have eabc : app opListA (aCons (con (.str ("abcdefghijklmnopqrstuvwxyz" : String))) aNil) [some (.node true .lst z), some (.int m), none, none, none, none, none, none, none, none, none] = .ok (.val (.lst true (ABC.map sg))) [some (.node true .lst z), some (.int m), none, none, none, none, none, none, none, none, none] := by
      have : opListA [.str ("abcdefghijklmnopqrstuvwxyz" : String)] = some (.lst true (ABC.map sg)) := by
        rw [abc_T]; rfl
      simp [mkF, reFrz, seq, rtn, mov, asg, drp, bnd, Pm.bin, Pm.un, app, aCons, aNil, idx, loc, con, Pm.ret, peek1, peeks, itemOf, iGt, iGe, iLt, iLe, iDiv, iMod, use1, useL, gI, gN, orT, andE, orE, notE, ifE, D.frz, D.plain, argsBack, opAbs, opInt1, opNeg, disp, cap, callF, takes, puts, selA, sel, aApp, par, appF, opDivmod, this]
    show Wp _ [some (.node true .lst z), some (.int m), none, none, none, none, none, none, none, none, none] _
    refine wp_seq fun K k1 k2 k3 k4 => ?_
    refine Wp.of (asg_val eabc (by show 2 < 11; decide)) (k1 _ ?_)
    clear k1 k2 k3 k4 K
    show Wp _ [some (.node true .lst z), some (.int m), some (.node true .lst (ABC.map sg)), none, none, none, none, none, none, none, none] _
    generalize ABC.map sg = A at e1 ⊢
    refine wp_seq fun K k1 k2 k3 k4 => ?_
    simp [Wp, mkF, reFrz, seq, rtn, mov, asg, drp, bnd, Pm.bin, Pm.un, app, aCons, aNil, idx, loc, con, Pm.ret, peek1, peeks, itemOf, iGt, iGe, iLt, iLe, iDiv, iMod, use1, useL, gI, gN, orT, andE, orE, notE, ifE, D.frz, D.plain, argsBack, opAbs, opInt1, opNeg, disp, cap, callF, takes, puts, selA, sel, aApp, par, appF, opDivmod, e1, e2]
    refine k1 _ ?_
    clear k1 k2 k3 k4 K
    refine wp_seq fun K k1 k2 k3 k4 => ?_
    simp [Wp, mkF, reFrz, seq, rtn, mov, asg, drp, bnd, Pm.bin, Pm.un, app, aCons, aNil, idx, loc, con, Pm.ret, peek1, peeks, itemOf, iGt, iGe, iLt, iLe, iDiv, iMod, use1, useL, gI, gN, orT, andE, orE, notE, ifE, D.frz, D.plain, argsBack, opAbs, opInt1, opNeg, disp, cap, callF, takes, puts, selA, sel, aApp, par, appF, opDivmod, e3]
    refine k1 _ ?_
    clear k1 k2 k3 k4 K
    refine wp_seq fun K k1 k2 k3 k4 => ?_
    simp [Wp, mkF, reFrz, seq, rtn, mov, asg, drp, bnd, Pm.bin, Pm.un, app, aCons, aNil, idx, loc, con, Pm.ret, peek1, peeks, itemOf, iGt, iGe, iLt, iLe, iDiv, iMod, use1, useL, gI, gN, orT, andE, orE, notE, ifE, D.frz, D.plain, argsBack, opAbs, opInt1, opNeg, disp, cap, callF, takes, puts, selA, sel, aApp, par, appF, opDivmod, e4]
    refine k1 _ ?_
    clear k1 k2 k3 k4 K
    refine wp_seq fun K k1 k2 k3 k4 => ?_
    simp [Wp, mkF, reFrz, seq, rtn, mov, asg, drp, bnd, Pm.bin, Pm.un, app, aCons, aNil, idx, loc, con, Pm.ret, peek1, peeks, itemOf, iGt, iGe, iLt, iLe, iDiv, iMod, use1, useL, gI, gN, orT, andE, orE, notE, ifE, D.frz, D.plain, argsBack, opAbs, opInt1, opNeg, disp, cap, callF, takes, puts, selA, sel, aApp, par, appF, opDivmod]
    refine k1 _ ?_
    clear k1 k2 k3 k4 K
    refine wp_seq fun K k1 k2 k3 k4 => ?_
    have hsrc : srcA (loc 3) [some (.node true .lst z3), some (.int m), some (.node true .lst (l.map sg)), some (.node true .lst (qs.map sg)), some (.int w), some (.int al), some (.node true .lst []), none, none, none, none]
        = .ok (qs.map sg) [some (.node true .lst z3), some (.int m), some (.node true .lst (l.map sg)), some (.node false .lst (qs.map sg)), some (.int w), some (.int al), some (.node true .lst []), none, none, none, none] := by
      simp [mkF, reFrz, seq, rtn, mov, asg, drp, bnd, Pm.bin, Pm.un, app, aCons, aNil, idx, loc, con, Pm.ret, peek1, peeks, itemOf, iGt, iGe, iLt, iLe, iDiv, iMod, use1, useL, gI, gN, orT, andE, orE, notE, ifE, D.frz, D.plain, argsBack, opAbs, opInt1, opNeg, disp, cap, callF, takes, puts, selA, sel, aApp, par, appF, opDivmod, srcA, frzL_of_plain _ (sgs_plain qs)]
    refine wp_for hsrc (fun j ρ => ∃ (z' : List D) (t : List RowT) (x7 x8 x9 : Option D), ρ = [some (.node true .lst z'), some (.int m), some (.node true .lst (l.map sg)), some (.node false .lst (qs.map sg)), some (.int w), some (.int al), some (.node true .lst (t.map rowD)), x7, x8, x9, none] ∧ Pen ns (a + 40 + 4 * (j : Int)) (.node true .lst z') ∧ t.map (·.1) = qs.take j ∧ ∀ r ∈ t, -1000000000000 ≤ r.2.1 ∧ r.2.1 ≤ 1000000000000 ∧ -1000000000000 ≤ r.2.2 ∧ r.2.2 ≤ 1000000000000) ⟨z3, [], none, none, none, rfl, p3.mono (by omega), rfl, fun r hr => by simp at hr⟩ ?_ ?_
    · rintro j d ρ hd ⟨z', t, x7, x8, x9, rfl, p', ht, hn⟩
      have hjl : j < qs.length := by
        have := (List.getElem?_eq_some_iff.mp hd).1
        simpa using this
      obtain rfl : sg qs[j] = d := by rw [get_sg hjl] at hd; exact Option.some.inj hd
      refine ⟨_, rfl, ?_⟩
      obtain ⟨u, y1, f1, u0, u1, q1⟩ := number_ok hS (q := 40) hl p' (by decide) (by decide) (by omega)
      obtain ⟨v, y2, f2, v0, v1, q2⟩ := number_ok hS (q := 5) hl q1 (by decide) (by decide) (by omega)
      have f3 := eq_int' w 1
      have f4 := opInt_bl (w == 1)
      obtain ⟨st, f5, s0⟩ := at2i (a := u) (b := al) (r := if (w == 1) = true then 1 else 0) (by by_cases h : (w == 1) = true <;> simp [h])
      obtain ⟨x, f6, x0⟩ := at4i (a := v) (b := al) (c := v) (e := 0) w0 w1
      have tl : t.length ≤ 20 := by
        have := congrArg List.length ht
        rw [List.length_map, List.length_take] at this
        omega
      have tc : t.length < cap := by show _ < 1000000; omega
      unfold b_lentries_1
      show Wp _ [some (.node true .lst z'), some (.int m), some (.node true .lst (l.map sg)), some (.node false .lst (qs.map sg)), some (.int w), some (.int al), some (.node true .lst (t.map rowD)), some (sg qs[j]), x8, x9, none] _
      generalize hX : sg qs[j] = SX at *
      have fx : SX.frz = SX := by rw [← hX]; rfl
      generalize opInt = OI at *
      generalize opEq = OE at *
      generalize x_lnumber S = XN at *
      generalize (if (w == 1) = true then (1 : Int) else 0) = ii at *
      refine wp_seq fun K k1 k2 k3 k4 => ?_
      simp [Wp, mkF, reFrz, seq, rtn, mov, asg, drp, bnd, Pm.bin, Pm.un, app, aCons, aNil, idx, loc, con, Pm.ret, peek1, peeks, itemOf, iGt, iGe, iLt, iLe, iDiv, iMod, use1, useL, gI, gN, orT, andE, orE, notE, ifE, D.frz, D.plain, argsBack, opAbs, opInt1, opNeg, disp, cap, callF, takes, puts, selA, sel, aApp, par, appF, opDivmod, f1, f2]
      refine k1 _ ?_
      clear k1 k2 k3 k4 K
      refine wp_end fun K k1 k2 k3 k4 => ?_
      simp [Wp, mkF, reFrz, seq, rtn, mov, asg, drp, bnd, Pm.bin, Pm.un, app, aCons, aNil, idx, loc, con, Pm.ret, peek1, peeks, itemOf, iGt, iGe, iLt, iLe, iDiv, iMod, use1, useL, gI, gN, orT, andE, orE, notE, ifE, D.frz, D.plain, argsBack, opAbs, opInt1, opNeg, disp, cap, callF, takes, puts, selA, sel, aApp, par, appF, opDivmod, f3, f4, f5, f6, appd, tc, fx]
      refine k1 _ ⟨y2, t ++ [(qs[j], st, x)], some SX, some (.int u), some (.int v), by simp only [List.map_append, List.map_cons, List.map_nil, rowD, hX], q2.mono (by omega), ?_, ?_⟩
      · rw [List.map_append, ht, List.take_add_one, List.getElem?_eq_getElem hjl]; rfl
      · intro r hr
        rcases List.mem_append.mp hr with hr | hr
        · exact hn r hr
        · obtain rfl := List.mem_singleton.mp hr
          simp only
          omega
    · rintro ρ ⟨z', t, x7, x8, x9, rfl, p', ht, hn⟩
      rw [List.length_map, List.take_length] at *
      refine k1 _ ?_
      clear k1 k2 k3 k4 K
      have hpl := rows_plain t
      refine wp_end fun K k1 k2 k3 k4 => ?_
      simp [Wp, mkF, reFrz, seq, rtn, mov, asg, drp, bnd, Pm.bin, Pm.un, app, aCons, aNil, idx, loc, con, Pm.ret, peek1, peeks, itemOf, iGt, iGe, iLt, iLe, iDiv, iMod, use1, useL, gI, gN, orT, andE, orE, notE, ifE, D.frz, D.plain, argsBack, opAbs, opInt1, opNeg, disp, cap, callF, takes, puts, selA, sel, aApp, par, appF, opDivmod, opTuple, hpl]
      refine k2 _ _ ⟨_, rfl, z', t, rfl, rfl, ?_, p'.mono (by omega)⟩
      have hlen := congrArg List.length ht
      rw [List.length_map] at hlen
      refine ⟨by omega, by omega, by rw [ht]; exact hasc, fun r hr => hqin _ (by rw [← ht]; exact List.mem_map_of_mem hr), hn⟩
  obtain ⟨d, as, e, z', t, rfl, rfl, ht, hp'⟩ := hw
  exact ⟨z', t, e, ht, hp'⟩
end Sc
namespace Pg
open PySem PySem.Spec PyProof.Rows L2 Pm
/-- UnknownOperator with a value -/
def unkX (d : D) : XD := ⟨"UnknownOperator", [("letter", d)]⟩
/-- no letter of t is d -/
structure Not (t : Tab) (d : D) : Prop where
  pl : d.plain = true
  ne : ∀ r ∈ t, opEq [sg r.1, d] = some (.bl false)
theorem Not.frz {t : Tab} {d : D} (h : Not t d) : d.frz = d := D.frz_of_plain _ h.pl
end Pg
namespace Pg
open PySem PySem.Spec PyProof.Rows L2 Pm
end Pg
namespace Pg
open PySem PySem.Spec PyProof.Rows L2 Pm
abbrev RowT := Nat × Int × Int
theorem tab_src {i : Nat} {ρ : Pm.Env} {t : Tab} (h1 : ρ.getD i none = some (tabD t)) (h2 : ρ.set i (some (tabD t)) = ρ) : srcA (loc i) ρ = .ok (t.map rowD) ρ := by
  have e : loc i ρ = .ok (.ref i) ρ := by simp only [loc, h1]
  simp only [srcA, bnd, e, use1, h1]
  unfold tabD
  simp only [D.frz, frzL_of_plain _ (rows_plain t)]
  show Res.ok (t.map rowD) (ρ.set i (some (tabD t))) = _
  rw [h2]
theorem ix_n {n k : Nat} (h : k < n) : ixN n (k : Int) = some k := by
  unfold ixN
  rw [if_pos (by omega), if_pos (by omega)]
  rfl
theorem item_at {ρ : Pm.Env} {b : Bool} {kd : Kd} {xs : List D} {d : D} {i k : Nat} (h : ρ.getD i none = some (.node b kd xs)) (hk : xs[k]? = some d) (hp : d.plain = true) (hkd : kd = .lst ∨ kd = .tup) : itemOf (.ref i) (k : Int) ρ = .ok (.val d) ρ := by
  have hl := (List.getElem?_eq_some_iff.mp hk).1
  have e := ix_n hl
  unfold itemOf
  rcases hkd with rfl | rfl <;> simp only [h, e, hk, hp, if_true]
end Pg
namespace Pg
open PySem PySem.Spec PyProof.Rows L2 Pm
end Pg
namespace Hp
abbrev C := Int × Int × Int
/-- a sum along t -/
def sm (N : Int → Int) (a : Int) : Nat → Int
  | 0 => 0
  | n + 1 => sm N a n + N (a + n)
def holds (c : C) (t i : Int) : Prop := 0 ≤ c.1 + c.2.1 * t + c.2.2 * i
instance (c : C) (t i : Int) : Decidable (holds c t i) := inferInstanceAs (Decidable (_ ≤ _))
def lineB (a b : C) (s : Int) : C := (a.1 * b.2.2 + s * b.1 * a.2.2, a.2.1 * b.2.2 + s * b.2.1 * a.2.2, a.2.2 * b.2.2)
def quad (cs : List C) : List C := (0, 0, 1) :: (0, 1, -1) :: cs
/-- how many i on the line i + j = t -/
def Nc (cs : List C) (t : Int) : Int := if t < 0 then 0 else (((List.range (t.toNat + 1)).countP fun i : Nat => decide (∀ c ∈ cs, holds c t (i : Int)) : Nat) : Int)
end Hp
namespace Hp
/-- the sum below x -/
def upTo (N : Int → Int) (x : Int) : Int := sm N 0 x.toNat
end Hp
namespace Fl
def fs (m a b : Int) : Nat → Int
  | 0 => 0
  | n + 1 => fs m a b n + (a * n + b) / m
end Fl
namespace Pm
open PySem PySem.Spec PyProof.Rows L2
/-- a def that is told, whose table is its own and not told -/
def okTab (K : PySem.W.Frag) (recs : List Str) (t : Str × Addr × Addr) : Bool :=
  recs.any (fun n => n == t.1) && (K.lookup t.2.2).isNone && PySem.W.codeHdIn K t.2.1 t.2.2 && (tabsK K).all fun u => !decide (u.2.2 = t.2.2) || decide (u.1 = t.1)
def okTabs (K : PySem.W.Frag) (recs : List Str) : Bool := (tabsK K).all (okTab K recs)
def tabAt (K : PySem.W.Frag) (b : Addr) : Option (Str × Addr × Addr) := (tabsK K).find? fun t => decide (t.2.2 = b)
/-- the script alone is tracked, at a, locked; and the tables -/
noncomputable def scrH (K : PySem.W.Frag) (a : Addr) (ob : Obj) (ns : List Int) : Hp := fun b => open Classical in if b = a ∧ K.lookup a = none then some (.frz ob (.lst (ns.map V.int))) else if (tabAt K b).isSome then some (.tbl #[]) else none
/-- the same, the tables marked -/
noncomputable def scrZ (K : PySem.W.Frag) (a : Addr) (ob : Obj) (ns : List Int) : Hp := fun b => open Classical in if b = a ∧ K.lookup a = none then some (.frz ob (.lst (ns.map V.int))) else (tabAt K b).map fun t => mark (lamName t.1)
theorem reps_ints {K : PySem.W.Frag} {Z H : Hp} {S : Fp} : ∀ ns : List Int, RepL K Z H (ns.map D.int) (ns.map V.int) S
  | [] => trivial
  | n :: ns => ⟨Fp0, S, fun _ x => x.elim, fun _ x => x, fun _ x _ => x, rfl, reps_ints ns⟩
theorem tabAt_mem {K : PySem.W.Frag} {b : Addr} {t : Str × Addr × Addr} (h : tabAt K b = some t) : t ∈ tabsK K ∧ t.2.2 = b :=
  ⟨List.mem_of_find?_eq_some h, of_decide_eq_true (List.find?_some (p := fun t : Str × Addr × Addr => decide (t.2.2 = b)) h)⟩
theorem tabAt_of {K : PySem.W.Frag} {recs : List Str} (ok : okTabs K recs = true) {t : Str × Addr × Addr} (h : t ∈ tabsK K) : ∃ u, tabAt K t.2.2 = some u ∧ u.1 = t.1 := by
  cases e : tabAt K t.2.2 with
  | none =>
    have := List.find?_eq_none.mp e t h
    simp at this
  | some u =>
    obtain ⟨h1, h2⟩ := tabAt_mem e
    have q := List.all_eq_true.mp ok t h
    unfold okTab at q
    rw [Bool.and_eq_true] at q
    have q2 := List.all_eq_true.mp q.2 u h1
    simp only [h2, decide_true, Bool.not_true, Bool.false_or, decide_eq_true_eq] at q2
    exact ⟨u, rfl, q2⟩
theorem okTab_of {K : PySem.W.Frag} {recs : List Str} (ok : okTabs K recs = true) {t : Str × Addr × Addr} (h : t ∈ tabsK K) : recs.any (fun n => n == t.1) = true ∧ K.lookup t.2.2 = none ∧ PySem.W.codeHdIn K t.2.1 t.2.2 = true := by
  have q := List.all_eq_true.mp ok t h
  unfold okTab at q
  rw [Bool.and_eq_true, Bool.and_eq_true, Bool.and_eq_true] at q
  exact ⟨q.1.1.1, Option.isNone_iff_eq_none.mp q.1.1.2, q.1.2⟩
/-- what a lambda's maker is told: its code object and its table -/
def TBs (K : PySem.W.Frag) (mg : Str → Option Value) (base : Heap) : Prop := ∀ t ∈ tabsK K, LamX.TabB base mg t.2.1 t.2.2
/-- the law's call at the head's end -/
theorem end_call {P : Program} {w : World} {K : PySem.W.Frag} {mg mb : Str → Option Value} {k : Nat} {fa a : Addr} {fd : FuncData} {x : Str} {g : FSem} {s1 : Shared} {vs : List Value} {ns : List Int} {recs : List Str}
    (hK : K.In s1.heap) (hm : s1.heap.Ns mainGlobals mg) (hb : s1.heap.Ns builtinsNs mb) (hbb : ∀ x : Str, x ≠ "__name__" → mb x = bootBuiltins x) (hl : s1.heap.NoLimit) (hg : s1.gens = #[])
    (okt : okTabs K recs = true) (htb : ∀ t ∈ tabsK K, s1.heap.get? t.2.2 = some { cls := .none, data := .fields #[] })
    (hbm : ∃ (bm : Addr) (ob : Obj), mg "__builtins__" = some (.ref bm) ∧ bm ≠ builtinsNs ∧ s1.heap.get? bm = some ob ∧ ob.cls = .type "module" ∧ ob.dict = some builtinsNs ∧ ob.data = .plain)
    (ha : s1.heap.get? a = some { cls := .type "list", data := .seq vs.toArray }) (hi : IntsAre vs ns) (hz : ns.length ≤ sizeLine) (hr : Room k callerA)
    (F : ∀ base : Heap, K.In base → base.Ns mainGlobals mg → TBs K mg base → FnG P w K mg base k fa fd [x] g) (bd : ∀ (s : Shared) (u : Value), BindsTo s fd ⟨[u], []⟩ [(x, u)])
    (ok : ∃ as, g [.scr (ns.map D.int)] = .ret (.bl true) as) :
    codeAny (model P w) callerA (.call (.ref fa) ⟨[.ref a], []⟩) (fun r s' => r = .ok (.ret (.bool true)) ∧ OldK s1.heap s'.heap ∧ s'.os = s1.os ∧ AllBare s'.gens) s1 := by
  have rv := vals_ints hi
  have nl := hi.length
  obtain ⟨H, hH⟩ : ∃ H : Hp, H = scrH K a { cls := .type "list", data := .seq vs.toArray } ns := ⟨_, rfl⟩
  obtain ⟨Z, hZ⟩ : ∃ Z : Hp, Z = scrZ K a { cls := .type "list", data := .seq vs.toArray } ns := ⟨_, rfl⟩
  have tget : ∀ b t, tabAt K b = some t → s1.heap.get? b = some { cls := .none, data := .fields #[] } := fun b t e => by
    obtain ⟨h1, h2⟩ := tabAt_mem e
    rw [← h2]
    exact htb t h1
  have aT : tabAt K a = none := by
    cases e : tabAt K a with
    | none => rfl
    | some t =>
      have q := tget a t e
      rw [ha] at q
      have q2 : Data.seq vs.toArray _ = Data.fields #[] := congrArg Obj.data (Option.some.inj q)
      cases q2
  have at1 : ∀ b o, H b = some o → (b = a ∧ K.lookup a = none ∧ o = .frz { cls := .type "list", data := .seq vs.toArray } (.lst (ns.map V.int))) ∨ (∃ t, tabAt K b = some t ∧ o = .tbl #[]) := fun b o e => by
    rw [hH] at e
    unfold scrH at e
    split at e
    · rename_i c
      exact .inl ⟨c.1, c.2, (Option.some.inj e).symm⟩
    · split at e
      · rename_i c
        obtain ⟨t, ht⟩ := Option.isSome_iff_exists.mp c
        exact .inr ⟨t, ht, (Option.some.inj e).symm⟩
      · cases e
  have Ht : ∀ b t, tabAt K b = some t → H b = some (.tbl #[]) ∧ Z b = some (mark (lamName t.1)) := fun b t e => by
    have nb : ¬ (b = a ∧ K.lookup a = none) := fun c => by
      rw [c.1, aT] at e
      cases e
    rw [hH, hZ]
    unfold scrH scrZ
    rw [if_neg nb, if_neg nb, e]
    exact ⟨rfl, rfl⟩
  have atZ : ∀ b o, Z b = some o → (b = a ∧ H b = some o ∧ NT o) ∨ (∃ t, tabAt K b = some t ∧ o = mark (lamName t.1)) := fun b o e => by
    have e0 := e
    rw [hZ] at e
    unfold scrZ at e
    split at e
    · rename_i c
      cases e
      refine .inl ⟨c.1, ?_, nt_frz⟩
      rw [hH]
      unfold scrH
      rw [if_pos c]
    · obtain ⟨t, ht, rfl⟩ := Option.map_eq_some_iff.mp e
      exact .inr ⟨t, ht, rfl⟩
  have hok : HOk P w H s1.heap := fun b o e => by
    rcases at1 b o e with ⟨rfl, _, rfl⟩ | ⟨t, ht, rfl⟩
    · exact ⟨ha, by rw [List.length_map]; exact hz, vs, _, rv, ha⟩
    · exact tget b t ht
  have sqz : SqL K Z a (ns.map V.int) := by
    cases e : K.lookup a with
    | none => exact .inl (.inr ⟨{ cls := .type "list", data := .seq vs.toArray }, by rw [hZ]; exact if_pos ⟨rfl, e⟩⟩)
    | some o =>
      have q := hK a o e
      rw [ha] at q
      cases q
      exact .inr ⟨_, vs.toArray, 0, e, rfl, rfl, rfl, by rw [List.size_toArray, nl]; exact hz, by simpa using rv⟩
  have low : ∀ {b : Addr} {o : Obj}, s1.heap.get? b = some o → (∀ ys n, o.data ≠ .seq ys n) → o.data ≠ .fields #[] → (hidT s1.heap H).get? b = some o := fun {b o} e n1 n2 => hidT_get e (by
    cases q : H b with
    | none => rfl
    | some u =>
      rcases at1 b u q with ⟨rfl, _, _⟩ | ⟨t, ht, _⟩
      · rw [ha] at e
        cases e
        exact (n1 _ _ rfl).elim
      · rw [tget b t ht] at e
        cases e
        exact (n2 rfl).elim)
  have lowN : ∀ {b : Addr} {m : Str → Option Value}, s1.heap.Ns b m → (hidT s1.heap H).Ns b m := fun {b m} h => by
    obtain ⟨o, es, ep, e, d, r⟩ := h
    refine ⟨o, es, ep, low e (fun ys n q => ?_) fun q => ?_, d, r⟩
    · rw [d] at q
      cases q
    · rw [d] at q
      cases q
  have lowK : K.In (hidT s1.heap H) := fun b o e => hidT_get (hK b o e) (by
    cases q : H b with
    | none => rfl
    | some u =>
      rcases at1 b u q with ⟨rfl, n, _⟩ | ⟨t, ht, _⟩
      · rw [n] at e
        cases e
      · obtain ⟨h1, h2⟩ := tabAt_mem ht
        have := (okTab_of okt h1).2.1
        rw [h2, e] at this
        cases this)
  have md : Mod K mg (hidT s1.heap H) := ⟨lowK, lowN hm, ⟨mb, lowN hb, hbb⟩, by
    obtain ⟨mc, p, q⟩ := hl
    exact ⟨mc, lowN p, q⟩⟩
  have tbs : TBs K mg (hidT s1.heap H) := fun t ht => by
    have hP := htb t ht
    obtain ⟨_, _, hc⟩ := okTab_of okt ht
    refine ⟨PySem.W.codeHd_of_K lowK hc, ?_, fun z => ?_⟩
    · obtain ⟨bm, ob, b1, b2, b3, b4, b5, b6⟩ := hbm
      refine ⟨bm, ob, b1, b2, fun q => ?_, fun q => ?_, low b3 (fun ys n q => ?_) fun q => ?_, b4, b5, b6⟩
      · obtain ⟨o, es, ep, e, hd, _⟩ := hm
        rw [q, e] at b3
        cases b3
        rw [hd] at b6
        cases b6
      · rw [q, hP] at b3
        cases b3
        cases b6
      · rw [b6] at q
        cases q
      · rw [b6] at q
        cases q
    · obtain ⟨o, es, ep, e, hd, _⟩ := hm
      rw [z, hP] at e
      cases e
      cases hd
  have e0 : Env0 P w K mg (hidT s1.heap H) callerA [] s1 H := ⟨rfl, md, fun _ _ e => of_hidT e, Nat.le_of_eq (hidT_size _ _), trivial, fun _ z => (nomatch z), hok, .of_eq hg⟩
  have mks : Marks K Z := fun t ht => by
    obtain ⟨u, h1, h2⟩ := tabAt_of okt ht
    rw [(Ht _ u h1).2, h2]
  have wd : Wd Z H Fp0 := ⟨⟨fun b o e n => by
    rcases atZ b o e with ⟨_, h, _⟩ | ⟨t, ht, rfl⟩
    · exact h
    · exact absurd rfl (n _)⟩, fun _ x => x.elim, fun _ x => x.elim, (tabsK K).map fun t => (t.2.2, lamName t.1), fun b ps e => by
    rcases atZ b _ e with ⟨_, _, h⟩ | ⟨t, ht, q⟩
    · exact absurd rfl (h _)
    · obtain ⟨h1, h2⟩ := tabAt_mem ht
      exact ⟨_, q, List.mem_map.mpr ⟨t, h1, by rw [h2]⟩⟩, fun p hp => by
    obtain ⟨t, ht, rfl⟩ := List.mem_map.mp hp
    obtain ⟨u, h1, h2⟩ := tabAt_of okt ht
    obtain ⟨h3, h4⟩ := Ht _ u h1
    rw [h2] at h4
    exact ⟨h4, #[], h3, True.intro, fun pos cv z => by simp [codeAmong] at z⟩⟩
  obtain ⟨as, eg⟩ := ok
  have sp : spG K mg g [.ref a] H (fun v _ => v = .bl true) (fun _ _ _ => False) := by
    refine ⟨Z, Fp0, [.scr (ns.map D.int)], mks, wd, ⟨Fp0, Fp0, fun _ x => x, fun _ x => x, fun _ x _ => x, ⟨a, ns.map V.int, rfl, sqz, reps_ints ns⟩, trivial⟩, ?_⟩
    rw [eg]
    exact fun v Z' H' S' Sd _ _ _ r => r
  refine codeAny_mono ((F _ lowK (lowN hm) tbs).run callerA [] s1 H ⟨[.ref a], []⟩ [.ref a] [.ref a] _ _ rfl hr e0 (bd s1 (.ref a)) (.cons rfl .nil) sp) fun r s' h => ?_
  cases r with
  | error e =>
    obtain ⟨_, _, _, _, _, _, _, _, _, _, _, _, z⟩ := h
    exact z.elim
  | ok fl =>
    cases fl with
    | next => exact h.elim
    | brk => exact h.elim
    | cont => exact h.elim
    | ret u =>
      obtain ⟨v, H', os, bare, un, hok', r', q⟩ := h
      have q' : v = .bl true := q
      subst q'
      obtain rfl : u = Value.bool true := r'
      have keep : ∀ b o, tabAt K b = none → s1.heap.get? b = some o → s'.heap.get? b = some o := fun b o nt e => by
        cases t : H b with
        | none => exact un.keep b o e t (fun z => (nomatch z)) (fun z => (nomatch z))
        | some u =>
          rcases at1 b u t with ⟨rfl, n, rfl⟩ | ⟨t2, ht, _⟩
          · obtain ⟨e2, _⟩ := hok' b _ (un.frzs b _ _ t)
            rw [ha] at e
            rw [← e]
            exact e2
          · rw [nt] at ht
            cases ht
      have grow : ∀ b t, tabAt K b = some t → ∃ more : Array Value, s'.heap.get? b = some { cls := .none, data := .fields more } := fun b t e => by
        obtain ⟨more, z⟩ := un.tbls b #[] (Ht b t e).1
        exact ⟨_, hok' b _ z⟩
      refine ⟨rfl, ⟨fun b o e => ?_, fun b o e => ?_⟩, os, bare⟩
      · cases ht : tabAt K b with
        | none => exact .inl (keep b o ht e)
        | some t =>
          obtain ⟨more, hm2⟩ := grow b t ht
          have e1 := tget b t ht
          rw [e1] at e
          cases e
          obtain ⟨h1, h2⟩ := tabAt_mem ht
          have cd := PySem.W.codeHd_of_K hK (okTab_of okt h1).2.2
          rw [h2] at cd
          exact .inr (.inl ⟨(cd.tab e1).isCodeTable, rfl, #[], more, rfl, by rw [Array.empty_append]; exact hm2⟩)
      · cases ht : tabAt K b with
        | none => exact ⟨o, keep b o ht e⟩
        | some t =>
          obtain ⟨more, hm2⟩ := grow b t ht
          exact ⟨_, hm2⟩
theorem walkT {l : PySem.W.OpenLaw} {n k : Nat} {q : Program} {loose : List Str} {XP : (Str → Option Value) → Heap → Prop} {YP : World → Heap → Prop} {d : DefRec} {K : Params → PySem.W.Frag} {g : FSem} {x : Str}
    (hn : l.most = some n) (hn2 : n ≤ sizeLine) (hdf : d.params.defaults = []) (hr : Room k callerA) (hY : ∀ (w : World) (h : Heap), YP w h → (K w.params).In h)
    (okt : ∀ w : World, okTabs (K w.params) ((recsOf q).map (·.name)) = true)
    (F : ∀ (w : World) (mg : Str → Option Value) (fa : Addr) (h : Heap), (K w.params).In h → h.Ns mainGlobals mg → mg d.name = some (.ref fa) →
      ∃ fd : FuncData, (∀ (s : Shared) (u : Value), BindsTo s fd ⟨[u], []⟩ [(x, u)]) ∧ ∀ base : Heap, (K w.params).In base → base.Ns mainGlobals mg → TBs (K w.params) mg base → FnG l.prog w (K w.params) mg base k fa fd [x] g)
    (ok : ∀ ns : List Int, ns.length ≤ n → ∃ as, g [.scr (ns.map D.int)] = .ret (.bl true) as) : PySem.W.WalkO q loose XP YP l.row.toRowW d [] (fun f vs => PySem.call f vs) := by
  refine Att.attach_call hn hdf fun w s0 s1 mg mb fa o pm cd doc a vs ns G Y ho hd hcd hmg hobj hints hlen hg => ?_
  have KX := hY w _ Y
  obtain ⟨fd, hb, hF⟩ := F w mg fa _ KX G.T.g hmg
  refine end_call KX G.T.g G.T.b G.T.builtins G.T.nolimit hg (okt w) (fun t ht => ?_) G.T.bmain hobj hints (Nat.le_trans hlen hn2) hr hF hb (ok ns hlen)
  obtain ⟨h1, _, _⟩ := okTab_of (okt w) ht
  unfold tabsK at ht
  obtain ⟨x, hx, ex⟩ := List.mem_filterMap.mp ht
  obtain ⟨cp, hcp, rfl⟩ := Option.map_eq_some_iff.mp ex
  obtain ⟨nm, hn1, hn2⟩ := List.any_eq_true.mp h1
  obtain ⟨dr, hdr, rfl⟩ := List.mem_map.mp hn1
  obtain ⟨d2, hd2⟩ : ∃ d2, (recsOf q).find? (fun e => e.name == x) = some d2 := by
    cases e : (recsOf q).find? (fun e => e.name == x) with
    | some d2 => exact ⟨d2, rfl⟩
    | none =>
      have := List.find?_eq_none.mp e dr hdr
      exact absurd hn2 this
  exact (PySem.W.tab_of (c := cp.1) (P := cp.2) G.T KX hd2 (tabN_in hcp)).2
end Pm
namespace L2
open PySem PySem.Spec PyProof.Rows
end L2
namespace Pm
open PySem PySem.Spec PyProof.Rows L2
end Pm
namespace Pm
open PySem PySem.Spec PyProof.Rows L2
end Pm
namespace Pm
open PySem PySem.Spec PyProof.Rows L2
end Pm
namespace Pm
open PySem PySem.Spec PyProof.Rows L2
abbrev Quad := Int × Str × Str × Int × Int
def q0 : Quad := (0, "", "", 0, 0)
def IsQ (h : Heap) (v : Value) (q : Quad) : Prop := ∃ (t p : Addr) (t1 t2 t3 t4 t5 : Tok), v = .ref t ∧ h.IsTuple t #[.int q.1 t1, .str q.2.1 t2, .str q.2.2.1 t3, .ref p] ∧ h.IsTuple p #[.int q.2.2.2.1 t4, .int q.2.2.2.2 t5]
theorem tuple_keep {h h' : Heap} {t : Addr} {its : Array Value} (k : ∀ b o, h.get? b = some o → h'.get? b = some o) (x : h.IsTuple t its) : h'.IsTuple t its := by
  obtain ⟨o, ho, r⟩ := x
  exact ⟨o, k _ _ ho, r⟩
theorem IsQ.keep {h h' : Heap} {v : Value} {q : Quad} (k : ∀ b o, h.get? b = some o → h'.get? b = some o) (x : IsQ h v q) : IsQ h' v q := by
  obtain ⟨t, p, t1, t2, t3, t4, t5, e, a, b⟩ := x
  exact ⟨t, p, t1, t2, t3, t4, t5, e, tuple_keep k a, tuple_keep k b⟩
end Pm
namespace Pm
open PySem PySem.Spec PyProof.Rows L2
end Pm
namespace Pm
open PySem PySem.Spec PyProof.Rows L2
theorem un1 {A : Around} (h : A.units + 64 < cLine) : A.units + 1 < cLine := by omega
end Pm
namespace Pkc
open PySem PySem.Spec PyProof.Rows L2 Pm
def Sc (e : Nat) (c : Hp.C) : Prop := Sm e c.1 ∧ Sm e c.2.1 ∧ Sm e c.2.2
theorem Sc.mono {e f : Nat} {c : Hp.C} (h : Sc e c) (l : e ≤ f) : Sc f c := ⟨h.1.mono l, h.2.1.mono l, h.2.2.mono l⟩
theorem sm1 : Sm 1 (1 : Int) := by unfold Sm; decide
theorem Sc.line {a b : Hp.C} {s : Int} {e : Nat} (ha : Sc e a) (hb : Sc e b) (hs : Sm 1 s) (h0 : 0 < e) : Sc (e + e + 2) (Hp.lineB a b s) := by
  obtain ⟨p1, p2, p3⟩ := ha
  obtain ⟨q1, q2, q3⟩ := hb
  have n1 : ∀ {x y : Int}, Sm e x → Sm e y → Sm (e + e + 1) (s * x * y) := fun hx hy => ((hs.mul hx).mul hy).mono (by omega)
  exact ⟨((p1.mul q3).mono (by omega)).add (n1 q1 p3), ((p2.mul q3).mono (by omega)).add (n1 q2 p3), (p3.mul q3).mono (by omega)⟩
end Pkc
namespace Pkc
open PySem PySem.Spec PyProof.Rows L2 Pm
theorem Sm.one {e : Nat} (h : 0 < e) : Sm e 1 := sm1.mono h
end Pkc
namespace Pkc
open PySem PySem.Spec PyProof.Rows L2 Pm
/-- the number of points up to a total at which conditions hold -/
abbrev cnt (cs : List Hp.C) (T : Int) : Int := Hp.upTo (Hp.Nc (Hp.quad cs)) (T + 1)
def val (f : Hp.C) (u v : Int) : Int := f.1 - u * f.2.1 + v * f.2.2
end Pkc
namespace Pkc
open PySem PySem.Spec PyProof.Rows L2 Pm
open Pg (Tab tabD rowD sg has rowOf lets rows_plain tabD_plain SmT empty_T join_sg)
abbrev Row := Nat × Int × Int
def turn (p : Row × Row) : Bool := decide (p.1.2.2 < 0) != decide (p.2.2.2 < 0)
def turnedL (t u : Tab) : List Nat := ((t.zip u).filter turn).map fun p => p.1.1
end Pkc
namespace Pkc
open PySem PySem.Spec PyProof.Rows L2 Pm
open Pg (Tab tabD rowD sg has rowOf lets rows_plain tabD_plain)
abbrev Runs := List (Nat × Int)
variable {t u : Tab}
end Pkc
namespace Pkc
open PySem PySem.Spec PyProof.Rows L2 Pm
open Pg (Tab tabD rowD sg has rowOf lets rows_plain tabD_plain)
structure Sim (t u : Tab) : Prop where
  hl : lets t = lets u
  fac : ∃ p q c : Int, 0 < p ∧ 0 < q ∧ ∀ (i : Nat) (r s : Row), t[i]? = some r → u[i]? = some s → p * r.2.1 = q * s.2.1 + c ∧ p * r.2.2 = q * s.2.2
theorem lets_len {t u : Tab} (h : lets t = lets u) : t.length = u.length := by
  have := congrArg List.length h
  unfold lets at this
  rw [List.length_map, List.length_map] at this
  exact this
theorem Sim.refl (t : Tab) : Sim t t := ⟨rfl, 1, 1, 0, by decide, by decide, fun i r s h1 h2 => by
  rw [h1] at h2
  cases h2
  omega⟩
theorem Sim.symm {t u : Tab} (h : Sim t u) : Sim u t := by
  obtain ⟨hl, p, q, c, hp, hq, h⟩ := h
  refine ⟨hl.symm, q, p, -c, hq, hp, fun i r s h1 h2 => ?_⟩
  have := h i s r h2 h1
  omega
theorem Sim.trans {t u v : Tab} (h : Sim t u) (k : Sim u v) : Sim t v := by
  obtain ⟨hl, p, q, c, hp, hq, h⟩ := h
  obtain ⟨kl, p', q', c', hp', hq', k⟩ := k
  refine ⟨hl.trans kl, p' * p, q * q', q * c' + p' * c, Int.mul_pos hp' hp, Int.mul_pos hq hq', fun i r s h1 h2 => ?_⟩
  have hi : i < u.length := by rw [← lets_len hl]; exact (List.getElem?_eq_some_iff.mp h1).1
  have h3 : u[i]? = some u[i] := List.getElem?_eq_getElem hi
  obtain ⟨a1, a2⟩ := h i r _ h1 h3
  obtain ⟨b1, b2⟩ := k i _ s h3 h2
  constructor
  · rw [Int.mul_assoc, a1, Int.mul_add, ← Int.mul_assoc, Int.mul_comm p' q, Int.mul_assoc, b1, Int.mul_add, Int.mul_assoc]
    omega
  · rw [Int.mul_assoc, a2, ← Int.mul_assoc, Int.mul_comm p' q, Int.mul_assoc, b2, Int.mul_assoc]
theorem pos_iff {p q x y : Int} (hp : 0 < p) (hq : 0 < q) (h : p * x = q * y) : (0 < x ↔ 0 < y) ∧ (x < 0 ↔ y < 0) := by
  have pos : ∀ {k z : Int}, 0 < k → 0 < k * z → 0 < z := fun {k z} hk hz => by
    rcases Int.lt_trichotomy z 0 with w | w | w
    · have := Int.mul_neg_of_pos_of_neg hk w; omega
    · rw [w, Int.mul_zero] at hz; omega
    · exact w
  have a : 0 < x ↔ 0 < p * x := ⟨fun k => Int.mul_pos hp k, pos hp⟩
  have b : 0 < y ↔ 0 < q * y := ⟨fun k => Int.mul_pos hq k, pos hq⟩
  have c : x < 0 ↔ p * x < 0 := ⟨fun k => Int.mul_neg_of_pos_of_neg hp k, fun k => by
    rcases Int.lt_trichotomy x 0 with z | z | z
    · exact z
    · rw [z, Int.mul_zero] at k; omega
    · have := Int.mul_pos hp z; omega⟩
  have d : y < 0 ↔ q * y < 0 := ⟨fun k => Int.mul_neg_of_pos_of_neg hq k, fun k => by
    rcases Int.lt_trichotomy y 0 with z | z | z
    · exact z
    · rw [z, Int.mul_zero] at k; omega
    · have := Int.mul_pos hq z; omega⟩
  rw [h] at a c
  exact ⟨a.trans b.symm, c.trans d.symm⟩
theorem Sim.turned {t u : Tab} (h : Sim t u) : turnedL t u = [] := by
  obtain ⟨hl, p, q, c, hp, hq, h⟩ := h
  unfold turnedL
  rw [List.map_eq_nil_iff, List.filter_eq_nil_iff]
  intro x hx
  obtain ⟨i, hi⟩ := List.getElem?_of_mem hx
  rw [List.getElem?_zip_eq_some] at hi
  obtain ⟨_, e⟩ := h i _ _ hi.1 hi.2
  have := (pos_iff hp hq e).2
  unfold turn
  by_cases k : x.1.2.2 < 0
  · have k2 := this.mp k
    simp [k, k2]
  · have k2 : ¬ x.2.2.2 < 0 := fun q => k (this.mpr q)
    simp [k, k2]
end Pkc
namespace Pkc
open PySem PySem.Spec PyProof.Rows L2 Pm
open Pg (Tab tabD rowD sg has rowOf lets rows_plain tabD_plain get_put getL_none put_len put_plain key_sg)
def cntR (rs : Runs) (c : Nat) : Int := ((rs.filter fun r => r.1 == c).map (·.2)).sum
def inR (rs : Runs) (c : Nat) : Bool := rs.any fun r => r.1 == c
theorem cntR_snoc (rs : Runs) (p : Nat × Int) (c : Nat) : cntR (rs ++ [p]) c = cntR rs c + if p.1 = c then p.2 else 0 := by
  unfold cntR
  rw [List.filter_append, List.map_append, List.sum_append]
  by_cases h : p.1 = c <;> simp [h]
theorem inR_snoc (rs : Runs) (p : Nat × Int) (c : Nat) : inR (rs ++ [p]) c = (inR rs c || decide (p.1 = c)) := by
  unfold inR
  rw [List.any_append]
  by_cases h : p.1 = c <;> simp [h]
def Dct (ks : List Key) (xs : List D) (m : Runs) : Prop := ks.length = xs.length ∧ ks.length ≤ m.length ∧ plainL xs = true ∧ ∀ c : Nat, getL ks xs (.inr (T [c])) = if inR m c = true then some (.int (cntR m c)) else none
theorem Dct.put {ks : List Key} {xs : List D} {m : Runs} (h : Dct ks xs m) (p : Nat × Int) : Dct (putKs ks (.inr (T [p.1]))) (putL ks xs (.inr (T [p.1])) (.int (cntR m p.1 + p.2))) (m ++ [p]) := by
  obtain ⟨h1, h2, h3, h4⟩ := h
  refine ⟨putL_len _ _ _ _ h1, Nat.le_trans (put_len (α := D) ks _) (by rw [List.length_append, List.length_singleton]; omega), put_plain h3 rfl, fun c => ?_⟩
  rw [get_put h1, cntR_snoc, inR_snoc]
  by_cases e : p.1 = c
  · subst e
    rw [if_pos rfl]
    simp
  · rw [if_neg fun q => e (key_sg.mp q), h4 c, if_neg e]
    simp [e]
/-- the last two operators of runs -/
structure Last (rs : Runs) (x y : Nat) : Prop where
  ex : ∃ (I : Runs) (q : Nat × Int), rs = I ++ [q] ∧ y = q.1 ∧ (1 < q.2 ∧ x = q.1 ∨ ¬ 1 < q.2 ∧ ∃ (I' : Runs) (p : Nat × Int), I = I' ++ [p] ∧ x = p.1)
theorem Last.mem {rs : Runs} {x y : Nat} (h : Last rs x y) : inR rs x = true ∧ inR rs y = true := by
  obtain ⟨I, q, rfl, rfl, hx⟩ := h.ex
  refine ⟨?_, by rw [inR_snoc]; simp⟩
  rcases hx with ⟨_, rfl⟩ | ⟨_, I', p, rfl, rfl⟩
  · rw [inR_snoc]; simp
  · rw [inR_snoc, inR_snoc]; simp
end Pkc
namespace Pg
open PySem PySem.Spec PyProof.Rows L2 Pm
end Pg
namespace Pg
open PySem PySem.Spec PyProof.Rows L2 Pm
end Pg
namespace Rp
open PySem PySem.Spec PyProof.Rows L2 Pm
open Pg (sg rowD tabD abc_T rows_plain tabD_plain tabD_frz dr divS ABC get_sg perm_erase erase_map sorted_sg sgs_plain ix_nat mem_at tab_src join_sg)
open TL (numL joinL)
open Sc (Rws RowT)
noncomputable def b_lnumber (S : FSem) : M Fl := (seq (asg (idx (aCons (disp true .lst (aCons (con (.int 1)) (aCons (con (.int 3)) (aCons (loc 1) (aCons (Pm.bin (on2I iPow) (con (.int 10)) (con (.int 12))) aNil))))) (aCons (callF S (aCons (loc 0) (aCons (con (.int 4)) aNil))) aNil))) (gN 2))
    (rtn (Pm.bin (on2I iSub) (callF S (aCons (loc 0) (aCons (Pm.bin hAdd (Pm.bin hMulT (con (.int 2)) (loc 2)) (con (.int 1))) aNil))) (loc 2))))
noncomputable def x_lnumber (S : FSem) : FSem := mkF 2 3 [] (b_lnumber S)
noncomputable def c_lentries_1 (S : FSem) : M EV := comp [10] (srcR1 (aCons (Pm.bin hAdd (con (.int 1)) (callF S (aCons (loc 0) (aCons (loc 1) aNil)))) aNil)) (gN 10) yesT (popi 2 (callF S (aCons (loc 0) (aCons (app opLen (aCons (loc 2) aNil)) aNil))))
noncomputable def b_lentries_1 (S : FSem) : M Fl := (seq (par 8 9 (aCons (callF (x_lnumber S) (aCons (loc 0) (aCons (con (.int 40)) aNil))) (aCons (callF (x_lnumber S) (aCons (loc 0) (aCons (con (.int 5)) aNil))) aNil)))
    (drp (appd 6 (disp false .tup (aCons (loc 7) (aCons (idx (aCons (disp true .lst (aCons (loc 8) (aCons (loc 5) aNil))) (aCons (app opInt (aCons (Pm.bin opEq (loc 4) (con (.int 1))) aNil)) aNil))) (aCons (idx (aCons (disp true .lst (aCons (loc 9) (aCons (loc 5) (aCons (loc 9) (aCons (con (.int 0)) aNil))))) (aCons (loc 4) aNil))) aNil)))))))
noncomputable def b_lentries (S : FSem) : M Fl := (seq (asg (app opListA (aCons (con (.str "abcdefghijklmnopqrstuvwxyz")) aNil)) (gN 2))
    (seq (asg (app opSorted (aCons (c_lentries_1 S) aNil)) (gN 3))
    (seq (asg (callF S (aCons (loc 0) (aCons (con (.int 4)) aNil))) (gN 4))
    (seq (asg (callF (x_lnumber S) (aCons (loc 0) (aCons (con (.int 9)) aNil))) (gN 5))
    (seq (asg (disp true .lst aNil) (gN 6))
    (seq (forS (srcA (loc 3)) (gN 7) (b_lentries_1 S))
    (rtn (app opTuple (aCons (loc 6) aNil)))))))))
noncomputable def x_lentries (S : FSem) : FSem := mkF 2 11 [] (b_lentries S)
noncomputable def c_lsigns_1 : M EV := comp [1] (srcA (loc 0)) (gN 1) yesT (idx (aCons (loc 1) (aCons (con (.int 0)) aNil)))
noncomputable def b_lsigns : M Fl := (rtn c_lsigns_1)
noncomputable def x_lsigns : FSem := mkF 1 2 [] b_lsigns
noncomputable def c_lsome_1 (S : FSem) : M EV := comp [5] (srcR1 (aCons (loc 2) aNil)) (gN 5) yesT (idx (aCons (loc 4) (aCons (callF S (aCons (loc 0) (aCons (app opLen (aCons (loc 4) aNil)) aNil))) aNil)))
noncomputable def b_lsome (S : FSem) : M Fl := (seq (asg (callF x_lsigns (aCons (loc 1) aNil)) (gN 3))
    (seq (asg (idx (aCons (disp true .lst (aCons (loc 3) (aCons (cut (loc 3) none (some (con (.int 2)))) aNil))) (aCons (callF S (aCons (loc 0) (aCons (con (.int 2)) aNil))) aNil))) (gN 4))
    (rtn (smet1 opJoin (con (.str "")) (c_lsome_1 S)))))
noncomputable def x_lsome (S : FSem) : FSem := mkF 3 6 [] (b_lsome S)
noncomputable def b_lblock (S : FSem) : M Fl := (seq (asg (callF (x_lentries S) (aCons (loc 0) (aCons (con (.int 6)) aNil))) (gN 2))
    (rtn (disp false .tup (aCons (loc 2) (aCons (callF (x_lsome S) (aCons (loc 0) (aCons (loc 2) (aCons (Pm.bin hAdd (con (.int 1)) (callF S (aCons (loc 0) (aCons (loc 1) aNil)))) aNil)))) aNil)))))
noncomputable def x_lblock (S : FSem) : FSem := mkF 2 3 [] (b_lblock S)
theorem x_entries_eq (S : FSem) : x_lentries S = Sc.x_lentries S := rfl
def lets (t : List RowT) : List Nat := t.map (·.1)
theorem signs_ok (t : List RowT) (hl : t.length ≤ 1000) : x_lsigns [tabD t] = .ret (.lst true ((lets t).map sg)) [tabD t] := by
  have hs : srcA (loc 0) [some (tabD t), none] = .ok (t.map rowD) [some (tabD t), none] := by
    have := rows_plain t
    have h2 := tabD_frz t
    simp [mkF, reFrz, seq, Pm.ite, rtn, mov, asg, drp, sNx, bnd, Pm.bin, Pm.un, app, aCons, aNil, idx, loc, con, Pm.ret, peek1, peeks, itemOf, on2I, iAdd, iSub, iGt, iGe, iLt, iLe, iDiv, iMod, use1, useL, gI, gN, tst, andT, orT, notT, andE, orE, notE, ifE, ixN, D.frz, D.plain, plainL, argsBack, opLen, opAbs, opInt1, opNeg, disp, cap, callF, takes, puts, selA, sel, aApp, par, gT, gsC, gs0, appF, opDivmod, frzL, plainL, srcA, tabD, frzL_of_plain _ this]
  have hc : c_lsigns_1 [some (tabD t), none] = .ok (.val (.lst true ((lets t).map sg))) [some (tabD t), none] := by
    unfold c_lsigns_1
    rw [comp_map (fun d => match d with | .node _ _ (a :: _) => a | _ => .non) hs rfl rfl (by rw [List.length_map]; show t.length ≤ 1000000; omega) fun d hd => ?_]
    · congr 3
      rw [List.map_map, lets, List.map_map]
      rfl
    · obtain ⟨r, hr, rfl⟩ := List.mem_map.mp hd
      refine ⟨_, rfl, Wp.of (a := true) rfl ⟨rfl, ?_⟩⟩
      refine Wp.of (a := .val (sg r.1)) (ρ' := [some (tabD t), some (rowD r)]) ?_ ⟨_, rfl, rfl⟩
      have : atI [sg r.1, D.int r.2.1, D.int r.2.2] 0 = some (sg r.1) := rfl
      simp [rowD, mkF, reFrz, seq, Pm.ite, rtn, mov, asg, drp, sNx, bnd, Pm.bin, Pm.un, app, aCons, aNil, idx, loc, con, Pm.ret, peek1, peeks, itemOf, on2I, iAdd, iSub, iGt, iGe, iLt, iLe, iDiv, iMod, use1, useL, gI, gN, tst, andT, orT, notT, andE, orE, notE, ifE, ixN, D.frz, D.plain, plainL, argsBack, opLen, opAbs, opInt1, opNeg, disp, cap, callF, takes, puts, selA, sel, aApp, par, gT, gsC, gs0, appF, opDivmod, frzL, plainL]
  have tp := tabD_plain t
  generalize tabD t = TD at *
  generalize (lets t).map sg = LS at *
  simp [x_lsigns, b_lsigns, mkF, reFrz, seq, Pm.ite, rtn, mov, asg, drp, sNx, bnd, Pm.bin, Pm.un, app, aCons, aNil, idx, loc, con, Pm.ret, peek1, peeks, itemOf, on2I, iAdd, iSub, iGt, iGe, iLt, iLe, iDiv, iMod, use1, useL, gI, gN, tst, andT, orT, notT, andE, orE, notE, ifE, ixN, D.frz, D.plain, plainL, argsBack, opLen, opAbs, opInt1, opNeg, disp, cap, callF, takes, puts, selA, sel, aApp, par, gT, gsC, gs0, appF, opDivmod, frzL, plainL, hc, tp]
theorem cut2 (ms : List Nat) : Pm.cutD (ms.map sg) none (some 2) = (ms.take 2).map sg := by
  unfold Pm.cutD
  rw [List.map_take]
  match ms with
  | [] => rfl
  | [_] => rfl
  | _ :: _ :: _ => simp [HT.sIx]
theorem few_ok {S : FSem} (hS : Draws S) {ns : List Int} {a : Int} {z : List D} {few : List Nat} {b : Bool} {n : Nat} {TD M3 : D} (hl : ns.length ≤ 63) (hp : Pen ns a (.node true .lst z)) (ha : a + n ≤ 1000000) (hn : n ≤ 1000) (hf : few ≠ []) (hf2 : few.length ≤ 6) :
    ∃ (z' : List D) (l : List Nat), c_lsome_1 S [some (.node true .lst z), some TD, some (.int (n : Int)), some M3, some (.node b .lst (few.map sg)), none] = .ok (.val (.lst true (l.map sg))) [some (.node true .lst z'), some TD, some (.int (n : Int)), some M3, some (.node b .lst (few.map sg)), none] ∧ l.length = n ∧ (∀ c ∈ l, c ∈ few) ∧ Pen ns (a + n) (.node true .lst z') := by
  have hsrc : srcR1 (aCons (loc 2) aNil) [some (.node true .lst z), some TD, some (.int (n : Int)), some M3, some (.node b .lst (few.map sg)), none] = .ok (rangeD 0 n) [some (.node true .lst z), some TD, some (.int (n : Int)), some M3, some (.node b .lst (few.map sg)), none] := src_r1 (es := [.ref 2]) (n := n) rfl rfl (by omega)
  have hf0 : 0 < few.length := List.length_pos_iff.mpr hf
  obtain ⟨acc, ρ', e, z', l, rfl, p', rfl, hlen, hin⟩ := comp_wp (own := [5]) (g := gN 5) (c := yesT) (e := idx (aCons (loc 4) (aCons (callF S (aCons (loc 0) (aCons (app opLen (aCons (loc 4) aNil)) aNil))) aNil))) hsrc
    (fun j ρ acc => ∃ (z' : List D) (l : List Nat), ρ = [some (.node true .lst z'), some TD, some (.int (n : Int)), some M3, some (.node b .lst (few.map sg)), none] ∧ Pen ns (a + j) (.node true .lst z') ∧ acc = l.map sg ∧ l.length = j ∧ ∀ c ∈ l, c ∈ few)
    ⟨z, [], rfl, hp.mono (by omega), rfl, rfl, fun c hc => by simp at hc⟩ (by rw [range_len]; show n ≤ 1000000; omega)
    (fun j d ρ acc hd ⟨z', l, e, hp', ea, hlen, hin⟩ => by
      subst e
      obtain ⟨hj, rfl⟩ := range_get hd
      obtain ⟨r, z2, e2, r20, r21, p2⟩ := dr hS (m := (few.length : Int)) hl hp' (by omega) (by omega) (divS (by omega) (by omega))
      obtain ⟨k, rfl⟩ := Int.eq_ofNat_of_zero_le r20
      have hk : k < few.length := by omega
      have hc : few.length ≤ cap := by show _ ≤ 1000000; omega
      refine ⟨_, rfl, ?_⟩
      refine Wp.of (a := true) rfl ⟨fun _ => ?_, fun q => nomatch q⟩
      refine Wp.of (a := .val (sg few[k])) (ρ' := [some (.node true .lst z2), some TD, some (.int (n : Int)), some M3, some (.node b .lst (few.map sg)), some (.int (0 + (j : Int)))]) ?_ ?_
      · simp [mkF, reFrz, seq, Pm.ite, rtn, mov, asg, drp, sNx, bnd, Pm.bin, Pm.un, app, aCons, aNil, idx, loc, con, Pm.ret, peek1, peeks, itemOf, on2I, iAdd, iSub, iGt, iGe, iLt, iLe, iDiv, iMod, use1, useL, gI, gN, tst, andT, orT, notT, andE, orE, notE, ifE, D.frz, D.plain, plainL, argsBack, opLen, opAbs, opInt1, opNeg, disp, cap, callF, takes, puts, selA, sel, aApp, par, gT, gsC, gs0, appF, opDivmod, frzL, plainL, e2, get_sg hk, ix_nat hk, hk, hc]
      · refine ⟨_, _, rfl, z2, l ++ [few[k]], ?_, p2.mono (by omega), by rw [ea]; simp, by simp [hlen], fun c hc => ?_⟩
        · simp [wipeE]
        · rcases List.mem_append.mp hc with hc | hc
          · exact hin c hc
          · obtain rfl := List.mem_singleton.mp hc
            exact mem_at hk)
  rw [range_len] at p' hlen
  refine ⟨z', l, ?_, hlen, hin, p'⟩
  unfold c_lsome_1
  rw [e]
  rfl
theorem some_ok {S : FSem} (hS : Draws S) {ns : List Int} {a : Int} {z : List D} {t : List RowT} {n : Nat} (ht : Rws t) (hl : ns.length ≤ 63) (hp : Pen ns a (.node true .lst z)) (ha : a + 1000 ≤ 1000000) (hn : n ≤ 900) :
    ∃ (z' : List D) (l : List Nat), x_lsome S [.node true .lst z, tabD t, .int (n : Int)] = .ret (.str (T l)) [.node true .lst z', tabD t, .int (n : Int)] ∧ l.length = n ∧ (∀ c ∈ l, c ∈ lets t) ∧ Pen ns (a + 1 + n) (.node true .lst z') := by
  have hms : (lets t).length ≤ 6 := by rw [lets, List.length_map]; exact ht.n6
  have hne : lets t ≠ [] := fun e => by
    have h1 := ht.n1
    have e2 := congrArg List.length e
    simp only [lets, List.length_map, List.length_nil] at e2
    omega
  have e1 := signs_ok t (by have := ht.n6; omega)
  obtain ⟨r, z1, e2, r0, r1, p1⟩ := dr hS (m := 2) hl hp (by omega) (by decide) (by decide)
  have tp := tabD_plain t
  have hw : Wf (x_lsome S) [.node true .lst z, tabD t, .int (n : Int)] fun d as => ∃ (z' : List D) (l : List Nat), d = .str (T l) ∧ as = [.node true .lst z', tabD t, .int (n : Int)] ∧ l.length = n ∧ (∀ c ∈ l, c ∈ lets t) ∧ Pen ns (a + 1 + n) (.node true .lst z') := by
    generalize tabD t = TD at *
    generalize lets t = ms at *
    have hc2 := cut2 ms
    obtain ⟨tk, htk⟩ : ∃ tk, tk = ms.take 2 := ⟨_, rfl⟩
    rw [← htk] at hc2
    have hpl := sgs_plain ms
    have hfz := frzL_of_plain _ hpl
    unfold x_lsome
    refine wf_mkF ?_
    unfold b_lsome
    show Wp _ [some (.node true .lst z), some TD, some (.int (n : Int)), none, none, none] _
    refine wp_seq fun K k1 k2 k3 k4 => ?_
    simp [Wp, mkF, reFrz, seq, Pm.ite, rtn, mov, asg, drp, sNx, bnd, Pm.bin, Pm.un, app, aCons, aNil, idx, loc, con, Pm.ret, peek1, peeks, itemOf, on2I, iAdd, iSub, iGt, iGe, iLt, iLe, iDiv, iMod, use1, useL, gI, gN, tst, andT, orT, notT, andE, orE, notE, ifE, ixN, D.frz, D.plain, plainL, argsBack, opLen, opAbs, opInt1, opNeg, disp, cap, callF, takes, puts, selA, sel, aApp, par, gT, gsC, gs0, appF, opDivmod, frzL, plainL, e1, tp]
    refine k1 _ ?_
    clear k1 k2 k3 k4 K
    have fin : ∀ (b : Bool) (few : List Nat), few ≠ [] → few.length ≤ 6 → (∀ c ∈ few, c ∈ ms) → Wp (rtn (smet1 opJoin (con (.str "")) (c_lsome_1 S))) [some (.node true .lst z1), some TD, some (.int (n : Int)), some (.node false .lst (ms.map sg)), some (.node b .lst (few.map sg)), none] (Fin [] [.node true .lst z, TD, .int (n : Int)] fun d as => ∃ (z' : List D) (l : List Nat), d = .str (T l) ∧ as = [.node true .lst z', TD, .int (n : Int)] ∧ l.length = n ∧ (∀ c ∈ l, c ∈ ms) ∧ Pen ns (a + 1 + n) (.node true .lst z')) := fun b few h1 h2 h3 => by
      obtain ⟨z2, l, e3, hlen, hin, p2⟩ := few_ok (S := S) (b := b) (n := n) (TD := TD) (M3 := .node false .lst (ms.map sg)) hS hl p1 (by omega) (by omega) h1 h2
      have ej := join_sg true l (by rw [hlen]; show n ≤ 1000000; omega)
      have e0 := Pg.empty_T
      generalize T [] = T0 at *
      generalize c_lsome_1 S = CC at *
      generalize l.map sg = LL at *
      refine wp_end fun K k1 k2 k3 k4 => ?_
      simp [Wp, smet1, mkF, reFrz, seq, Pm.ite, rtn, mov, asg, drp, sNx, bnd, Pm.bin, Pm.un, app, aCons, aNil, idx, loc, con, Pm.ret, peek1, peeks, itemOf, on2I, iAdd, iSub, iGt, iGe, iLt, iLe, iDiv, iMod, use1, useL, gI, gN, tst, andT, orT, notT, andE, orE, notE, ifE, ixN, D.frz, D.plain, plainL, argsBack, opLen, opAbs, opInt1, opNeg, disp, cap, callF, takes, puts, selA, sel, aApp, par, gT, gsC, gs0, appF, opDivmod, frzL, plainL, e0, e3, ej]
      refine k2 _ _ ⟨[.node true .lst z2, TD, .int (n : Int)], ?_, z2, l, rfl, rfl, hlen, fun c hc => h3 c (hin c hc), p2.mono (by omega)⟩
      simp [argsBack, reFrz, tp, D.plain]
    refine wp_seq fun K k1 k2 k3 k4 => ?_
    have hr : r = 0 ∨ r = 1 := by omega
    rcases hr with rfl | rfl
    · simp [Wp, cut, gCut, mkF, reFrz, seq, Pm.ite, rtn, mov, asg, drp, sNx, bnd, Pm.bin, Pm.un, app, aCons, aNil, idx, loc, con, Pm.ret, peek1, peeks, itemOf, on2I, iAdd, iSub, iGt, iGe, iLt, iLe, iDiv, iMod, use1, useL, gI, gN, tst, andT, orT, notT, andE, orE, notE, ifE, ixN, D.frz, D.plain, plainL, argsBack, opLen, opAbs, opInt1, opNeg, disp, cap, callF, takes, puts, selA, sel, aApp, par, gT, gsC, gs0, appF, opDivmod, frzL, plainL, e2, tp, hc2, hpl, hfz]
      refine k1 _ ?_
      clear k1 k2 k3 k4 K
      exact fin false ms hne hms fun c hc => hc
    · simp [Wp, cut, gCut, mkF, reFrz, seq, Pm.ite, rtn, mov, asg, drp, sNx, bnd, Pm.bin, Pm.un, app, aCons, aNil, idx, loc, con, Pm.ret, peek1, peeks, itemOf, on2I, iAdd, iSub, iGt, iGe, iLt, iLe, iDiv, iMod, use1, useL, gI, gN, tst, andT, orT, notT, andE, orE, notE, ifE, ixN, D.frz, D.plain, plainL, argsBack, opLen, opAbs, opInt1, opNeg, disp, cap, callF, takes, puts, selA, sel, aApp, par, gT, gsC, gs0, appF, opDivmod, frzL, plainL, e2, tp, hc2, hpl, hfz]
      refine k1 _ ?_
      clear k1 k2 k3 k4 K
      subst htk
      exact fin true (ms.take 2) (by cases ms with | nil => exact absurd rfl hne | cons a b => simp) (by rw [List.length_take]; omega) fun c hc => List.mem_of_mem_take hc
  obtain ⟨d, as, e, z', l, rfl, rfl, h1, h2, h3⟩ := hw
  exact ⟨z', l, e, h1, h2, h3⟩
theorem block_ok {S : FSem} (hS : Draws S) {ns : List Int} {a : Int} {z : List D} {wide : Nat} (hl : ns.length ≤ 63) (hp : Pen ns a (.node true .lst z)) (ha : a + 2000 ≤ 1000000) (hw0 : 0 < wide) (hw : wide ≤ 800) :
    ∃ (z' : List D) (t : List RowT) (l : List Nat), x_lblock S [.node true .lst z, .int (wide : Int)] = .ret (.node false .tup [tabD t, .str (T l)]) [.node true .lst z', .int (wide : Int)] ∧ Rws t ∧ 1 ≤ l.length ∧ l.length ≤ wide ∧ (∀ c ∈ l, c ∈ lets t) ∧ Pen ns (a + 1000) (.node true .lst z') := by
  obtain ⟨z1, t, e1, ht, p1⟩ := Sc.entries_ok hS (m := 6) hl hp (by omega) (by decide) (by decide)
  rw [← x_entries_eq] at e1
  obtain ⟨r, z2, e2, r0, r1, p2⟩ := dr hS (m := (wide : Int)) hl p1 (by omega) (by omega) (divS (by omega) (by omega))
  obtain ⟨k, rfl⟩ := Int.eq_ofNat_of_zero_le r0
  obtain ⟨z3, l, e3, h1, h2, p3⟩ := some_ok (n := 1 + k) hS ht hl p2 (by omega) (by omega)
  have ea : hAdd [.int 1, .int (k : Int)] = some (.int ((1 + k : Nat) : Int)) := by
    rw [hAdd_ii]
    congr 2
  have tp := tabD_plain t
  have tf := tabD_frz t
  refine ⟨z3, t, l, ?_, ht, by omega, by omega, h2, p3.mono (by omega)⟩
  generalize tabD t = TD at *
  generalize (((1 + k : Nat) : Nat) : Int) = kk at *
  unfold x_lblock b_lblock
  generalize x_lentries S = XE at *
  generalize x_lsome S = XS at *
  generalize hAdd = HA at *
  simp [mkF, reFrz, seq, Pm.ite, rtn, mov, asg, drp, sNx, bnd, Pm.bin, Pm.un, app, aCons, aNil, idx, loc, con, Pm.ret, peek1, peeks, itemOf, on2I, iAdd, iSub, iGt, iGe, iLt, iLe, iDiv, iMod, use1, useL, gI, gN, tst, andT, orT, notT, andE, orE, notE, ifE, ixN, D.frz, D.plain, plainL, argsBack, opLen, opAbs, opInt1, opNeg, disp, cap, callF, takes, puts, selA, sel, aApp, par, gT, gsC, gs0, appF, opDivmod, frzL, plainL, e1, e2, e3, ea, tp, tf]
end Rp
set_option maxHeartbeats 2000000
namespace Pm
open PySem PySem.Spec PyProof.Rows L2
def dcIt (own : List Nat) (g : Tg) (c : M Bool) (ek ev : M EV) : List D → Env → List Key → List D → Res (List Key × List D)
  | [], ρ, ks, xs => .ok (ks, xs) ρ
  | d :: ds, ρ, ks, xs => match g d ρ with
    | .ok _ ρ1 => match c ρ1 with
      | .ok true ρ2 => match ek ρ2 with
        | .ok e1 ρ3 => match (peek1 ρ3 e1).bind keyOf with
          | some k => match ev ρ3 with
            | .ok e2 ρ4 => match peek1 ρ4 e2 with
              | some d' => if d'.plain = true ∧ ks.length < cap then dcIt own g c ek ev ds (wipeE ρ4 own) (putKs ks k) (putL ks xs k d') else .stuck
              | none => .stuck
            | _ => .stuck
          | none => .stuck
        | _ => .stuck
      | .ok false ρ2 => dcIt own g c ek ev ds (wipeE ρ2 own) ks xs
      | _ => .stuck
    | _ => .stuck
def dcomp (own : List Nat) (s : M (List D)) (g : Tg) (c : M Bool) (ek ev : M EV) : M EV := bnd s fun ds => fun ρ => match dcIt own g c ek ev ds (wipeE ρ own) [] [] with
  | .ok (ks, xs) ρ' => .ok (.val (.node true (.dct ks) xs)) (backE ρ ρ' own)
  | _ => .stuck
section
variable {K : PySem.W.Frag} {mg : Str → Option Value} {W : WX} {Z H : Hp} {S : Fp} {σ : Sl} {X : Cx} {A : Nat → Bool}
theorem tE_dcomp {own : List Nat} {s : M (List D)} {g : Tg} {c : M Bool} {ek ev : M EV} {Q : VK} (h : tE K mg W (dcomp own s g c ek ev) σ H Q) :
    tDc (tI K mg W s) (tG K (fun j => decide (j ∈ own)) g) (tT K mg wF c) (tE K mg wF ek) (tE K mg wF ev) own σ H Q := by
  obtain ⟨Z, ρ, S, w, er, o⟩ := h
  refine ⟨Z, ρ, S, w, er, ?_⟩
  simp only [dcomp, bnd] at o
  cases e1 : s ρ with
  | stuck => rw [e1] at o; exact o
  | exc x ρ1 => rw [e1] at o; exact o
  | ok ds ρ1 =>
    simp only [e1] at o
    intro J Z1 H1 S1 st er1 wk L hL
    cases e2 : dcIt own g c ek ev ds (wipeE ρ1 own) [] [] with
    | stuck => simp only [e2] at o; exact o.elim
    | exc x ρ2 => simp only [e2] at o; exact o.elim
    | ok accF ρF =>
      obtain ⟨ksF, xsF⟩ := accF
      simp only [e2] at o
      have f1 : Step Z1 H1 S1 Z1 (upd H1 L (.dK [])) (fun a => S1 a ∨ a = L) := Step.alloc (st.wd) hL
      have f2 : ∀ a o, H1 a = some o → upd H1 L (.dK []) a = some o := fun a o e => by rw [upd_ne (ne_of_none e hL)]; exact e
      have f3 : ∀ a, S1 a → a = L → False := fun a s e => st.wd.dom a s (by rw [e]; exact hL)
      refine ⟨fun i m H' => ∃ Z' ρ' S' ks xs ys, Step Z1 H1 S1 Z' H' (fun a => S' a ∨ a = L) ∧ (∀ a, S' a → a = L → False) ∧ EnvR K Z' H' (wipeE ρ' own) (L2.wipe σ own) S' ∧ H' L = some (.dK (ks.zip ys)) ∧ ks.length = ys.length ∧ RepL K Z' H' xs ys Fp0 ∧ i + m = ds.length ∧
        dcIt own g c ek ev (ds.drop i) (wipeE ρ' own) ks xs = .ok (ksF, xsF) ρF, ⟨ds.length, Z1, ρ1, S1, [], [], [], f1, f3, (er1.move (Same.refl _) (fun a o _ e => f2 a o e) fun _ x => x).wipe, upd_same, rfl, trivial, by omega, e2⟩, ?_⟩
      rintro i m H2 ⟨Z2, ρ2, S2, ks, xs, ys, st2, dj2, er2, hys, hlen, ra, him, ci⟩
      obtain ⟨w3, w4⟩ := wk Z2 H2 st2.zz st2.wd.same
      by_cases hi : i < ds.length
      · obtain ⟨go, yl⟩ := w4 i ds[i] (List.getElem?_eq_getElem hi)
        have ed : ds.drop i = ds[i] :: ds.drop (i + 1) := List.drop_eq_getElem_cons hi
        rw [ed] at ci
        refine .inr ⟨go, fun H' => ∃ Z' ρ' S' ks xs ys, Step Z1 H1 S1 Z' H' (fun a => S' a ∨ a = L) ∧ (∀ a, S' a → a = L → False) ∧ EnvR K Z' H' (wipeE ρ' own) (L2.wipe σ own) S' ∧ H' L = some (.dK (ks.zip ys)) ∧ ks.length = ys.length ∧ RepL K Z' H' xs ys Fp0 ∧ (i + 1) + (m - 1) = ds.length ∧
          dcIt own g c ek ev (ds.drop (i + 1)) (wipeE ρ' own) ks xs = .ok (ksF, xsF) ρF, fun H' q => ⟨m - 1, by omega, q⟩, fun x H3 y => ?_⟩
        obtain ⟨Z3, st3, k3, r3⟩ := yl x H3 (fun a => S2 a ∨ a = L) st2.wd y
        have er3 : EnvR K Z3 H3 (wipeE ρ2 own) (L2.wipe σ own) S2 := er2.move st3.zz (fun a o _ e => k3 a o e) fun _ x => x
        have w3' : Wd Z3 H3 (fun a => S2 a ∨ Fp0 a) := st3.wd.less fun a x => x.elim .inl False.elim
        refine ⟨Z3, wipeE ρ2 own, S2, Fp0, ds[i], w3', fun _ _ x => x, er3, r3, ?_⟩
        simp only [dcIt] at ci
        cases e3 : g ds[i] (wipeE ρ2 own) with
        | stuck => rw [e3] at ci; cases ci
        | exc x ρ3 => rw [e3] at ci; cases ci
        | ok u ρ3 =>
          simp only [e3] at ci
          intro σ4 Z4 H4 S4 kp4 st4 er4
          have hw4 : L2.wipe σ4 own = L2.wipe σ own := (wipe_keep kp4).trans wipe_wipe
          refine ⟨hw4, ?_⟩
          obtain ⟨F, hF⟩ : ∃ F : Fp, F = fun a => a = L := ⟨_, rfl⟩
          have inL : F L := by rw [hF]
          have dF : ∀ a, S2 a → F a → False := fun a x y => dj2 a x (by rw [hF] at y; exact y)
          have w3F : Wd Z3 H3 (fun a => S2 a ∨ F a) := by rw [hF]; exact st3.wd
          have st13 : Step Z1 H1 S1 Z3 H3 (fun a => S2 a ∨ F a) := by rw [hF]; exact st2.trans st3
          have st4' : Step Z3 H3 S2 Z4 H4 S4 := (Step.less (Step.refl (w3F.less fun a x => .inl x)) (S2 := fun a => S2 a ∨ Fp0 a) (fun a x => x.elim id False.elim)).trans st4
          have st4F := st4'.frame w3F dF
          have dF4 := st4'.apart (fun a x => w3F.live a (.inr x)) dF
          have ra3 : RepL K Z3 H3 xs ys Fp0 := ra.move st3.zz (fun _ _ x => x.elim) fun _ x => x
          have ra4 : RepL K Z4 H4 xs ys Fp0 := ra3.move st4'.zz (fun _ _ x => x.elim) fun _ x => x
          have hy4 : H4 L = some (.dK (ks.zip ys)) := st4'.fr L _ (fun x => dF L x inL) (k3 _ _ hys) nt_dK
          refine ⟨Z4, ρ3, S4, st4.wd, er4, ?_⟩
          cases e4 : c ρ3 with
          | stuck => rw [e4] at ci; cases ci
          | exc x ρ4 => rw [e4] at ci; cases ci
          | ok t ρ4 =>
            intro Z5 H5 S5 st5 er5
            have st5F := st5.frame st4F.wd dF4
            have dF5 := st5.apart (fun a x => st4F.wd.live a (.inr x)) dF4
            have ra5 : RepL K Z5 H5 xs ys Fp0 := ra4.move st5.zz (fun _ _ x => x.elim) fun _ x => x
            have hy5 : H5 L = some (.dK (ks.zip ys)) := st5.fr L _ (fun x => dF4 L x inL) hy4 nt_dK
            have st15 : Step Z1 H1 S1 Z5 H5 (fun a => S5 a ∨ F a) := (st13.trans st4F).trans st5F
            cases t with
            | false =>
              rw [if_neg Bool.false_ne_true]
              simp only [e4] at ci
              refine ⟨Z5, ρ4, S5, ks, xs, ys, by rw [hF] at st15; exact st15, fun a x y => dF5 a x (by rw [hF]; exact y), ?_, hy5, hlen, ra5, by omega, ci⟩
              have q := er5.wipe (own := own)
              rw [hw4] at q
              exact q
            | true =>
              rw [if_pos rfl]
              simp only [e4] at ci
              refine ⟨Z5, ρ4, S5, st5.wd, er5, ?_⟩
              cases e5 : ek ρ4 with
              | stuck => rw [e5] at ci; cases ci
              | exc x ρ5 => rw [e5] at ci; cases ci
              | ok k1 ρ5 =>
                simp only [e5] at ci
                intro yk Z6 H6 S6 Sd st6' dj6 er6 r6
                cases e6 : (peek1 ρ5 k1).bind keyOf with
                | none => simp only [e6] at ci; cases ci
                | some key =>
                  simp only [e6] at ci
                  obtain ⟨kd, hkd, hkey⟩ := Option.bind_eq_some_iff.mp e6
                  have hyk : yk = kV key := keyOf_rep hkey (peek1_rep er6 r6 hkd)
                  have st6 : Step Z5 H5 S5 Z6 H6 S6 := st6'.less fun a x => .inl x
                  have st6F := st6.frame st5F.wd dF5
                  have dF6 := st6.apart (fun a x => st5F.wd.live a (.inr x)) dF5
                  have ra6 : RepL K Z6 H6 xs ys Fp0 := ra5.move st6.zz (fun _ _ x => x.elim) fun _ x => x
                  have hy6 : H6 L = some (.dK (ks.zip ys)) := st6.fr L _ (fun x => dF5 L x inL) hy5 nt_dK
                  have st16 := st15.trans st6F
                  refine ⟨Z6, ρ5, S6, st6.wd, er6, ?_⟩
                  cases e7 : ev ρ5 with
                  | stuck => rw [e7] at ci; cases ci
                  | exc x ρ6 => rw [e7] at ci; cases ci
                  | ok v1 ρ6 =>
                    simp only [e7] at ci
                    intro z Z7 H7 S7 Se st7' dj7 er7 r7
                    cases e8 : peek1 ρ6 v1 with
                    | none => simp only [e8] at ci; cases ci
                    | some d' =>
                      simp only [e8] at ci
                      by_cases hz : d'.plain = true ∧ ks.length < cap
                      · rw [if_pos hz] at ci
                        obtain ⟨hp, hcap⟩ := hz
                        have rz : Rep K Z7 H7 d' z Fp0 := (peek1_rep er7 r7 e8).plain hp
                        have st7 : Step Z6 H6 S6 Z7 H7 S7 := st7'.less fun a x => .inl x
                        have st7F := st7.frame st6F.wd dF6
                        have dF7 := st7.apart (fun a x => st6F.wd.live a (.inr x)) dF6
                        have ra7 : RepL K Z7 H7 xs ys Fp0 := ra6.move st7.zz (fun _ _ x => x.elim) fun _ x => x
                        have hy7 : H7 L = some (.dK (ks.zip ys)) := st7.fr L _ (fun x => dF6 L x inL) hy6 nt_dK
                        have st17 := st16.trans st7F
                        have hl : (ks.zip ys).length < sizeLine := by
                          rw [List.length_zip, sizeLine_eq]
                          have : ks.length < 1000000 := hcap
                          omega
                        refine ⟨_, key, hyk, hy7, hl, ?_⟩
                        rw [putK_zip key z ks ys hlen]
                        have st8 : Step Z7 H7 (fun a => S7 a ∨ F a) Z7 (upd H7 L (.dK ((putKs ks key).zip (putL ks ys key z)))) (fun a => S7 a ∨ F a) := Step.write st17.wd (.inr inL)
                        refine ⟨Z7, ρ6, S7, putKs ks key, putL ks xs key d', putL ks ys key z, ?_, ?_, ?_, upd_same, putL_len ks ys key z hlen, ?_, by omega, ci⟩
                        · have q := st17.trans st8
                          rw [hF] at q
                          exact q
                        · exact fun a x y => dF7 a x (by rw [hF]; exact y)
                        · have q := er7.wipe (own := own)
                          rw [hw4] at q
                          exact q.move (Same.refl _) (fun a o t q => by rw [upd_ne fun z => dF7 a t (by rw [z]; exact inL)]; exact q) fun _ x => x
                        · exact putL_rep (rz.move (Same.refl _) (fun _ _ x => x.elim) fun _ x => x) (ra7.move (Same.refl _) (fun _ _ x => x.elim) fun _ x => x)
                      · rw [if_neg hz] at ci
                        cases ci
      · refine .inl ⟨w3 i (by omega), ?_⟩
        rw [List.drop_eq_nil_of_le (by omega)] at ci
        simp only [dcIt, Res.ok.injEq, Prod.mk.injEq] at ci
        obtain ⟨⟨rfl, rfl⟩, rfl⟩ := ci
        have er2' := wipeE_back er1 st2.zz (own := own) er2.unwipe
        exact o (.ref L) Z2 H2 S2 (fun a => a = L) (st.trans st2) dj2 er2' ⟨L, ys, Fp0, rfl, ⟨hlen, hys⟩, rfl, fun x => x, fun _ x => x.elim, ra⟩
variable {tg iter : Expr} {pos : Pos}
theorem ps_setDc {i : Nat} {y : Str} {py : Pos} {kx vx tg iter : Expr} {ifs : List Expr} {scope : Scope} {own : List (Str × Nat)} {pos spos : Pos} {wi : TI} {g : TG} {tt : TT} {tk tv : TE} (hc : X.calm = true) (hN : X.N.Nodup) (hy : X.N[i]? = some y) (hyl : X.env.scope.names.lookup y = some .local)
    (hsw : swapsWith (.DictComp kx vx [⟨tg, iter, ifs, 0⟩] scope pos) (some (.Name y py)) spos.line X.env = pure true) (hi : PI X tg iter wi) (ok : BlkOk X.N X.env.scope scope own)
    (hg : ∀ (s : Shared) (H : Hp) (C : Addr) (cl : List (Str × Addr)) (fp : List Addr), PG (X.blk s H scope (compEnvC scope cl C X.env) fp) tg g) (ht : ∀ (s : Shared) (H : Hp) (C : Addr) (cl : List (Str × Addr)) (fp : List Addr), PTs (X.blk s H scope (compEnvC scope cl C X.env) fp) ifs tt)
    (hk : ∀ (s : Shared) (H : Hp) (C : Addr) (cl : List (Str × Addr)) (fp : List Addr), PE (X.blk s H scope (compEnvC scope cl C X.env) fp) kx tk)
    (he : ∀ (s : Shared) (H : Hp) (C : Addr) (cl : List (Str × Addr)) (fp : List Addr), PE (X.blk s H scope (compEnvC scope cl C X.env) fp) vx tv) (hs : ∀ x, foldedSetIterable iter X.env x = pure x := by intro _; rfl) :
    PS X (.Assign [.Name y py] (.DictComp kx vx [⟨tg, iter, ifs, 0⟩] scope pos) spos) (tAsg (tDc wi g tt tk tv (own.map (·.2))) (gName i)) := by
  refine ⟨fun pins s σ H D I h => ?_⟩
  rw [exec_Assign_Name_used _ _ _ _ hsw]
  refine wpAny_bind (wpAny_standAt (wpAny_bind ?_))
  show wpAny _ X.A (do let _ ← comprehension (.DictComp kx vx [⟨tg, iter, ifs, 0⟩] scope pos) scope X.env (firstIterPos [⟨tg, iter, ifs, 0⟩] pos) newDict false (eval iter X.env) (some (assign (.Name y py) X.env))) _ _ s
  have h : tDc wi g tt tk tv (own.map (·.2)) σ H (fun x H1 => gName i x σ H1 D.nx) := h
  refine wpAny_bind (thn (dc_core (Qf := fun _ s' => SP X pins D .next s') hc hN I hi ok hg ht hk he hs h fun L C s' m H' I' q hn f => ?_) fun _ s' hq => wpAny_pure (wpAny_pure hq))
  show wpAny _ _ (assign (.Name y py) X.env (.ref L)) _ _ _
  refine wpAny_assign_Name (store_ok2 (v := V.ref L) I' hN hy (.inl hyl) rfl (fun s2 I2 ⟨a, sb, ha⟩ => ?_) (.inr hyl))
  obtain ⟨f0, f1, f2, f3, f4, f5⟩ := f
  have haC : C ≠ a := by
    rcases ha with z | z
    · rw [z]; exact f1
    · exact fun e => f4 y a z e.symm
  refine ⟨m, hn.sameBut sb haC, fun h3 sb3 => ?_⟩
  exact ⟨_, H', I2.turned (t' := s2.toks) (fun b o hb e => (sb3.2 b hb).trans e) f0 f1 f3 f4 f5, q⟩
theorem S_dc {i : Nat} {y : Str} {py spos : Pos} {kx vx : Expr} {ifs : List Expr} {scope : Scope} {own : List (Str × Nat)} {s : M (List D)} {g : Tg} {cc : M Bool} {ek ev : M EV} (hN : X.N.Nodup) (hi : PI X tg iter (tI X.K X.mg W s)) (ok : BlkOk X.N X.env.scope scope own)
    (hg : ∀ (s : Shared) (H : Hp) (C : Addr) (cl : List (Str × Addr)) (fp : List Addr), PG (X.blk s H scope (compEnvC scope cl C X.env) fp) tg (tG X.K (ownA own) g)) (ht : ∀ (s : Shared) (H : Hp) (C : Addr) (cl : List (Str × Addr)) (fp : List Addr), PTs (X.blk s H scope (compEnvC scope cl C X.env) fp) ifs (tT X.K X.mg wF cc))
    (hk : ∀ (s : Shared) (H : Hp) (C : Addr) (cl : List (Str × Addr)) (fp : List Addr), PE (X.blk s H scope (compEnvC scope cl C X.env) fp) kx (tE X.K X.mg wF ek)) (he : ∀ (s : Shared) (H : Hp) (C : Addr) (cl : List (Str × Addr)) (fp : List Addr), PE (X.blk s H scope (compEnvC scope cl C X.env) fp) vx (tE X.K X.mg wF ev))
    (hc : X.calm = true := by rfl) (hs : ∀ x, foldedSetIterable iter X.env x = pure x := by intro _; rfl)
    (hA : A i = true := by rfl) (hy : X.N[i]? = some y := by rfl) (hyl : X.env.scope.names.lookup y = some .local := by rfl) (hsw : swapsWith (.DictComp kx vx [⟨tg, iter, ifs, 0⟩] scope pos) (some (.Name y py)) spos.line X.env = pure true := by rfl) :
    PS X (.Assign [.Name y py] (.DictComp kx vx [⟨tg, iter, ifs, 0⟩] scope pos) spos) (tS X.K X.mg W A (asg (dcomp (own.map (·.2)) s g cc ek ev) (gN i))) :=
  PS.of (ps_setDc hc hN hy hyl hsw hi ok hg ht hk he hs) fun D σ H q => by
    have q1 := tS_asg q
    refine tE_dcomp (Q := _) ?_
    exact tE_mono (fun v H1 r => tG_N hA r) q1
end
end Pm
set_option maxHeartbeats 2000000
namespace Pm
open PySem PySem.Spec PyProof.Rows L2
end Pm
set_option maxHeartbeats 2000000
namespace Pm
open PySem PySem.Spec PyProof.Rows L2
/-- the arguments of a setter: the value is worked out first -/
def setPA (j : Nat) (n f : Str) (fe : M EV) : M (List EV) := fun ρ => match fe ρ with
  | .ok ev ρ1 => (match ρ1.getD j none with
    | some (.node _ (.ins n' fs) _) => if n' = n ∧ f ∉ fs then .ok [.ref j, ev] ρ1 else .stuck
    | _ => .stuck)
  | .exc x ρ1 => .exc x ρ1
  | .stuck => .stuck
def setP (j : Nat) (n f : Str) (g : FSem) (fe : M EV) : M Fl := drp (callF g (setPA j n f fe))
section
variable {K : PySem.W.Frag} {mg : Str → Option Value} {W : WX} {Z H : Hp} {S : Fp} {σ : Sl} {X : Cx} {A : Nat → Bool}
theorem tA_setP {j : Nat} {n f : Str} {fe : M EV} {R : List V → Hp → Prop} (h : tA K mg W (setPA j n f fe) σ H R) : tE K mg W fe σ H fun y H1 => ∃ (a C dx : Addr) (kvs : List (Str × V)), σ[j]? = some (some (.ref a)) ∧ reg K n = some C ∧ H1 a = some (.ins C dx kvs) ∧ R [.ref a, y] H1 := by
  obtain ⟨Z, ρ, S, w, er, o⟩ := h
  refine ⟨Z, ρ, S, w, er, ?_⟩
  unfold setPA at o
  cases e1 : fe ρ with
  | stuck => simp only [e1] at o; exact o.elim
  | exc x ρ1 => simp only [e1] at o; exact o
  | ok ev ρ1 =>
    simp only [e1] at o
    intro y Z1 H1 S1 Sa st1 dj1 er1 r1
    split at o
    · rename_i b n' fs xs hd
      split at o
      · rename_i hn
        obtain ⟨rfl, hf⟩ := hn
        obtain ⟨u, U1, U2, hv, u1, u2, uj, ru, eu⟩ := er1.take (getD_some hd)
        obtain ⟨a, C, dx, ys, S3, rfl, h1, h2, h3, _⟩ := ins_at st1.wd.same ru
        exact ⟨a, C, dx, _, hv, h1, h3, o [.ref a, y] Z1 H1 S1 Sa st1 dj1 er1 ⟨Fp0, Sa, fun _ x => x.elim, fun _ x => x, fun _ x _ => x, hv, ⟨Sa, Fp0, fun _ x => x, fun _ x => x.elim, fun _ _ x => x, r1, trivial⟩⟩⟩
      · exact o.elim
    · exact o.elim
/-- a setter as its class knows it -/
structure SDef (P : Program) (w : World) (K : PySem.W.Frag) (mg : Str → Option Value) (base : Heap) (k : Nat) (C : Addr) (f : Str) (p a : Addr) (fd : FuncData) (v : Str) (g : FSem) : Prop where
  ok : FnG P w K mg base k a fd ["self", v] g
  tk : PySem.W.takerIn K C f = some (some (.ref p))
  ty : PySem.W.typeIn K (.ref p) = some (.type "property")
  rc : ∃ (x : Value) (rest : List Value), PySem.W.recIn K p "property" = some (x :: .ref a :: rest)
  bd : Binds K fd ["self", v] []
theorem S_setP {k jj j : Nat} {n f x v : Str} {C p ga : Addr} {fd : FuncData} {g : FSem} {fe : M EV} {e : Expr} {p2 pos' pos : Pos} (hC : reg X.K n = some C) (c : Cls X.K C) (F : SDef X.prog X.w X.K X.mg X.base k C f p ga fd v g) (ft : Fit X W jj) (he : PE X e (tE X.K X.mg W fe)) (hk : k + 2 ≤ jj := by first | decide | omega) (hj : X.N[j]? = some x := by rfl) (hv : Vis X.env.scope x := by first | exact Or.inl rfl | exact Or.inr (Or.inl rfl) | exact Or.inr (Or.inr rfl)) (hd : (x == ("__debug__" : Str)) = false := by decide) (hcd : (x == ("__classdict__" : Str)) = false := by decide)
    (hs : swapsWith e (some (.Attribute (.Name x p2) f pos')) pos.line X.env = pure false := by rfl) : PS X (.Assign [.Attribute (.Name x p2) f pos'] e pos) (tS X.K X.mg W A (setP j n f g fe)) := by
  refine ⟨fun pins s σ H D I h => ?_⟩
  have q0 := tA_setP (tE_call (tS_drp h))
  refine plainObj_wpAny_Assign_Attribute (thn (he.run pins s σ H _ I q0) fun u s1 ⟨y, H1, I1, ry, a, C', dx, kvs, hσ, hr, ea, q⟩ => thn ((pe_var hj hv hd hcd).run pins s1 σ H1 (fun z H2 => z = .ref a ∧ H2 = H1) I1 ⟨.ref a, hσ, rfl, rfl⟩) fun ov s2 ⟨z, H2, I2, rz, ez, eH⟩ => ?_) hs
  subst ez eH
  rw [hC] at hr
  cases hr
  obtain rfl : ov = Value.ref a := rz
  obtain ⟨mA, O, _, _, _, _⟩ := ins_get I2.hok ea
  obtain ⟨od, J, _⟩ := O.look
  obtain ⟨x0, rest, hrec⟩ := F.rc
  have I3 := I2.tok (s2.toks + 1)
  have hroom := ft.room.mono hk
  refine PySem.W.set_plain I2.kIn J c.sa (PySem.W.osa_descr (s := { s2 with toks := s2.toks + 1 }) PySem.W.KF.slot_pset I2.kIn J c.po F.tk F.ty (PySem.W.prop_set (s := { s2 with toks := s2.toks + 1 }) I2.kIn hrec ?_))
  refine codeAny_mono (F.ok.run X.A.in1.in1 X.stack { s2 with toks := s2.toks + 1 } H2 ⟨[.ref a, u], []⟩ [.ref a, u] [V.ref a, y] _ _ (by first | exact ft.gd | (simpa [Around.in1] using ft.gd)) hroom.in1.in1 I3.env0.in1.in1 (F.bd _ [.ref a, u] I3.kIn rfl) (.cons rfl (.cons ry .nil)) q) fun r s' hq => ?_
  cases r with
  | error e => exact passAt ft.tk σ pins _ _ e s' I3 hq
  | ok fl =>
    cases fl with
    | ret u =>
      obtain ⟨v, H', I4, rv, q3⟩ := I3.after hq
      exact ⟨σ, _, I4, q3⟩
    | next => exact False.elim hq
    | brk => exact False.elim hq
    | cont => exact False.elim hq
end
end Pm
set_option maxHeartbeats 2000000
namespace Pm
open PySem PySem.Spec PyProof.Rows L2
/-- gives a whole number -/
def conS (n : Int) : FSem := fun ds => .ret (.int n) ds
section
variable {K : PySem.W.Frag} {mg : Str → Option Value} {W : WX} {Z H : Hp} {S : Fp} {σ : Sl} {X : Cx} {A : Nat → Bool}
theorem spG_conS {n : Int} {vs : List V} {Q : VK} {E : L2.XK} (h : spG K mg (conS n) vs H Q E) : Q (.int n) H := by
  obtain ⟨Z, S, ds, mk, w, r, o⟩ := h
  exact o (.int n) Z H S Fp0 ((Step.refl w).less fun a q => q.elim id fun z => z.elim) (fun _ _ z => z.elim) r rfl
/-- C.f is a whole number -/
structure CInt (K : PySem.W.Frag) (C : Addr) (f : Str) (n : Int) : Prop where
  at_ : ∃ t, PySem.W.findIn K (.ref C) f = some (some (.int n t)) ∧ PySem.W.specialIn K (.int n t) "__get__" = some none
  cp : PySem.W.copiedNames.contains f = false
theorem E_ccon {n f : Str} {C : Addr} {i : Int} {o : Expr} {fo : M EV} {pos : Pos} (hC : reg X.K n = some C) (c : Cls X.K C) (F : CInt X.K C f i) (ho : PE X o (tE X.K X.mg W fo))
    (hab : attributeBase o f X.env (eval o X.env) = eval o X.env := by rfl) :
    PE X (.Attribute o f pos) (tE X.K X.mg W (callF (conS i) (aCons (chk n f fo) aNil))) := by
  refine ⟨fun pins s σ H Q I h => ?_⟩
  have q0 := tE_chk (tA_cons (tE_call h))
  refine attr_of hab (thn (ho.run pins s σ H _ I q0) fun u s1 ⟨x, H1, I1, rx, ⟨a, C', dx, kvs, ex, hr, ea, l⟩, q⟩ => ?_)
  subst ex
  rw [hC] at hr
  cases hr
  obtain rfl : u = Value.ref a := rx
  have q' := spG_conS (tA_nil q)
  obtain ⟨mA, O, rr, _, _, _⟩ := ins_get I1.hok ea
  have hn : mA f = none := RelO.none_of (by rw [← l]; exact rr f)
  obtain ⟨od, J, hl⟩ := O.look
  obtain ⟨t, ht, hg⟩ := F.at_
  exact PySem.W.get_value I1.kIn J (PySem.W.plainGet_of (c.get f)).1 (PySem.W.findObj_cls c.hd ht hg rfl F.cp (by rw [hl f, hn])) rfl ⟨.int i, H1, I1.tok _, ⟨_, rfl⟩, q'⟩
end
end Pm
namespace Pm
open PySem PySem.Spec PyProof.Rows L2
def frzE (f : M EV) : M EV := fun ρ => match f ρ with
  | .ok (.val d) ρ1 => .ok (.val d.frz) ρ1
  | r => r
section
variable {K : PySem.W.Frag} {mg : Str → Option Value} {W : WX} {Z H : Hp} {S : Fp} {σ : Sl} {X : Cx} {e : Expr} {fa : M EV}
theorem tE_frz {Q : VK} (h : tE K mg W (frzE fa) σ H Q) : tE K mg W fa σ H Q := by
  obtain ⟨Z, ρ, S, w, er, o⟩ := h
  refine ⟨Z, ρ, S, w, er, ?_⟩
  simp only [frzE] at o
  cases e1 : fa ρ with
  | stuck => rw [e1] at o; exact o
  | exc x ρ1 => rw [e1] at o; exact o
  | ok ev ρ1 =>
    rw [e1] at o
    cases ev with
    | ref i => exact o
    | val d =>
      intro v Z' H' S' Sd st dj er' r
      have w' := st.wd
      have stp : Step Z' H' (fun a => S' a ∨ Sd a) (thaw Z' H' Sd) H' (fun a => S' a ∨ Fp0 a) := Step.freeze w' (fun a x => .inr x) (fun a x => x.elim .inl fun y => y.elim) fun a x y => x.elim (fun t => dj a t y) fun t => t.elim
      have rf : Rep K (thaw Z' H' Sd) H' d.frz v Fp0 := Rep.frz (show Rep K Z' H' d v Sd from r) (fun a x => w'.sep a (.inr x)) fun _ x => x
      exact o v _ H' S' Fp0 (st.trans stp) (fun _ _ x => x) (er'.move stp.zz (fun _ _ _ x => x) fun _ x => x) rf
theorem E_frz (h : PE X e (tE X.K X.mg W fa)) : PE X e (tE X.K X.mg W (frzE fa)) := PE.of h fun _ _ _ q => tE_frz q
end
end Pm
namespace Rp
open PySem PySem.Spec PyProof.Rows L2 Pm
open Pg (sg rowD tabD abc_T rows_plain tabD_plain tabD_frz dr divS ABC get_sg perm_erase erase_map sorted_sg sgs_plain ix_nat mem_at tab_src join_sg)
open TL (numL joinL)
open Sc (Rws RowT)
noncomputable def b_Place____init__ : M Fl := (seq (setA 0 "Place" "mark" (loc 1))
    (seq (setA 0 "Place" "first_use" (loc 2))
    (seq (setA 0 "Place" "uses" (loc 3))
    (seq (setA 0 "Place" "first_strength" (Pm.bin (on2I iSub) (loc 4) (Pm.bin hMulT (loc 2) (loc 5))))
    (setA 0 "Place" "loss" (Pm.bin hMulT (loc 3) (loc 5)))))))
noncomputable def x_Place____init__ : FSem := mkF 6 6 [] b_Place____init__
noncomputable def b_places_of_1 : M Fl := (seq (Pm.ite (tst (Pm.bin (opDIn true) (loc 5) (loc 2))) (raise1 "UnknownOperator" "letter" (loc 5)) sNx)
    (seq (asg (Pm.bin opDGet (loc 2) (loc 5)) (gT (gsC (gN 6) (gsC (gN 7) gs0)) 2))
    (drp (appd 3 (makeC "Place" x_Place____init__ (aCons (loc 5) (aCons (smet1 opCountS (cut (loc 1) none (some (loc 4))) (loc 5)) (aCons (smet1 opCountS (loc 1) (loc 5)) (aCons (loc 6) (aCons (loc 7) aNil))))))))))
noncomputable def b_places_of : M Fl := (seq (asg (dcomp [5, 6, 7] (srcA (loc 0)) (gT (gsC (gN 5) (gsC (gN 6) (gsC (gN 7) gs0))) 3) yesT (loc 5) (frzE (disp false .tup (aCons (loc 6) (aCons (loc 7) aNil))))) (gN 2))
    (seq (asg (disp true .lst aNil) (gN 3))
    (seq (forS (srcEnumS (loc 1)) (gT (gsC (gN 4) (gsC (gN 5) gs0)) 2) b_places_of_1)
    (rtn (mov 3)))))
noncomputable def x_places_of : FSem := mkF 2 8 [] b_places_of
theorem putN_new {f : Str} : ∀ {fs : List Str}, f ∉ fs → putN f fs = fs ++ [f]
  | [], _ => rfl
  | g :: fs, h => by
    have h1 : ¬ g = f := fun e => h (by rw [e]; exact List.mem_cons_self)
    have h2 := putN_new (f := f) (fs := fs) fun q => h (List.mem_cons_of_mem _ q)
    simp [putN, h1, h2]
theorem putX_new {f : Str} {d : D} : ∀ {fs : List Str} {xs : List D}, f ∉ fs → fs.length = xs.length → putX f d fs xs = xs ++ [d]
  | [], [], _, _ => rfl
  | [], _ :: _, _, h => by simp at h
  | _ :: _, [], _, h => by simp at h
  | g :: fs, x :: xs, h, hl => by
    have h1 : ¬ g = f := fun e => h (by rw [e]; exact List.mem_cons_self)
    have h2 := putX_new (f := f) (d := d) (fs := fs) (xs := xs) (fun q => h (List.mem_cons_of_mem _ q)) (by simpa using hl)
    simp [putX, h1, h2]
theorem setA_new {i : Nat} {n f : Str} {fe : M EV} {ρ ρ1 ρ2 : Pm.Env} {ev : EV} {d : D} {fs : List Str} {xs : List D} (hf : fe ρ = .ok ev ρ1) (hu : use1 ev ρ1 = .ok d ρ2) (h : ρ2.getD i none = some (.node true (.ins n fs) xs)) (nf : f ∉ fs) (hl : fs.length = xs.length) (h9 : fs.length < 900) :
    setA i n f fe ρ = .ok .nx (ρ2.set i (some (.node true (.ins n (fs ++ [f])) (xs ++ [d])))) := by
  unfold setA
  simp only [bnd, hf, hu, h]
  rw [if_pos (by first | exact ⟨rfl, h9, hl⟩ | exact ⟨trivial, h9, hl⟩), putN_new nf, putX_new nf hl]
theorem setA_int {i : Nat} {n f : Str} {fe : M EV} {ρ : Pm.Env} {k : Int} {fs : List Str} {xs : List D} (hf : fe ρ = .ok (.val (.int k)) ρ) (h : ρ.getD i none = some (.node true (.ins n fs) xs)) (nf : f ∉ fs) (hl : fs.length = xs.length) (h9 : fs.length < 900) :
    setA i n f fe ρ = .ok .nx (ρ.set i (some (.node true (.ins n (fs ++ [f])) (xs ++ [.int k])))) := setA_new hf rfl h nf hl h9
/-- a place: mark, uses before it, uses, strength and step of the mark -/
def plD (b : Bool) (c : Nat) (fu us : Nat) (st lo : Int) : D := .node b (.ins "Place" ["mark", "first_use", "uses", "first_strength", "loss"]) [sg c, .int (fu : Int), .int (us : Int), .int (st - fu * lo), .int (us * lo)]
theorem place_ok {c fu us : Nat} {st lo : Int} (h1 : fu ≤ 1000) (h2 : us ≤ 1000) (h3 : -1000000000000 ≤ lo) (h4 : lo ≤ 1000000000000) :
    x_Place____init__ [.node true (.ins "Place" []) [], sg c, .int (fu : Int), .int (us : Int), .int st, .int lo] = .ret .non [plD true c fu us st lo, sg c, .int (fu : Int), .int (us : Int), .int st, .int lo] := by
  have m1 : hMulT [.int (fu : Int), .int lo] = some (.int (fu * lo)) := by
    rw [hMulT_ii]
    exact mulL (by omega)
  have m2 : hMulT [.int (us : Int), .int lo] = some (.int (us * lo)) := by
    rw [hMulT_ii]
    exact mulL (by omega)
  have hw : Wf x_Place____init__ [.node true (.ins "Place" []) [], sg c, .int (fu : Int), .int (us : Int), .int st, .int lo] fun d as => d = .non ∧ as = [plD true c fu us st lo, sg c, .int (fu : Int), .int (us : Int), .int st, .int lo] := by
    unfold x_Place____init__
    refine wf_mkF ?_
    unfold b_Place____init__
    show Wp _ [some (.node true (.ins "Place" []) []), some (sg c), some (.int (fu : Int)), some (.int (us : Int)), some (.int st), some (.int lo)] _
    have e4 : Pm.bin (on2I iSub) (loc 4) (Pm.bin hMulT (loc 2) (loc 5)) = Pm.bin (on2I iSub) (loc 4) (Pm.bin hMulT (loc 2) (loc 5)) := rfl
    refine wp_seq fun K k1 k2 k3 k4 => ?_
    refine Wp.of (setA_new rfl rfl rfl (by decide) rfl (by decide)) (k1 _ ?_)
    clear k1 k2 k3 k4 K
    refine wp_seq fun K k1 k2 k3 k4 => ?_
    refine Wp.of (setA_new rfl rfl rfl (by decide) rfl (by decide)) (k1 _ ?_)
    clear k1 k2 k3 k4 K
    refine wp_seq fun K k1 k2 k3 k4 => ?_
    refine Wp.of (setA_new rfl rfl rfl (by decide) rfl (by decide)) (k1 _ ?_)
    clear k1 k2 k3 k4 K
    refine wp_seq fun K k1 k2 k3 k4 => ?_
    refine Wp.of (setA_int (fs := ["mark", "first_use", "uses"]) (xs := [sg c, .int (fu : Int), .int (us : Int)]) (k := st - fu * lo) ?_ rfl (by decide) rfl (by decide)) (k1 _ ?_)
    · generalize hMulT = HM at *
      simp [mkF, reFrz, seq, Pm.ite, rtn, mov, asg, drp, sNx, bnd, Pm.bin, Pm.un, app, aCons, aNil, idx, loc, con, Pm.ret, peek1, peeks, itemOf, on2I, iAdd, iSub, iGt, iGe, iLt, iLe, iDiv, iMod, use1, useL, gI, gN, tst, andT, orT, notT, andE, orE, notE, ifE, ixN, D.frz, D.plain, plainL, argsBack, opLen, opAbs, opInt1, opNeg, disp, cap, callF, takes, puts, selA, sel, aApp, par, gT, gsC, gs0, appF, opDivmod, frzL, plainL, m1]
    clear k1 k2 k3 k4 K
    refine Wp.of (setA_int (fs := ["mark", "first_use", "uses", "first_strength"]) (xs := [sg c, .int (fu : Int), .int (us : Int), .int (st - fu * lo)]) (k := us * lo) ?_ rfl (by decide) rfl (by decide)) ?_
    · generalize hMulT = HM at *
      simp [mkF, reFrz, seq, Pm.ite, rtn, mov, asg, drp, sNx, bnd, Pm.bin, Pm.un, app, aCons, aNil, idx, loc, con, Pm.ret, peek1, peeks, itemOf, on2I, iAdd, iSub, iGt, iGe, iLt, iLe, iDiv, iMod, use1, useL, gI, gN, tst, andT, orT, notT, andE, orE, notE, ifE, ixN, D.frz, D.plain, plainL, argsBack, opLen, opAbs, opInt1, opNeg, disp, cap, callF, takes, puts, selA, sel, aApp, par, gT, gsC, gs0, appF, opDivmod, frzL, plainL, m2]
    · exact ⟨_, rfl, rfl, rfl⟩
  obtain ⟨d, as, e, rfl, rfl⟩ := hw
  exact e
end Rp
namespace Rp
open PySem PySem.Spec PyProof.Rows L2 Pm
open Pg (sg rowD tabD abc_T rows_plain tabD_plain tabD_frz dr divS ABC get_sg perm_erase erase_map sorted_sg sgs_plain ix_nat mem_at tab_src join_sg)
open TL (numL joinL)
open Sc (Rws RowT)
def keyR (c : Nat) : Key := .inr (T [c])
def keysT (t : List RowT) : List Key := t.map fun r => keyR r.1
def valsT (t : List RowT) : List D := t.map fun r => .tup [.int r.2.1, .int r.2.2]
theorem keyR_inj {a b : Nat} (h : keyR a = keyR b) : a = b := by
  have h1 : T [a] = T [b] := by
    injection h
  have h2 := T_inj h1
  simpa using h2
theorem putKs_new {ks : List Key} {k : Key} (h : k ∉ ks) : putKs ks k = ks ++ [k] := by
  unfold putKs
  rw [if_neg]
  simp only [List.any_eq_true, decide_eq_true_eq, not_exists, not_and]
  exact fun x hx e => h (by rw [← e]; exact hx)
theorem putL_new {ks : List Key} {xs : List D} {k : Key} {d : D} (h : k ∉ ks) : putL ks xs k d = xs ++ [d] := by
  unfold putL
  rw [if_neg]
  simp only [List.any_eq_true, decide_eq_true_eq, not_exists, not_and]
  exact fun x hx e => h (by rw [← e]; exact hx)
theorem dc_rows {TD : D} {x1 : Option D} : ∀ (s p : List RowT), (keysT (p ++ s)).Nodup → (p ++ s).length ≤ 1000 →
    dcIt [5, 6, 7] (gT (gsC (gN 5) (gsC (gN 6) (gsC (gN 7) gs0))) 3) yesT (loc 5) (frzE (disp false .tup (aCons (loc 6) (aCons (loc 7) aNil)))) (s.map rowD) [some TD, x1, none, none, none, none, none, none] (keysT p) (valsT p) = .ok (keysT (p ++ s), valsT (p ++ s)) [some TD, x1, none, none, none, none, none, none]
  | [], p, _, _ => by simp [dcIt]
  | r :: s, p, nd, hl => by
    have nk : keyR r.1 ∉ keysT p := fun h => by
      unfold keysT at nd h
      rw [List.map_append, List.map_cons] at nd
      exact (List.nodup_append.mp nd).2.2 _ h _ List.mem_cons_self rfl
    have e : p ++ r :: s = (p ++ [r]) ++ s := by simp
    have ih := dc_rows (TD := TD) (x1 := x1) s (p ++ [r]) (by rw [← e]; exact nd) (by rw [← e]; exact hl)
    have hc : (keysT p).length < cap := by
      rw [keysT, List.length_map]
      rw [List.length_append] at hl
      show _ < 1000000
      omega
    have e1 : keysT (p ++ [r]) = keysT p ++ [keyR r.1] := by simp [keysT]
    have e2 : valsT (p ++ [r]) = valsT p ++ [.tup [.int r.2.1, .int r.2.2]] := by simp [valsT]
    rw [e1, e2] at ih
    rw [e, List.map_cons]
    have g1 : gT (gsC (gN 5) (gsC (gN 6) (gsC (gN 7) gs0))) 3 (rowD r) [some TD, x1, none, none, none, none, none, none] = .ok () [some TD, x1, none, none, none, some (sg r.1), some (.int r.2.1), some (.int r.2.2)] := rfl
    have g2 : frzE (disp false .tup (aCons (loc 6) (aCons (loc 7) aNil))) [some TD, x1, none, none, none, some (sg r.1), some (.int r.2.1), some (.int r.2.2)] = .ok (.val (.tup [.int r.2.1, .int r.2.2])) [some TD, x1, none, none, none, some (sg r.1), some (.int r.2.1), some (.int r.2.2)] := rfl
    have g3 : (peek1 [some TD, x1, none, none, none, some (sg r.1), some (.int r.2.1), some (.int r.2.2)] (.ref 5)).bind keyOf = some (keyR r.1) := rfl
    have g4 : loc 5 [some TD, x1, none, none, none, some (sg r.1), some (.int r.2.1), some (.int r.2.2)] = .ok (.ref 5) [some TD, x1, none, none, none, some (sg r.1), some (.int r.2.1), some (.int r.2.2)] := rfl
    unfold dcIt
    simp only [g1, g2, g3, g4]
    have g5 : yesT [some TD, x1, none, none, none, some (sg r.1), some (.int r.2.1), some (.int r.2.2)] = .ok true [some TD, x1, none, none, none, some (sg r.1), some (.int r.2.1), some (.int r.2.2)] := rfl
    simp only [g5, g4, g3, g2]
    have g6 : peek1 [some TD, x1, none, none, none, some (sg r.1), some (.int r.2.1), some (.int r.2.2)] (.val (.tup [.int r.2.1, .int r.2.2])) = some (.tup [.int r.2.1, .int r.2.2]) := rfl
    simp only [g6]
    rw [if_pos ⟨rfl, hc⟩, putKs_new nk, putL_new nk]
    exact ih
theorem keys_nd {t : List RowT} (ht : Rws t) : (keysT t).Nodup := by
  have e : keysT t = (lets t).map keyR := by simp [keysT, lets]
  rw [e]
  have hp : (lets t).Pairwise (· < ·) := ht.asc
  refine List.Pairwise.map keyR (fun a b h q => ?_) hp
  have := keyR_inj q
  omega
theorem dict_ok {t : List RowT} (ht : Rws t) {x1 : Option D} :
    dcomp [5, 6, 7] (srcA (loc 0)) (gT (gsC (gN 5) (gsC (gN 6) (gsC (gN 7) gs0))) 3) yesT (loc 5) (frzE (disp false .tup (aCons (loc 6) (aCons (loc 7) aNil)))) [some (tabD t), x1, none, none, none, none, none, none]
      = .ok (.val (.node true (.dct (keysT t)) (valsT t))) [some (tabD t), x1, none, none, none, none, none, none] := by
  have hs : srcA (loc 0) [some (tabD t), x1, none, none, none, none, none, none] = .ok (t.map rowD) [some (tabD t), x1, none, none, none, none, none, none] := tab_src rfl rfl
  have h := dc_rows (TD := tabD t) (x1 := x1) t [] (by simpa using keys_nd ht) (by have := ht.n6; simp; omega)
  unfold dcomp
  simp only [bnd, hs]
  show (match dcIt [5, 6, 7] (gT (gsC (gN 5) (gsC (gN 6) (gsC (gN 7) gs0))) 3) yesT (loc 5) (frzE (disp false .tup (aCons (loc 6) (aCons (loc 7) aNil)))) (t.map rowD) [some (tabD t), x1, none, none, none, none, none, none] (keysT []) (valsT []) with
    | .ok (ks, xs) ρ' => Res.ok (EV.val (.node true (.dct ks) xs)) (backE _ ρ' [5, 6, 7])
    | _ => .stuck) = _
  rw [h]
  rfl
end Rp
namespace Pg
open PySem PySem.Spec PyProof.Rows L2 Pm
end Pg
namespace Pg
open PySem PySem.Spec PyProof.Rows L2 Pm
end Pg
namespace Pg
open PySem PySem.Spec PyProof.Rows L2 Pm
end Pg
namespace Pg
open PySem PySem.Spec PyProof.Rows L2 Pm
end Pg
namespace Tr
/-- l and r tell the children of all operators of the tree -/
def Al (L R : Nat → Option Nat) : LT → Prop
  | .leaf => True
  | .node l k r => L k = l.root ∧ R k = r.root ∧ Al L R l ∧ Al L R r
end Tr
set_option maxHeartbeats 1000000
namespace Pg
open PySem PySem.Spec PyProof.Rows L2 Pm
end Pg
namespace Pm
open PySem PySem.Spec PyProof.Rows L2
section
variable {K : PySem.W.Frag} {mg : Str → Option Value} {W : WX} {Z H : Hp} {S : Fp} {σ : Sl} {X : Cx} {p : Addr}
abbrev prs (K : PySem.W.Frag) (mg : Str → Option Value) (W : WX) (q : List (Key × M EV)) : List (TE × TE) := q.map fun kv => (tC (kV kv.1), tE K mg W kv.2)
end
end Pm
set_option maxHeartbeats 1000000
namespace Pm
open PySem PySem.Spec PyProof.Rows L2
def deckD (ns : List Int) (p l : Int) : D := .node true (.dct [.inr "cells", .inr "next", .inr "rest"]) [.node false .lst (ns.map D.int), .int p, .int l]
def Dk (ns : List Int) (a : Int) (z : D) : Prop := ∃ p l, z = deckD ns p l ∧ 0 ≤ p ∧ p ≤ a ∧ 0 ≤ l
theorem Dk.mono {ns : List Int} {a b : Int} {z : D} (h : Dk ns a z) (hl : a ≤ b) : Dk ns b z := by
  obtain ⟨p, l, rfl, h1, h2, h3⟩ := h
  exact ⟨p, l, rfl, h1, by omega, h3⟩
end Pm
set_option maxHeartbeats 1000000
namespace Pg
open PySem PySem.Spec PyProof.Rows L2 Pm
/-- what waits, from the top on -/
def rest (W : List (Nat × Tr.LT)) : List Nat := W.reverse.flatMap fun q => q.1 :: q.2.lab
structure Ok (T : Tr.LT) (n : Nat) (X : Tr.LT) : Prop where
  al : Tr.Al (Tr.leftOf T) (Tr.rightOf T) X
  lt : ∀ y ∈ X.lab, y < n
end Pg
set_option maxHeartbeats 1000000
namespace Pg
open PySem PySem.Spec PyProof.Rows L2 Pm
end Pg
namespace Pm
open PySem PySem.Spec PyProof.Rows L2
end Pm
set_option maxHeartbeats 1000000
namespace Pm
open PySem PySem.Spec PyProof.Rows L2 RZ
open PySem.Sem (wp)
end Pm
set_option maxHeartbeats 1000000
namespace Pm
open PySem PySem.Spec PyProof.Rows L2 RZ
open PySem.Sem (wp)
end Pm
namespace Pm
open PySem PySem.Spec PyProof.Rows L2
end Pm
set_option maxHeartbeats 1000000
namespace Pg
open PySem PySem.Spec PyProof.Rows L2 Pm
end Pg
namespace Ex
abbrev PP := List (Nat × Nat)
mutual
/-- the pairs by their opening signs -/
def Op.pr : Op → Nat → PP
  | .dot, _ => []
  | .par e, i => (i, i + 1 + e.text.length) :: E.pr e (i + 1)
def E.pr : E → Nat → PP
  | .one o, i => Op.pr o i
  | .cons o _ e, i => Op.pr o i ++ E.pr e (i + o.text.length + 1)
end
end Ex
set_option maxHeartbeats 1000000
namespace Pg
open PySem PySem.Spec PyProof.Rows L2 Pm
theorem enumS_T (l : List Nat) : enumS (Pm.T l) = l.zipIdx.map fun p => D.tup [.int (p.2 : Int), sg p.1] := rfl
end Pg
namespace Rp
open PySem PySem.Spec PyProof.Rows L2 Pm
open Pg (sg rowD tabD abc_T rows_plain tabD_plain tabD_frz dr divS ABC get_sg perm_erase erase_map sorted_sg sgs_plain ix_nat mem_at tab_src join_sg cnt_T take_T)
open TL (numL joinL)
open Sc (Rws RowT)
def rowOf (t : List RowT) (c : Nat) : RowT := (t.find? fun r => r.1 == c).getD (0, 0, 0)
theorem get_row : ∀ {t : List RowT} {c : Nat}, c ∈ lets t → getL (keysT t) (valsT t) (keyR c) = some (.tup [.int (rowOf t c).2.1, .int (rowOf t c).2.2])
  | [], c, h => by simp [lets] at h
  | r :: t, c, h => by
    by_cases e : r.1 = c
    · subst e
      simp [keysT, valsT, getL, rowOf]
    · have h2 : c ∈ lets t := by
        simp only [lets, List.map_cons, List.mem_cons] at h
        rcases h with h | h
        · exact absurd h.symm e
        · exact h
      have ne : ¬ keyR r.1 = keyR c := fun q => e (keyR_inj q)
      have ih := get_row h2
      unfold keysT valsT at ih ⊢
      rw [List.map_cons, List.map_cons, getL, if_neg ne, ih]
      have : (r.1 == c) = false := by simpa using e
      simp [rowOf, List.find?_cons, this]
theorem row_mem {t : List RowT} {c : Nat} (h : c ∈ lets t) : rowOf t c ∈ t := by
  unfold rowOf lets at *
  obtain ⟨r, hr, e⟩ := List.mem_map.mp h
  cases hf : t.find? fun r => r.1 == c with
  | none =>
    have := List.find?_eq_none.mp hf r hr
    simp [e] at this
  | some q => exact List.mem_of_find?_eq_some hf
theorem in_row {t : List RowT} {c : Nat} (h : c ∈ lets t) : opDIn true [sg c, .node true (.dct (keysT t)) (valsT t)] = some (.bl false) := by
  have hl : (keysT t).length = (valsT t).length := by simp [keysT, valsT]
  have ha : ((keysT t).any fun k' => decide (k' = keyR c)) = true := by
    obtain ⟨r, hr, e⟩ := List.mem_map.mp h
    rw [List.any_eq_true]
    exact ⟨keyR r.1, List.mem_map_of_mem hr, by rw [e]; simp⟩
  show (if (keysT t).length = (valsT t).length then some (D.bl (if true = true then !((keysT t).any fun k' => decide (k' = keyR c)) else _)) else none) = _
  rw [if_pos hl, ha]
  rfl
theorem dget_row {t : List RowT} {c : Nat} (h : c ∈ lets t) : opDGet [.node true (.dct (keysT t)) (valsT t), sg c] = some (.tup [.int (rowOf t c).2.1, .int (rowOf t c).2.2]) := by
  show (match getL (keysT t) (valsT t) (keyR c) with
    | some d => if d.plain then some d else none
    | none => none) = _
  rw [get_row h]
  rfl
def placeD (b : Bool) (t : List RowT) (l : List Nat) (i c : Nat) : D := plD b c ((l.take i).count c) (l.count c) (rowOf t c).2.1 (rowOf t c).2.2
theorem place_step {t : List RowT} {l : List Nat} {i c : Nat} {acc : List D} {x6 x7 : Option D} (ht : Rws t) (hl : l.length ≤ 1000) (hc : c ∈ lets t) (ha : acc.length ≤ 1000) :
    Wp b_places_of_1 [some (tabD t), some (.str (T l)), some (.node true (.dct (keysT t)) (valsT t)), some (.node true .lst acc), some (.int (i : Int)), some (sg c), x6, x7] fun f ρ' => f = .nx ∧
      ρ' = [some (tabD t), some (.str (T l)), some (.node true (.dct (keysT t)) (valsT t)), some (.node true .lst (acc ++ [placeD true t l i c])), some (.int (i : Int)), some (sg c), some (.int (rowOf t c).2.1), some (.int (rowOf t c).2.2)] := by
  have h1 := in_row hc
  have h2 := dget_row hc
  have hn := ht.num _ (row_mem hc)
  have k1 : (l.take i).count c ≤ 1000 := Nat.le_trans List.count_le_length (by rw [List.length_take]; omega)
  have k2 : l.count c ≤ 1000 := Nat.le_trans List.count_le_length hl
  have h3 := place_ok (c := c) (fu := (l.take i).count c) (us := l.count c) (st := (rowOf t c).2.1) (lo := (rowOf t c).2.2) k1 k2 hn.2.2.1 hn.2.2.2
  have h4 := cnt_T (l.take i) c
  have h5 := cnt_T l c
  have h6 := take_T (l := l) (by show _ ≤ 1000000; omega) i
  have h7 : acc.length < cap := by show _ < 1000000; omega
  have tp := tabD_plain t
  unfold placeD
  have pf : (plD true c ((l.take i).count c) (l.count c) (rowOf t c).2.1 (rowOf t c).2.2).plain = false := rfl
  generalize plD true c ((l.take i).count c) (l.count c) (rowOf t c).2.1 (rowOf t c).2.2 = PL at *
  generalize (rowOf t c).2.1 = st at *
  generalize (rowOf t c).2.2 = lo at *
  generalize (l.take i).count c = fu at *
  generalize l.count c = us at *
  generalize tabD t = TD at *
  generalize keysT t = KS at *
  generalize valsT t = VS at *
  unfold b_places_of_1
  generalize x_Place____init__ = XP at *
  generalize opDIn true = DI at *
  generalize opDGet = DG at *
  generalize opCountS = OC at *
  refine wp_seq fun K k1 k2 k3 k4 => ?_
  simp [Wp, mkF, reFrz, seq, Pm.ite, rtn, mov, asg, drp, sNx, bnd, Pm.bin, Pm.un, app, aCons, aNil, idx, loc, con, Pm.ret, peek1, peeks, itemOf, on2I, iAdd, iSub, iGt, iGe, iLt, iLe, iDiv, iMod, use1, useL, gI, gN, tst, andT, orT, notT, andE, orE, notE, ifE, ixN, D.frz, D.plain, plainL, argsBack, opLen, opAbs, opInt1, opNeg, disp, cap, callF, takes, puts, selA, sel, aApp, par, gT, gsC, gs0, appF, opDivmod, frzL, plainL, h1]
  refine k1 _ ?_
  clear k1 k2 k3 k4 K
  refine wp_seq fun K k1 k2 k3 k4 => ?_
  simp [Wp, mkF, reFrz, seq, Pm.ite, rtn, mov, asg, drp, sNx, bnd, Pm.bin, Pm.un, app, aCons, aNil, idx, loc, con, Pm.ret, peek1, peeks, itemOf, on2I, iAdd, iSub, iGt, iGe, iLt, iLe, iDiv, iMod, use1, useL, gI, gN, tst, andT, orT, notT, andE, orE, notE, ifE, ixN, D.frz, D.plain, plainL, argsBack, opLen, opAbs, opInt1, opNeg, disp, cap, callF, takes, puts, selA, sel, aApp, par, gT, gsC, gs0, appF, opDivmod, frzL, plainL, h2]
  refine k1 _ ?_
  clear k1 k2 k3 k4 K
  simp [Wp, smet1, cut, makeC, mkF, reFrz, seq, Pm.ite, rtn, mov, asg, drp, sNx, bnd, Pm.bin, Pm.un, app, aCons, aNil, idx, loc, con, Pm.ret, peek1, peeks, itemOf, on2I, iAdd, iSub, iGt, iGe, iLt, iLe, iDiv, iMod, use1, useL, gI, gN, tst, andT, orT, notT, andE, orE, notE, ifE, ixN, D.frz, D.plain, plainL, argsBack, opLen, opAbs, opInt1, opNeg, disp, cap, callF, takes, puts, selA, sel, aApp, par, gT, gsC, gs0, appF, opDivmod, frzL, plainL, h3, h4, h5, h6, h7, appd, tp]
def placesD (b : Bool) (t : List RowT) (l : List Nat) : List D := l.zipIdx.map fun p => placeD b t l p.2 p.1
theorem places_ok {t : List RowT} {l : List Nat} (ht : Rws t) (hl : l.length ≤ 1000) (hin : ∀ c ∈ l, c ∈ lets t) : x_places_of [tabD t, .str (T l)] = .ret (.node true .lst (placesD true t l)) [tabD t, .str (T l)] := by
  have hw : Wf x_places_of [tabD t, .str (T l)] fun d as => d = .node true .lst (placesD true t l) ∧ as = [tabD t, .str (T l)] := by
    have e1 := dict_ok ht (x1 := some (.str (T l)))
    have tp := tabD_plain t
    unfold x_places_of
    refine wf_mkF ?_
    unfold b_places_of
    show Wp _ [some (tabD t), some (.str (T l)), none, none, none, none, none, none] _
    refine wp_seq fun K k1 k2 k3 k4 => ?_
    refine Wp.of (asg_val e1 (by show 2 < 8; decide)) (k1 _ ?_)
    clear k1 k2 k3 k4 K
    show Wp _ [some (tabD t), some (.str (T l)), some (.node true (.dct (keysT t)) (valsT t)), none, none, none, none, none] _
    refine wp_seq fun K k1 k2 k3 k4 => ?_
    refine Wp.of (a := .nx) (ρ' := [some (tabD t), some (.str (T l)), some (.node true (.dct (keysT t)) (valsT t)), some (.node true .lst []), none, none, none, none]) rfl (k1 _ ?_)
    clear k1 k2 k3 k4 K
    refine wp_seq fun K k1 k2 k3 k4 => ?_
    have hs : srcEnumS (loc 1) [some (tabD t), some (.str (T l)), some (.node true (.dct (keysT t)) (valsT t)), some (.node true .lst []), none, none, none, none] = .ok (l.zipIdx.map fun p => D.tup [.int (p.2 : Int), sg p.1]) [some (tabD t), some (.str (T l)), some (.node true (.dct (keysT t)) (valsT t)), some (.node true .lst []), none, none, none, none] := by
      rw [← Pg.enumS_T]
      rfl
    refine wp_for hs (fun j ρ => ∃ x4 x5 x6 x7 : Option D, ρ = [some (tabD t), some (.str (T l)), some (.node true (.dct (keysT t)) (valsT t)), some (.node true .lst ((placesD true t l).take j)), x4, x5, x6, x7]) ⟨none, none, none, none, rfl⟩ ?_ ?_
    · rintro j d ρ hd ⟨x4, x5, x6, x7, rfl⟩
      have hj : j < l.length := by
        have := (List.getElem?_eq_some_iff.mp hd).1
        simpa using this
      have hd' : d = D.tup [.int (j : Int), sg l[j]] := by
        rw [List.getElem?_map, List.getElem?_zipIdx, List.getElem?_eq_getElem hj] at hd
        simpa using hd.symm
      subst hd'
      refine ⟨[some (tabD t), some (.str (T l)), some (.node true (.dct (keysT t)) (valsT t)), some (.node true .lst ((placesD true t l).take j)), some (.int (j : Int)), some (sg l[j]), x6, x7], rfl, ?_⟩
      refine (place_step ht hl (hin _ (List.getElem_mem hj)) (by rw [List.length_take]; omega)).mono ?_
      rintro f ρ' ⟨rfl, rfl⟩
      refine ⟨some (.int (j : Int)), some (sg l[j]), some (.int (rowOf t l[j]).2.1), some (.int (rowOf t l[j]).2.2), ?_⟩
      have hp : (placesD true t l)[j]? = some (placeD true t l j l[j]) := by
        unfold placesD
        rw [List.getElem?_map, List.getElem?_zipIdx, List.getElem?_eq_getElem hj]
        simp
      rw [List.take_add_one, hp]
      rfl
    · rintro ρ ⟨x4, x5, x6, x7, rfl⟩
      refine k1 _ ?_
      clear k1 k2 k3 k4 K
      rw [List.take_of_length_le (by simp [placesD])]
      generalize placesD true t l = PL at *
      generalize tabD t = TD at *
      refine wp_end fun K k1 k2 k3 k4 => ?_
      simp [Wp, mkF, reFrz, seq, Pm.ite, rtn, mov, asg, drp, sNx, bnd, Pm.bin, Pm.un, app, aCons, aNil, idx, loc, con, Pm.ret, peek1, peeks, itemOf, on2I, iAdd, iSub, iGt, iGe, iLt, iLe, iDiv, iMod, use1, useL, gI, gN, tst, andT, orT, notT, andE, orE, notE, ifE, ixN, D.frz, D.plain, plainL, argsBack, opLen, opAbs, opInt1, opNeg, disp, cap, callF, takes, puts, selA, sel, aApp, par, gT, gsC, gs0, appF, opDivmod, frzL, plainL]
      refine k2 _ _ ⟨[TD, .str (T l)], by simp [argsBack, reFrz, tp, D.plain], rfl, rfl⟩
  obtain ⟨d, as, e, rfl, rfl⟩ := hw
  exact e
end Rp
namespace Rp
open PySem PySem.Spec PyProof.Rows L2 Pm
open Pg (sg rowD tabD abc_T rows_plain tabD_plain tabD_frz dr divS ABC get_sg)
open Sc (Rws RowT)
end Rp
set_option maxHeartbeats 1000000
namespace Pm
open PySem PySem.Spec PyProof.Rows L2
end Pm
set_option maxHeartbeats 2000000
namespace Pm
open PySem PySem.Spec PyProof.Rows L2
end Pm
namespace Rp
open PySem PySem.Spec PyProof.Rows L2 Pm
open Pg (sg rowD tabD abc_T rows_plain tabD_plain tabD_frz dr divS ABC get_sg x_is_integer x_is_between between_i between_ok btwB Fi)
open Sc (Rws RowT)
noncomputable def b_Repeated__table__set : M Fl := (seq (setA 0 "Repeated" "places" (frzE (callF x_places_of (aCons (loc 1) (aCons (fldE "Repeated" "pattern" (loc 0)) aNil)))))
    (setA 0 "Repeated" "origin" (loc 1)))
noncomputable def x_Repeated__table__set : FSem := mkF 2 2 [] b_Repeated__table__set
noncomputable def b_Repeated__times__set : M Fl := (seq (Pm.ite (notT (tst (callF x_is_between (aCons (loc 1) (aCons (con (.int 1)) (aCons (callF (conS 1000000000000000000000000000000) (aCons (chk "Repeated" "MOST_TIMES" (loc 0)) aNil)) aNil)))))) (raise1 "InvalidTimes" "value" (loc 1)) sNx)
    (setA 0 "Repeated" "repetitions" (loc 1)))
noncomputable def x_Repeated__times__set : FSem := mkF 2 2 [] b_Repeated__times__set
noncomputable def b_Repeated____init__ : M Fl := (seq (setA 0 "Repeated" "pattern" (loc 2))
    (seq (setP 0 "Repeated" "table" x_Repeated__table__set (loc 1))
    (setP 0 "Repeated" "times" x_Repeated__times__set (loc 3))))
noncomputable def x_Repeated____init__ : FSem := mkF 4 4 [] b_Repeated____init__
/-- a block that is repeated, as a thing -/
def repD (o : Bool) (t : List RowT) (l : List Nat) (n : Nat) : D := .node o (.ins "Repeated" ["pattern", "places", "origin", "repetitions"]) [.str (T l), .node false .lst (placesD false t l), tabD t, .int (n : Int)]
theorem places_frz (b : Bool) (t : List RowT) (l : List Nat) : frzL (placesD b t l) = placesD false t l := by
  rw [frzL_map, placesD, placesD, List.map_map]
  rfl
theorem fld_of {n f : Str} {fs : List Str} {xs : List D} {o : Bool} {d : D} {i : Nat} {ρ : Pm.Env} (h : ρ.getD i none = some (.node o (.ins n fs) xs)) (hl : (fs.zip xs).lookup f = some d) (hp : d.plain = true) : fldE n f (loc i) ρ = .ok (.val d) ρ := by
  unfold fldE
  have hc : loc i ρ = .ok (.ref i) ρ := by unfold loc; rw [h]
  simp only [bnd, hc, peek1, h, hl, hp]
  rfl
theorem chk_of {n m : Str} {fs : List Str} {xs : List D} {o : Bool} {i : Nat} {ρ : Pm.Env} (h : ρ.getD i none = some (.node o (.ins n fs) xs)) (hm : m ∉ fs) : chk n m (loc i) ρ = .ok (.ref i) ρ := by
  unfold chk
  have hc : loc i ρ = .ok (.ref i) ρ := by unfold loc; rw [h]
  simp only [bnd, hc, peek1, h]
  rw [if_pos ⟨trivial, hm⟩]
def rep1 (l : List Nat) : D := .node true (.ins "Repeated" ["pattern"]) [.str (T l)]
def rep2 (t : List RowT) (l : List Nat) : D := .node true (.ins "Repeated" ["pattern", "places"]) [.str (T l), .node false .lst (placesD false t l)]
def rep3 (t : List RowT) (l : List Nat) : D := .node true (.ins "Repeated" ["pattern", "places", "origin"]) [.str (T l), .node false .lst (placesD false t l), tabD t]
theorem tset_ok {t : List RowT} {l : List Nat} (ht : Rws t) (hl : l.length ≤ 1000) (hin : ∀ c ∈ l, c ∈ lets t) : x_Repeated__table__set [rep1 l, tabD t] = .ret .non [rep3 t l, tabD t] := by
  have hw : Wf x_Repeated__table__set [rep1 l, tabD t] fun d as => d = .non ∧ as = [rep3 t l, tabD t] := by
    have e1 := places_ok ht hl hin
    have f1 : fldE "Repeated" "pattern" (loc 0) [some (rep1 l), some (tabD t)] = .ok (.val (.str (T l))) [some (rep1 l), some (tabD t)] := fld_of (o := true) (fs := ["pattern"]) (xs := [.str (T l)]) rfl rfl rfl
    have tp := tabD_plain t
    have pf := places_frz true t l
    have h1 : frzE (callF x_places_of (aCons (loc 1) (aCons (fldE "Repeated" "pattern" (loc 0)) aNil))) [some (rep1 l), some (tabD t)] = .ok (.val (.node false .lst (placesD false t l))) [some (rep1 l), some (tabD t)] := by
      generalize rep1 l = R at *
      generalize tabD t = TD at *
      generalize x_places_of = XP at *
      generalize fldE "Repeated" "pattern" (loc 0) = F1 at *
      generalize placesD true t l = P1 at *
      generalize placesD false t l = P2 at *
      simp [frzE, mkF, reFrz, seq, Pm.ite, rtn, mov, asg, drp, sNx, bnd, Pm.bin, Pm.un, app, aCons, aNil, idx, loc, con, Pm.ret, peek1, peeks, itemOf, on2I, iAdd, iSub, iGt, iGe, iLt, iLe, iDiv, iMod, use1, useL, gI, gN, tst, andT, orT, notT, andE, orE, notE, ifE, ixN, D.frz, D.plain, plainL, argsBack, opLen, opAbs, opInt1, opNeg, disp, cap, callF, takes, puts, selA, sel, aApp, par, gT, gsC, gs0, appF, opDivmod, frzL, plainL, f1, e1, tp, pf]
    unfold x_Repeated__table__set
    refine wf_mkF ?_
    unfold b_Repeated__table__set
    show Wp _ [some (rep1 l), some (tabD t)] _
    refine wp_seq fun K k1 k2 k3 k4 => ?_
    refine Wp.of (setA_new h1 rfl rfl (by decide) rfl (by decide)) (k1 _ ?_)
    clear k1 k2 k3 k4 K
    have h2 : use1 (.ref 1) [some (rep2 t l), some (tabD t)] = .ok (tabD t) [some (rep2 t l), some (tabD t)] := by
      have tf := tabD_frz t
      simp [use1, tf]
    refine Wp.of (setA_new (fs := ["pattern", "places"]) (xs := [.str (T l), .node false .lst (placesD false t l)]) (fe := loc 1) (ev := .ref 1) (d := tabD t) (ρ1 := [some (rep2 t l), some (tabD t)]) (ρ2 := [some (rep2 t l), some (tabD t)]) rfl h2 rfl (by decide) rfl (by decide)) ?_
    refine ⟨[rep3 t l, tabD t], ?_, rfl, rfl⟩
    simp [argsBack, reFrz, tp]
    rfl
  obtain ⟨d, as, e, rfl, rfl⟩ := hw
  exact e
theorem times_ok {t : List RowT} {l : List Nat} {n : Nat} (h0 : 1 ≤ n) (h1 : n ≤ 10 ^ 30) : x_Repeated__times__set [rep3 t l, .int (n : Int)] = .ret .non [repD true t l n, .int (n : Int)] := by
  have hw : Wf x_Repeated__times__set [rep3 t l, .int (n : Int)] fun d as => d = .non ∧ as = [repD true t l n, .int (n : Int)] := by
    have e1 := between_i (n : Int) 1 1000000000000000000000000000000
    have hb : (10 : Nat) ^ 30 = 1000000000000000000000000000000 := by decide
    rw [decide_eq_true ⟨by omega, by omega⟩] at e1
    have f1 : chk "Repeated" "MOST_TIMES" (loc 0) [some (rep3 t l), some (.int (n : Int))] = .ok (.ref 0) [some (rep3 t l), some (.int (n : Int))] := chk_of (o := true) (fs := ["pattern", "places", "origin"]) (xs := [.str (T l), .node false .lst (placesD false t l), tabD t]) rfl (by decide +kernel)
    have pl : (rep3 t l).plain = false := rfl
    unfold x_Repeated__times__set
    refine wf_mkF ?_
    unfold b_Repeated__times__set
    show Wp _ [some (rep3 t l), some (.int (n : Int))] _
    refine wp_seq fun K k1 k2 k3 k4 => ?_
    have h1 : notT (tst (callF x_is_between (aCons (loc 1) (aCons (con (.int 1)) (aCons (callF (conS 1000000000000000000000000000000) (aCons (chk "Repeated" "MOST_TIMES" (loc 0)) aNil)) aNil))))) [some (rep3 t l), some (.int (n : Int))] = .ok false [some (rep3 t l), some (.int (n : Int))] := by
      generalize rep3 t l = R at *
      generalize chk "Repeated" "MOST_TIMES" (loc 0) = F1 at *
      generalize x_is_between = XB at *
      generalize (1000000000000000000000000000000 : Int) = MM at *
      generalize (n : Int) = nn at *
      simp [conS, mkF, reFrz, seq, Pm.ite, rtn, mov, asg, drp, sNx, bnd, Pm.bin, Pm.un, app, aCons, aNil, idx, loc, con, Pm.ret, peek1, peeks, itemOf, on2I, iAdd, iSub, iGt, iGe, iLt, iLe, iDiv, iMod, use1, useL, gI, gN, tst, andT, orT, notT, andE, orE, notE, ifE, ixN, D.frz, D.plain, plainL, argsBack, opLen, opAbs, opInt1, opNeg, disp, cap, callF, takes, puts, selA, sel, aApp, par, gT, gsC, gs0, appF, opDivmod, frzL, plainL, f1, pl, e1]
    refine wp_ite (Wp.of h1 ⟨fun q => (nomatch q), fun _ => ?_⟩)
    refine Wp.of (a := .nx) rfl (k1 _ ?_)
    clear k1 k2 k3 k4 K
    refine Wp.of (setA_new (fs := ["pattern", "places", "origin"]) (xs := [.str (T l), .node false .lst (placesD false t l), tabD t]) (fe := loc 1) (ev := .ref 1) (d := .int (n : Int)) (ρ1 := [some (rep3 t l), some (.int (n : Int))]) (ρ2 := [some (rep3 t l), some (.int (n : Int))]) rfl rfl rfl (by decide) rfl (by decide)) ?_
    exact ⟨[repD true t l n, .int (n : Int)], rfl, rfl, rfl⟩
  obtain ⟨d, as, e, rfl, rfl⟩ := hw
  exact e
theorem setP_ok {j : Nat} {n f : Str} {g : FSem} {fe : M EV} {ρ ρ' : Pm.Env} {i : Nat} {d d' : D} {fs : List Str} {xs : List D} (hf : fe ρ = .ok (.ref i) ρ) (h : ρ.getD j none = some (.node true (.ins n fs) xs)) (nf : f ∉ fs) (hj : j ≠ i) (hi : ρ.getD i none = some d) (hd : d.plain = true) (hg : g [.node true (.ins n fs) xs, d] = .ret .non [d', d]) (he : ρ' = ρ.set j (some d')) :
    setP j n f g fe ρ = .ok .nx ρ' := by
  have hi2 : (ρ.set j none).getD i none = some d := by
    rw [List.getD_eq_getElem?_getD, List.getElem?_set_ne hj, ← List.getD_eq_getElem?_getD]
    exact hi
  have hA : setPA j n f fe ρ = .ok [.ref j, .ref i] ρ := by
    unfold setPA
    simp only [hf, h]
    rw [if_pos ⟨trivial, nf⟩]
  have np : (D.node true (.ins n fs) xs).plain = false := by simp [D.plain]
  unfold setP
  simp only [drp, callF, bnd, hA, takes, h, np, hi2, hd, hg, puts, if_true, Bool.false_eq_true, if_false]
  rw [he, List.set_set]
  rfl
theorem init_ok {t : List RowT} {l : List Nat} {n : Nat} (ht : Rws t) (hl : l.length ≤ 1000) (hin : ∀ c ∈ l, c ∈ lets t) (h0 : 1 ≤ n) (h1 : n ≤ 10 ^ 30) :
    x_Repeated____init__ [.node true (.ins "Repeated" []) [], tabD t, .str (T l), .int (n : Int)] = .ret .non [repD true t l n, tabD t, .str (T l), .int (n : Int)] := by
  have hw : Wf x_Repeated____init__ [.node true (.ins "Repeated" []) [], tabD t, .str (T l), .int (n : Int)] fun d as => d = .non ∧ as = [repD true t l n, tabD t, .str (T l), .int (n : Int)] := by
    have tp := tabD_plain t
    unfold x_Repeated____init__
    refine wf_mkF ?_
    unfold b_Repeated____init__
    show Wp _ [some (.node true (.ins "Repeated" []) []), some (tabD t), some (.str (T l)), some (.int (n : Int))] _
    refine wp_seq fun K k1 k2 k3 k4 => ?_
    refine Wp.of (setA_new (fs := []) (xs := []) (fe := loc 2) (ev := .ref 2) (d := .str (T l)) rfl rfl rfl (by decide) rfl (by decide)) (k1 _ ?_)
    clear k1 k2 k3 k4 K
    refine wp_seq fun K k1 k2 k3 k4 => ?_
    refine Wp.of (setP_ok (d := tabD t) (d' := rep3 t l) (fs := ["pattern"]) (xs := [.str (T l)]) (ρ := [some (rep1 l), some (tabD t), some (.str (T l)), some (.int (n : Int))]) (ρ' := [some (rep3 t l), some (tabD t), some (.str (T l)), some (.int (n : Int))]) rfl rfl (by decide +kernel) (by decide) rfl tp (tset_ok ht hl hin) rfl) (k1 _ ?_)
    clear k1 k2 k3 k4 K
    refine Wp.of (setP_ok (d := .int (n : Int)) (d' := repD true t l n) (fs := ["pattern", "places", "origin"]) (xs := [.str (T l), .node false .lst (placesD false t l), tabD t]) (ρ := [some (rep3 t l), some (tabD t), some (.str (T l)), some (.int (n : Int))]) (ρ' := [some (repD true t l n), some (tabD t), some (.str (T l)), some (.int (n : Int))]) rfl rfl (by decide +kernel) (by decide) rfl rfl (times_ok h0 h1) rfl) ?_
    refine ⟨[repD true t l n, tabD t, .str (T l), .int (n : Int)], ?_, rfl, rfl⟩
    simp [argsBack, reFrz, tp, D.plain]
  obtain ⟨d, as, e, rfl, rfl⟩ := hw
  exact e
end Rp
namespace Rp
open PySem PySem.Spec PyProof.Rows L2 Pm
open Pg (sg rowD tabD abc_T rows_plain tabD_plain tabD_frz dr divS ABC get_sg x_is_integer x_is_between between_i between_ok btwB Fi ix_nat)
open Sc (Rws RowT)
end Rp
namespace Rp
open PySem PySem.Spec PyProof.Rows L2 Pm
open Pg (sg rowD tabD abc_T rows_plain tabD_plain tabD_frz dr divS ABC get_sg x_is_integer x_is_between between_i between_ok btwB Fi ix_nat)
open Sc (Rws RowT)
end Rp
set_option maxHeartbeats 1000000
namespace Pg
open PySem PySem.Spec PyProof.Rows L2 Pm
end Pg
set_option maxHeartbeats 1000000
namespace Pg
open PySem PySem.Spec PyProof.Rows L2 Pm
end Pg
set_option maxHeartbeats 1000000
namespace Pg
open PySem PySem.Spec PyProof.Rows L2 Pm
end Pg
namespace Rp
open PySem PySem.Spec PyProof.Rows L2 Pm
open Pg (sg rowD tabD abc_T rows_plain tabD_plain tabD_frz dr divS ABC get_sg ix_nat cnt_T take_T tab_src)
open Sc (Rws RowT)
def isL (c : Nat) : D → Bool
  | .node _ _ (.str s :: _) => s == T [c]
  | _ => false
end Rp
namespace Rp
open PySem PySem.Spec PyProof.Rows L2 Pm
open Pg (sg rowD tabD abc_T rows_plain tabD_plain tabD_frz dr divS ABC get_sg ix_nat cnt_T take_T tab_src Fi btwB)
open Sc (Rws RowT)
end Rp
namespace Sc
open PySem PySem.Spec PyProof.Rows L2 Pm
open Pg (sg rowD tabD)
open TL (numL joinL)
end Sc
namespace Sc
open PySem PySem.Spec PyProof.Rows L2 Pm
open Pg (sg)
end Sc
namespace Sc
open PySem PySem.Spec PyProof.Rows L2 Pm
open Pg (sg x_is_between abc_T)
open TL (numL numL_digits numL_val numL_ne numL_lt numL_step joinL)
noncomputable def t_Scanner__take_times_1 : M Bool := (tst (callF x_Scanner__sees (aCons (chk "Scanner" "sees" (loc 0)) (aCons (con (.str "0123456789")) aNil))))
noncomputable def b_Scanner__take_times_1 : M Fl := (asg (Pm.bin gAdd (loc 1) (callF x_Scanner__take (aCons (chk "Scanner" "take" (loc 0)) (aCons (con (.str "0123456789")) aNil)))) (gN 1))
noncomputable def b_Scanner__take_times : M Fl := (seq (asg (callF x_Scanner__take (aCons (chk "Scanner" "take" (loc 0)) (aCons (con (.str "123456789")) aNil))) (gN 1))
    (seq (Pm.ite (tst (Pm.bin opEq (loc 1) (con (.str "1")))) (asg (Pm.bin gAdd (loc 1) (callF x_Scanner__take (aCons (chk "Scanner" "take" (loc 0)) (aCons (con (.str "0123456789")) aNil)))) (gN 1)) sNx)
    (seq (whl t_Scanner__take_times_1 b_Scanner__take_times_1)
    (rtn (app opInt (aCons (loc 1) aNil))))))
noncomputable def x_Scanner__take_times : FSem := mkF 1 2 [] b_Scanner__take_times
theorem lit1 : (("1" : String) : Str) = T [49] := lit rfl
section
variable {src : List Nat} {k : Nat}
theorem eq_TT (a b : List Nat) : opEq [.str (T a), .str (T b)] = some (.bl (decide (a = b))) := by
  rw [eq_ss]
  by_cases h : a = b
  · rw [h, decide_eq_true rfl]; simp
  · have : (T a == T b) = false := beq_eq_false_iff_ne.mpr fun e => h (T_inj e)
    rw [this, decide_eq_false h]
theorem times_ok {c : Nat} (hl : src.length ≤ 1000000) (hc : src[k]? = some c) (h1 : 49 ≤ c) (h2 : c ≤ 57) (hr : (run src (k + 1)).length < 600) (hn : c = 49 → run src (k + 1) ≠ []) :
    x_Scanner__take_times [scD src k] = .ret (.int ((NumText.digitsVal (c :: run src (k + 1)) : Nat) : Int)) [scD src (k + 1 + (run src (k + 1)).length)] := by
  have hlt := (List.getElem?_eq_some_iff.mp hc).1
  have hrl : k + 1 + (run src (k + 1)).length ≤ src.length := by
    rcases run_len (src := src) (k := k + 1) with h | h
    · exact h
    · omega
  generalize hN : ((NumText.digitsVal (c :: run src (k + 1)) : Nat) : Int) = N
  have oi : opInt [.str (T (c :: run src (k + 1)))] = some (.int N) := by
    show (if (T (c :: run src (k + 1))).length ≤ 640 then (PySem.intText? (T (c :: run src (k + 1)))).map D.int else none) = _
    have ad : NumText.AllDigits (T (c :: run src (k + 1))).cps.toList := by
      intro x hx
      have hx : x ∈ c :: run src (k + 1) := hx
      rcases List.mem_cons.mp hx with rfl | hx
      · omega
      · have h3 := List.all_takeWhile (p := isDg) (l := src.drop (k + 1))
        rw [List.all_eq_true] at h3
        exact isDg_iff.mp (h3 x hx)
    have := intText_digits ad (by show c :: run src (k + 1) ≠ []; simp) (by rw [T_len, List.length_cons]; omega)
    rw [T_len, List.length_cons, if_pos (by omega), this]
    show some (D.int ((NumText.digitsVal (c :: run src (k + 1)) : Nat) : Int)) = _
    rw [hN]
  have gat : ∀ (j d : Nat), (run src (k + 1))[j]? = some d → j < (run src (k + 1)).length → gAdd [.str (T (c :: (run src (k + 1)).take j)), .str (T [d])] = some (.str (T (c :: (run src (k + 1)).take (j + 1)))) := fun j d e2 hj => by
    have hlen : (c :: (run src (k + 1)).take j).length + [d].length ≤ 1000000 := by
      rw [List.length_cons, List.length_take]
      simp
      omega
    show (if (T (c :: (run src (k + 1)).take j)).length + (T [d]).length ≤ 1000000 then some (D.str (T (c :: (run src (k + 1)).take j) ++ T [d])) else none) = _
    rw [T_len, T_len, if_pos hlen, T_app, List.take_add_one, e2]
    rfl
  have hw : Wf x_Scanner__take_times [scD src k] fun d as => d = .int N ∧ as = [scD src (k + 1 + (run src (k + 1)).length)] := by
    have f3 := fun k ρ => chk_ok (src := src) (k := k) (i := 0) (ρ := some (scD src k) :: ρ) m2 rfl
    have f4 := fun k ρ => chk_ok (src := src) (k := k) (i := 0) (ρ := some (scD src k) :: ρ) m3 rfl
    have tk := take_ok (cs := NZ) hl hc (by simp [NZ]; omega)
    have pl := fun k => scD_pl src k
    have fin : Pm.Fin [] [scD src k] (fun d as => d = .int N ∧ as = [scD src (k + 1 + (run src (k + 1)).length)]) (.rt (.int N)) [some (scD src (k + 1 + (run src (k + 1)).length)), some (.str (T (c :: run src (k + 1))))] := ⟨[scD src (k + 1 + (run src (k + 1)).length)], by simp [argsBack, reFrz, pl], rfl, rfl⟩
    unfold x_Scanner__take_times
    refine wf_mkF ?_
    unfold b_Scanner__take_times t_Scanner__take_times_1 b_Scanner__take_times_1
    rw [lit1, litn, litd]
    show Wp _ [some (scD src k), none] _
    generalize (fun (d : D) (as : List D) => d = .int N ∧ as = [scD src (k + 1 + (run src (k + 1)).length)]) = QQ at *
    refine wp_seq fun K k1 k2 k3 k4 => ?_
    have s2 : asg (callF x_Scanner__take (aCons (chk "Scanner" "take" (loc 0)) (aCons (con (.str (T NZ))) aNil))) (gN 1) [some (scD src k), none] = .ok .nx [some (scD src (k + 1)), some (.str (T [c]))] := by
      have f4 := f4 k
      have pl := pl k
      generalize scD src (k + 1) = SD1 at *
      generalize scD src k = SD at *
      generalize T NZ = TZ at *
      generalize T [c] = TC at *
      generalize chk "Scanner" "take" (loc 0) = F4 at *
      generalize x_Scanner__take = XT at *
      simp [mkF, reFrz, seq, Pm.ite, rtn, mov, asg, drp, sNx, bnd, Pm.bin, Pm.un, app, aCons, aNil, idx, loc, con, Pm.ret, peek1, peeks, itemOf, on2I, iAdd, iSub, iGt, iGe, iLt, iLe, iDiv, iMod, use1, useL, gI, gN, tst, andT, orT, notT, andE, orE, notE, ifE, ixN, D.frz, D.plain, plainL, argsBack, opLen, opAbs, opInt1, opNeg, disp, cap, callF, takes, puts, selA, sel, aApp, par, gT, gsC, gs0, appF, opDivmod, frzL, plainL, f4, tk, pl]
    refine Wp.of s2 (k1 _ ?_)
    clear k1 k2 k3 k4 K s2
    refine wp_seq fun K k1 k2 k3 k4 => ?_
    obtain ⟨j0, hj0, s3⟩ : ∃ j0, j0 ≤ (run src (k + 1)).length ∧ Pm.ite (tst (Pm.bin opEq (loc 1) (con (.str (T [49]))))) (asg (Pm.bin gAdd (loc 1) (callF x_Scanner__take (aCons (chk "Scanner" "take" (loc 0)) (aCons (con (.str (T DG))) aNil)))) (gN 1)) sNx [some (scD src (k + 1)), some (.str (T [c]))] = .ok .nx [some (scD src (k + 1 + j0)), some (.str (T (c :: (run src (k + 1)).take j0)))] := by
      have eq := eq_TT [c] [49]
      by_cases h49 : c = 49
      · have hne := hn h49
        have h0 : 0 < (run src (k + 1)).length := List.length_pos_iff.mpr hne
        obtain ⟨d, e1, e2, e3⟩ := run_at (src := src) (k := k + 1) (j := 0) h0
        have ga := gat 0 d e2 h0
        have tk := take_ok (cs := DG) hl e1 e3
        refine ⟨1, h0, ?_⟩
        rw [decide_eq_true (by rw [h49])] at eq
        rw [Nat.add_zero] at tk
        have f4 := f4 (k + 1)
        have pl := pl (k + 1)
        rw [List.take_zero] at ga
        generalize scD src (k + 1 + 1) = SD1 at *
        generalize scD src (k + 1) = SD at *
        generalize T DG = TZ at *
        generalize T (c :: (run src (k + 1)).take (0 + 1)) = TC1 at *
        generalize T [c] = TC at *
        generalize T [d] = TD at *
        generalize T [49] = T49 at *
        generalize chk "Scanner" "take" (loc 0) = F4 at *
        generalize x_Scanner__take = XT at *
        generalize gAdd = GA at *
        generalize opEq = OE at *
        simp [mkF, reFrz, seq, Pm.ite, rtn, mov, asg, drp, sNx, bnd, Pm.bin, Pm.un, app, aCons, aNil, idx, loc, con, Pm.ret, peek1, peeks, itemOf, on2I, iAdd, iSub, iGt, iGe, iLt, iLe, iDiv, iMod, use1, useL, gI, gN, tst, andT, orT, notT, andE, orE, notE, ifE, ixN, D.frz, D.plain, plainL, argsBack, opLen, opAbs, opInt1, opNeg, disp, cap, callF, takes, puts, selA, sel, aApp, par, gT, gsC, gs0, appF, opDivmod, frzL, plainL, f4, tk, ga, pl, eq]
      · refine ⟨0, Nat.zero_le _, ?_⟩
        rw [decide_eq_false (by simpa using h49)] at eq
        rw [List.take_zero, Nat.add_zero]
        generalize scD src (k + 1) = SD at *
        generalize T [c] = TC at *
        generalize T [49] = T49 at *
        generalize opEq = OE at *
        simp [mkF, reFrz, seq, Pm.ite, rtn, mov, asg, drp, sNx, bnd, Pm.bin, Pm.un, app, aCons, aNil, idx, loc, con, Pm.ret, peek1, peeks, itemOf, on2I, iAdd, iSub, iGt, iGe, iLt, iLe, iDiv, iMod, use1, useL, gI, gN, tst, andT, orT, notT, andE, orE, notE, ifE, ixN, D.frz, D.plain, plainL, argsBack, opLen, opAbs, opInt1, opNeg, disp, cap, callF, takes, puts, selA, sel, aApp, par, gT, gsC, gs0, appF, opDivmod, frzL, plainL, eq]
    refine Wp.of s3 (k1 _ ?_)
    clear k1 k2 k3 k4 K s3
    refine wp_seq fun K k1 k2 k3 k4 => ?_
    refine wp_whl (fun n ρ => ∃ j, ρ = [some (scD src (k + 1 + j)), some (.str (T (c :: (run src (k + 1)).take j)))] ∧ j ≤ (run src (k + 1)).length ∧ n = (run src (k + 1)).length - j) ?_ ((run src (k + 1)).length - j0) _ ⟨j0, rfl, hj0, rfl⟩
    rintro n ρ ⟨j, rfl, hj, rfl⟩
    have se := sees_ok (src := src) (k := k + 1 + j) (cs := DG) hl (by omega)
    have hcond : ∀ b, seen src (k + 1 + j) DG = b → tst (callF x_Scanner__sees (aCons (chk "Scanner" "sees" (loc 0)) (aCons (con (.str (T DG))) aNil))) [some (scD src (k + 1 + j)), some (.str (T (c :: (run src (k + 1)).take j)))] = .ok b [some (scD src (k + 1 + j)), some (.str (T (c :: (run src (k + 1)).take j)))] := fun b hb => by
      rw [hb] at se
      have f3 := f3 (k + 1 + j)
      have pl := pl (k + 1 + j)
      generalize scD src (k + 1 + j) = SD at *
      generalize T DG = TZ at *
      generalize T (c :: (run src (k + 1)).take j) = TC at *
      generalize chk "Scanner" "sees" (loc 0) = F3 at *
      generalize x_Scanner__sees = XA at *
      simp [mkF, reFrz, seq, Pm.ite, rtn, mov, asg, drp, sNx, bnd, Pm.bin, Pm.un, app, aCons, aNil, idx, loc, con, Pm.ret, peek1, peeks, itemOf, on2I, iAdd, iSub, iGt, iGe, iLt, iLe, iDiv, iMod, use1, useL, gI, gN, tst, andT, orT, notT, andE, orE, notE, ifE, ixN, D.frz, D.plain, plainL, argsBack, opLen, opAbs, opInt1, opNeg, disp, cap, callF, takes, puts, selA, sel, aApp, par, gT, gsC, gs0, appF, opDivmod, frzL, plainL, f3, se, pl]
    by_cases hlast : j = (run src (k + 1)).length
    · have he : seen src (k + 1 + j) DG = false := by rw [hlast]; exact run_end
      refine Wp.of (hcond _ he) ⟨fun q => (nomatch q), fun _ => k1 _ ?_⟩
      rw [hlast, List.take_length]
      clear k1 k2 k3 k4 K hcond
      have pl := pl (k + 1 + (run src (k + 1)).length)
      generalize scD src (k + 1 + (run src (k + 1)).length) = SD1 at *
      generalize T (c :: run src (k + 1)) = TC at *
      generalize opInt = OI at *
      refine wp_end fun K k1 k2 k3 k4 => ?_
      simp [Wp, mkF, reFrz, seq, Pm.ite, rtn, mov, asg, drp, sNx, bnd, Pm.bin, Pm.un, app, aCons, aNil, idx, loc, con, Pm.ret, peek1, peeks, itemOf, on2I, iAdd, iSub, iGt, iGe, iLt, iLe, iDiv, iMod, use1, useL, gI, gN, tst, andT, orT, notT, andE, orE, notE, ifE, ixN, D.frz, D.plain, plainL, argsBack, opLen, opAbs, opInt1, opNeg, disp, cap, callF, takes, puts, selA, sel, aApp, par, gT, gsC, gs0, appF, opDivmod, frzL, plainL, oi]
      exact k2 _ _ fin
    · obtain ⟨d, e1, e2, e3⟩ := run_at (src := src) (k := k + 1) (j := j) (by omega)
      have he : seen src (k + 1 + j) DG = true := by unfold seen; rw [e1]; exact decide_eq_true e3
      refine Wp.of (hcond _ he) ⟨fun _ => ?_, fun q => (nomatch q)⟩
      have tk := take_ok (cs := DG) hl e1 e3
      have ga := gat j d e2 (by omega)
      refine Wp.of (a := .nx) (ρ' := [some (scD src (k + 1 + j + 1)), some (.str (T (c :: (run src (k + 1)).take (j + 1))))]) ?_ ?_
      · have f4 := f4 (k + 1 + j)
        have pl := pl (k + 1 + j)
        generalize scD src (k + 1 + j + 1) = SD1 at *
        generalize scD src (k + 1 + j) = SD at *
        generalize T DG = TZ at *
        generalize T (c :: (run src (k + 1)).take (j + 1)) = TC1 at *
        generalize T (c :: (run src (k + 1)).take j) = TC at *
        generalize T [d] = TD at *
        generalize chk "Scanner" "take" (loc 0) = F4 at *
        generalize x_Scanner__take = XT at *
        generalize gAdd = GA at *
        simp [mkF, reFrz, seq, Pm.ite, rtn, mov, asg, drp, sNx, bnd, Pm.bin, Pm.un, app, aCons, aNil, idx, loc, con, Pm.ret, peek1, peeks, itemOf, on2I, iAdd, iSub, iGt, iGe, iLt, iLe, iDiv, iMod, use1, useL, gI, gN, tst, andT, orT, notT, andE, orE, notE, ifE, ixN, D.frz, D.plain, plainL, argsBack, opLen, opAbs, opInt1, opNeg, disp, cap, callF, takes, puts, selA, sel, aApp, par, gT, gsC, gs0, appF, opDivmod, frzL, plainL, f4, tk, ga, pl]
      · exact ⟨(run src (k + 1)).length - (j + 1), by omega, j + 1, rfl, by omega, rfl⟩
  obtain ⟨d, as, e, rfl, rfl⟩ := hw
  exact e
end
end Sc
namespace Sc
open PySem PySem.Spec PyProof.Rows L2 Pm
open Pg (sg abc_T)
open TL (numL numL_digits numL_val numL_ne numL_lt numL_step numL_inj joinL)
/-- digits without a zero ahead are a number's text -/
theorem canon : ∀ (r : List Nat) (c : Nat), 49 ≤ c → c ≤ 57 → (∀ d ∈ r, 48 ≤ d ∧ d ≤ 57) → numL (NumText.digitsVal (c :: r)) = c :: r := by
  intro r
  induction h : r.length using Nat.strongRecOn generalizing r with
  | ind n ih =>
    intro c h1 h2 hd
    rcases List.eq_nil_or_concat r with rfl | ⟨r', d, rfl⟩
    · have e : NumText.digitsVal [c] = c - 48 := by unfold NumText.digitsVal; simp
      rw [e, numL_lt (by omega)]
      congr 1
      omega
    · have hd' : 48 ≤ d ∧ d ≤ 57 := hd d (by simp)
      have hq := ih r'.length (by rw [← h]; simp) r' rfl c h1 h2 fun x hx => hd x (by simp [hx])
      have hp := NumText.digitsVal_pos (cs := r') h1
      have e : NumText.digitsVal (c :: (r' ++ [d])) = NumText.digitsVal (c :: r') * 10 + (d - 48) := by
        rw [← List.cons_append]
        exact NumText.digitsVal_snoc _ _
      rw [List.concat_eq_append, e, numL_step (by omega)]
      have e1 : (NumText.digitsVal (c :: r') * 10 + (d - 48)) / 10 = NumText.digitsVal (c :: r') := by omega
      have e2 : (NumText.digitsVal (c :: r') * 10 + (d - 48)) % 10 = d - 48 := by omega
      rw [e1, e2, hq, List.cons_append]
      congr 2
      have : 48 + (d - 48) = d := by omega
      rw [this]
section
variable {src : List Nat} {k : Nat}
theorem m7 : ("take_times" : Str) ∉ (["source", "spot"] : List Str) := by decide +kernel
end
end Sc
namespace Sc
open PySem PySem.Spec PyProof.Rows L2 Pm
open Pg (sg abc_T Fi x_is_between)
open TL (joinL)
end Sc
namespace Sc
open PySem PySem.Spec PyProof.Rows L2 Pm
open Pg (sg abc_T)
open TL (joinL)
end Sc
set_option maxHeartbeats 2000000
namespace Pm
open PySem PySem.Spec PyProof.Rows L2
/-- what came of the lambda's call -/
inductive LO where
  | val (d : D) | exc (x : XD)
def endH (rest : M Fl) (ρ : Env) : Option D := match rest ρ with
  | .ok (.rt d) _ => some d
  | .ok .nx _ => some .non
  | _ => none
/-- the call of such a def with a lambda -/
def lamC (h : LO → Option D) (fe : M EV) : M EV := fun ρ => match bnd fe use1 ρ with
  | .ok d ρ1 => (match h (.val d) with
    | some d' => .ok (.val d') ρ1
    | none => .stuck)
  | .exc x ρ1 => (match h (.exc x) with
    | some d' => .ok (.val d') ρ1
    | none => .stuck)
  | .stuck => .stuck
/-- what is stored of what the lambda returned -/
def Up (up : D → Env → Env) (uq : V → Sl → Sl) : Prop := ∀ (K : PySem.W.Frag) (Z H : Hp) (ρ : Env) (σ : Sl) (S Sv : Fp) (d : D) (v : V), EnvR K Z H ρ σ S → Rep K Z H d v Sv → (∀ a, S a → Sv a → False) → EnvR K Z H (up d ρ) (uq v σ) (fun a => S a ∨ Sv a)
theorem up_id : Up (fun _ ρ => ρ) (fun _ σ => σ) := fun K Z H ρ σ S Sv d v er _ _ => er.move (Same.refl Z) (fun _ _ _ x => x) fun a x => .inl x
section
variable {K : PySem.W.Frag} {mg : Str → Option Value} {W : WX} {Z H : Hp} {S : Fp} {σ : Sl}
theorem env_none (m : Marks K Z) : ∀ (n : Nat) (σ : Sl), σ.length = n → EnvR K Z H (List.replicate n none) σ S
  | 0, [], _ => m
  | 0, _ :: _, h => by simp at h
  | n + 1, [], h => by simp at h
  | n + 1, _ :: σ, h => by
    rw [List.replicate_succ]
    exact env_none m n σ (by simpa using h)
theorem fp0_or (S : Fp) : (fun a => Fp0 a ∨ S a) = S := funext fun a => propext ⟨fun x => x.elim False.elim id, .inr⟩
/-- the def's end -/
theorem end_ok {A : Nat → Bool} {rest : M Fl} {Z3 H3 : Hp} {Sh Sc : Fp} {ρ2 ρf : Env} {σ2 : Sl} {d' : D} {Q : VK} (st : Step Z H S Z3 H3 (fun a => Sh a ∨ Sc a)) (dj : ∀ a, Sh a → Sc a → False) (eh : EnvR K Z3 H3 ρ2 σ2 Sh) (ec : EnvR K Z3 H3 ρf σ Sc)
    (he : endH rest ρ2 = some d') (o : ∀ v Z' H' S' Sd, Step Z H S Z' H' (fun a => S' a ∨ Sd a) → (∀ a, S' a → Sd a → False) → EnvR K Z' H' ρf σ S' → Rep K Z' H' d' v Sd → Q v H') :
    tS K mg W A rest { nx := fun _ H' => Q .non H', rt := Q } σ2 H3 := by
  have go : ∀ (v : V) (Z4 H4 : Hp) (Sd : Fp), Step Z3 H3 Sh Z4 H4 Sd → Rep K Z4 H4 d' v Sd → Q v H4 := fun v Z4 H4 Sd st4 r => by
    have ap := st4.apart (T := Sc) (fun a x => st.wd.live a (.inr x)) dj
    refine o v Z4 H4 Sc Sd ((st.trans (st4.frame st.wd dj)).less fun a x => x.elim .inr .inl) (fun a x y => ap a y x) (st4.stayE dj ec) r
  refine ⟨Z3, ρ2, Sh, st.wd.less fun a x => .inl x, eh, ?_⟩
  unfold endH at he
  cases e : rest ρ2 with
  | stuck => rw [e] at he; cases he
  | exc x ρ4 => rw [e] at he; cases he
  | ok fl ρ4 =>
    rw [e] at he
    intro σ'' v Z4 H4 S4 Sd kp st4 dj4 er4 fr
    cases fl with
    | nx =>
      cases he
      exact go .non Z4 H4 Fp0 (st4.less fun a x => x.elim) rfl
    | rt d =>
      cases he
      exact go v Z4 H4 Sd (st4.less fun a x => .inr x) fr
    | bk => cases he
    | ct => cases he
/-- what the def makes of the lambda's reading -/
def TTm (K : PySem.W.Frag) (mg : Str → Option Value) (h : LO → Option D) : (L2.XK → Hp → VK → Prop) → Hp → VK → Prop := fun tl H Q =>
  ∃ (Z : Hp) (ρ : Env) (S : Fp) (σ : Sl) (fe : M EV), (∀ (E : L2.XK) H' Q', tE K mg (fun cls d _ H => E cls d H) fe σ H' Q' → tl E H' Q') ∧ Wd Z H S ∧ EnvR K Z H ρ σ S ∧
    OutE K mg (fun _ _ _ _ => False) Z H S σ Q (lamC h fe ρ)
end
section
variable {X : Cx} {Ng : List Str} {x a en q : Str} {sg : Scope} {g : Addr} {cdg : Value} {bg rst hs : List Stmt} {h0 bst : Stmt} {ht : Expr} {q1 q2 p5 p6 : Pos} {m i : Nat} {A : Nat → Bool} {tst : Value → Option Bool} {p : Str → Option Bool} {pre sM rest : M Fl} {up : D → Env → Env} {uq : V → Sl → Sl}
abbrev hC (X : Cx) (Ng : List Str) (x : Str) (sg : Scope) (g : Addr) (cdg : Value) (s : Shared) (H : Hp) : Cx := cxOf C8.CX0 X.prog X.w X.K X.mg X.base Ng x sg g cdg X.A X.stack s H C8.E0
end
end Pm
set_option maxHeartbeats 2000000
namespace Pm
open PySem PySem.Spec PyProof.Rows L2
/-- a name that the module's dict tells -/
theorem top_mem {K : PySem.W.Frag} {x : Str} {v : Value} (h : PySem.W.nsIn K mainGlobals x = some (some v)) : x ∈ topNames K := by
  unfold PySem.W.nsIn at h
  unfold topNames
  split at h
  · rename_i es _ _ hk
    rw [hk]
    simp only
    split at h
    · rename_i e he
      have h1 := List.mem_of_find?_eq_some he
      have h2 := List.find?_some he
      refine List.mem_filterMap.mpr ⟨e, h1, ?_⟩
      cases hkey : e.key <;> simp [Value.isStr, hkey] at h2 ⊢
      exact h2
    · split at h <;> cases h
  · cases h
/-- a def whose code object and table are told -/
theorem maker_tab {K : PySem.W.Frag} {x : Str} {f : Addr} {oc : Value} {od : Option Addr} {fd : FuncData} {sl : Array (Option Value)} (ha : PySem.W.nsIn K mainGlobals x = some (some (.ref f))) (hl : K.lookup f = some ⟨oc, od, .func fd, sl⟩) (h : (tabN K x).isSome = true) :
    ∃ c P, fd.code = .ref c ∧ (x, c, P) ∈ tabsK K := by
  obtain ⟨⟨c, P⟩, hcp⟩ := Option.isSome_iff_exists.mp h
  refine ⟨c, P, ?_, List.mem_filterMap.mpr ⟨x, top_mem ha, by rw [hcp]; rfl⟩⟩
  have hcp := tabN_in hcp
  unfold PySem.W.tabIn at hcp
  rw [ha] at hcp
  simp only [hl] at hcp
  split at hcp
  · rename_i c' hc
    split at hcp
    · split at hcp
      · cases hcp
        exact hc
      · cases hcp
    · cases hcp
  · cases hcp
section
variable {X : Cx} {pins : List (Addr × Obj)} {σ : L2.St} {H0 HY : Hp} {t0 : Shared}
/-- the lambda's object -/
abbrev lobj (X : Cx) (params : Arguments) (body : Expr) (scope : Scope) (pm ctv : Value) (c1 : Addr) : Obj := PySem.W.kla_obj "<lambda>" (X.env.qual ++ "<lambda>") params body scope (cloFrom X.env.cells scope.names []) pm c1 ctv
abbrev hE (qg : Str) (sg : Scope) (t0 : Shared) (g : Addr) (cdg : Value) : PySem.Env := envOfC qg sg t0.heap.objs.size g cdg
theorem act_g {NN : List Str} {qg : Str} {sg : Scope} {g fl c1 : Addr} {cdg pm ctv : Value} {params : Arguments} {body : Expr} {scope : Scope} {kb : Nat} {nm : Str} {pn : List (Addr × Obj)} {xe : Value → Shared → Prop} {WW : WX} {EE : L2.XK} {tb : TE} {pa pb : Pos}
    (I0 : Inv X pins σ H0 t0) (LS : LamX.LamS X.env.scope scope) (ofl : t0.heap.get? fl = some (lobj X params body scope pm ctv c1)) (nfl : H0 fl = none) (rfl0 : fl ∉ frs X.stack)
    (bnd0 : bindArgs (PySem.W.kla_fn "<lambda>" (X.env.qual ++ "<lambda>") params body scope (cloFrom X.env.cells scope.names []) pm (.ref c1) ctv) ⟨[], []⟩ = pure [])
    (tk : Takes ((cxOf C8.CX0 X.prog X.w X.K X.mg X.base NN qg sg g cdg X.A X.stack t0 H0 C8.E0).tr pn xe) WW) (sub : ∀ cls d σ' H', EE cls d H' → WW cls d σ' H') (room : Room (kb + 1) (X.A.deeper (hE qg sg t0 g cdg)))
    (run : ∀ (A : Around) (outer : List PySem.Env) (s : Shared) (H : Hp), A.guards = X.A.guards → Room kb (A.deeper (LamX.lamEnv X scope s.heap.objs.size fl c1)) → PE (LamX.lamCx X A outer s H EE scope fl c1) body tb)
    (hN : NN[0]? = some nm) (hv : Vis sg nm) (hd : (nm == ("__debug__" : Str)) = false) (hcd : (nm == ("__classdict__" : Str)) = false) :
    PE ((cxOf C8.CX0 X.prog X.w X.K X.mg X.base NN qg sg g cdg X.A X.stack t0 H0 C8.E0).tr pn xe) (.Call (.Name nm pa) [] [] pb)
      (fun σY HY QY => σY[0]? = some (some (.ref fl)) ∧ HY c1 = some (LamX.CodeO c1 (X.env.qual ++ "<lambda>")) ∧ tb σ HY QY) :=
  ⟨fun pinsY sY σY HY QY IY ⟨e0, e1, e2⟩ => by
    have nameP := pe_var (X := (cxOf C8.CX0 X.prog X.w X.K X.mg X.base NN qg sg g cdg X.A X.stack t0 H0 C8.E0).tr pn xe) (pos := pa) (i := 0) hN hv hd hcd
    refine wpAny_Call_Name_kw (thn (nameP.run pinsY sY σY HY (fun v HZ => v = .ref fl ∧ HZ = HY) IY ⟨.ref fl, e0, rfl, rfl⟩) fun val sZ ⟨v, HZ, IZ, rZ, eqs⟩ => ?_)
    obtain ⟨rfl, rfl⟩ := eqs
    obtain rfl : val = Value.ref fl := rZ
    have flZ : sZ.heap.get? fl = some (lobj X params body scope pm ctv c1) := IZ.base.keep fl _ ofl nfl rfl0 (fun q => nomatch (show fl ∈ ([] : List Addr) from q))
    obtain ⟨⟨oC, fs, tk1, a1, a2, a3⟩, _, _⟩ := IZ.hok c1 _ e1
    refine PySem.W.callWith_F0 ⟨_, _, _, _, flZ⟩ ?_
    have rest : codeAny (model X.prog X.w) (X.A.deeper (hE qg sg t0 g cdg)) (.call (.ref fl) ⟨[], []⟩) (CR (L2.CX X.prog X.w) (hE qg sg t0 g cdg :: X.stack) X.prog X.w HZ sZ QY EE) sZ := by
      refine PySem.W.kla_callFunE room.depth flZ rfl LS.co LS.gen rfl ⟨c1, oC, fs, tk1, rfl, a1, a2, a3⟩ ?_
      rw [bnd0]
      refine wpAny_pure (wpAny_newFunctionEnv (fun y hy => (LS.own y hy).2) (fun y hy => absurd hy (by simp)) (fun hp1 n1 sB => ⟨IZ.nolimit.fresh _ sB, ?_⟩) LS.kind)
      have same : ∀ b o, sZ.heap.get? b = some o → hp1.get? b = some o := fun b o e => sB.extBut b o (Nat.ne_of_lt (Heap.lt_size e)) (Heap.get?_push_of_some _ e)
      have J := LamX.lam_start2 (E := EE) (c' := c1) (f := fl) I0 LS IZ.env0 (tk := sZ.toks + ([] : List (Str × Value)).length) room.hd (show Un (frs X.stack) [] H0 HZ t0.heap sZ.heap from IZ.base) n1 same
      exact PySem.W.kla_codeExpr (wpAny_mono ((run (X.A.deeper (hE qg sg t0 g cdg)) (hE qg sg t0 g cdg :: X.stack) sZ HZ rfl (room.deeper _)).run [] _ _ HZ QY J e2) (fun v s' ⟨w', H', J', rv, q⟩ => ⟨w', H', J'.os, J'.bare, J'.base, J'.hok, rv, q⟩) fun _ _ q => q)
    refine wpAny_call (codeAny_mono rest fun res sR hR => ?_)
    match res, hR with
    | .error e, hR => exact passes_call tk sub pinsY σY HZ sZ e sR IZ hR
    | .ok (.ret u), hR => exact IZ.after hR⟩
theorem lam_g {T : List (Addr × Str)} {TT : (L2.XK → Hp → VK → Prop) → Hp → VK → Prop} {x nm : Str} {g c P : Addr} {kb : Nat} {pg : Arguments} {bg : List Stmt} {sg : Scope} {dV kV doc pm cdv ct oc : Value} {an od : Option Addr} {osl : Array (Option Value)} {NN : List Str}
    {params : Arguments} {body : Expr} {scope : Scope} {t : L2.XK → TE} {p lpos pos : Pos} (gx : Gl X x) (mx : X.mg x = some (.ref g)) (kx : PySem.W.keepIn X.K (.ref g) = true)
    (lk : X.K.lookup g = some ⟨oc, od, .func (PySem.W.fnOf x x pg bg sg dV kV doc pm an cdv ct), osl⟩) (cg : PySem.W.codeIn X.K cdv x = true) (bd : L2.Binds X.K (PySem.W.fnOf x x pg bg sg dV kV doc pm an cdv ct) [nm] []) (Sg : FnScope NN [nm] sg) (n0 : NN[0]? = some nm) (vg : Vis sg nm)
    (give : LamX.GivesTo X NN x sg g cdv bg nm (X.env.qual ++ "<lambda>") TT) (tB : LamX.TabB X.base X.mg c P) (code : X.env.code = .ref c) (mT : (P, X.env.qual ++ "<lambda>") ∈ T) (uT : ∀ z ∈ T, z.1 = P → z.2 = X.env.qual ++ "<lambda>") (room : Room (kb + 2) X.A) (LS : LamX.LamS X.env.scope scope)
    (dflt : defaultsOf params X.env = ([], [])) (bnd0 : ∀ (q : Str) (cl : List (Str × Addr)) (pm cv ctv : Value), bindArgs (PySem.W.kla_fn "<lambda>" q params body scope cl pm cv ctv) ⟨[], []⟩ = pure [])
    (run : ∀ (A : Around) (outer : List PySem.Env) (s : Shared) (H : Hp) (E : L2.XK) (f c' : Addr), A.guards = X.A.guards → Room kb (A.deeper (LamX.lamEnv X scope s.heap.objs.size f c')) → PE (LamX.lamCx X A outer s H E scope f c') body (t E))
    (hdb : (x == ("__debug__" : Str)) = false) (hd : (nm == ("__debug__" : Str)) = false) (hcd : (nm == ("__classdict__" : Str)) = false) :
    PE X (.Call (.Name x p) [.Lambda params body scope lpos] [] pos) (LamX.tLam T TT t) :=
  ⟨fun pins0 s0 σ0 HA Q0 IA ⟨tabs, wish⟩ => by
    refine wpAny_Call_Name_kw (ld_glob IA gx mx ?_ hdb)
    refine PySem.W.callWith_K (h₀ := X.base) IA.ok.mod.kin kx ?_ (by rfl) (by rfl)
    show wpAny _ _ (spliced ((false, eval (.Lambda params body scope lpos) X.env) :: backTo pos (starEach [] X.env))) _ _ s0
    refine Calls.spliced_cons (LamX.lam_make2 IA tB code mT uT tabs dflt (LS.has IA.ok) fun fl c1 pmL ctL HB sB IB grow tabsB obj nH nS known => ?_)
    refine Calls.spliced_nil ⟨IB.kIn, ?_⟩
    have called : codeAny (model X.prog X.w) X.A (.call (.ref g) ⟨[.ref fl], []⟩) (CR C8.CX0 X.stack X.prog X.w HB sB Q0 C8.E0) sB := by
      refine LamX.run_ofS (N := NN) (ps := [nm]) (us := [.ref fl]) (vs := [.ref fl]) lk cg Sg room IB.env0 (bd sB [.ref fl] IB.kIn rfl) (.cons rfl .nil) rfl fun room1 => ?_
      have act := fun (WW : WX) (pn : List (Addr × Obj)) (xe : Value → Shared → Prop) (EE : L2.XK) (pa pb : Pos) tk sub => act_g (cdg := cdv) (qg := x) (pn := pn) (xe := xe) (WW := WW) (EE := EE) (pa := pa) (pb := pb) (tb := t EE) IB LS obj nH nS (bnd0 _ _ _ _ _) tk sub room1 (fun A outer s H g0 r0 => run A outer s H EE fl c1 g0 r0) n0 vg hd hcd
      obtain ⟨tr, h1, h2⟩ := give fl c1 sB HB Q0 (fun E H' Q' => t E σ0 H' Q') act known (wish HB grow tabsB)
      exact ⟨tr, h1.nox, h2⟩
    refine wpAny_call (codeAny_mono called fun res sR hR => ?_)
    match res, hR with
    | .error e, hR => exact (show False from hR).elim
    | .ok (.ret u), hR => exact IB.after hR⟩
end
/-- the def in whose body a lambda is made -/
def MkT (X : Cx) : Prop := ∃ (c P : Addr) (x : Str), X.env.code = .ref c ∧ X.env.qual = x ++ ".<locals>." ∧ (x, c, P) ∈ tabsK X.K ∧ LamX.TabB X.base X.mg c P
/-- a def that is handed lambdas -/
structure LDef (P : Program) (w : World) (K : PySem.W.Frag) (mg : Str → Option Value) (base : Heap) (k : Nat) (x a : Str) (st : Stmt) (g : Addr) (fd : FuncData) (Ng : List Str) (h : LO → Option D) : Prop where
  F : Fun K x x st g fd
  Sc : FnScope Ng [a] (defScope st)
  N0 : Ng[0]? = some a
  va : Vis (defScope st) a
  gl : mg x = some (.ref g)
  kp : PySem.W.keepIn K (.ref g) = true
  bd : Binds K fd [a] []
  gives : ∀ (X : Cx) (cdv : Value) (q : Str), X.prog = P → X.w = w → X.K = K → X.mg = mg → X.base = base → X.A.guards = some [] → Room (k + 1) X.A → LamX.GivesTo X Ng x (defScope st) g cdv (defBody st) a q (TTm K mg h)
section
variable {X : Cx} {W : WX} {h : LO → Option D} {fe : M EV}
theorem E_lam {n k kb : Nat} {x a : Str} {st : Stmt} {g : Addr} {fd : FuncData} {Ng : List Str} {params : Arguments} {body : Expr} {scope : Scope} {p lpos pos : Pos} (L : LDef X.prog X.w X.K X.mg X.base k x a st g fd Ng h) (ft : Fit X W n) (mk : MkT X)
    (hbody : ∀ (A : Around) (outer : List PySem.Env) (s : Shared) (H : Hp) (E : L2.XK) (f c' : Addr), Fit (LamX.lamCx X A outer s H E scope f c') (fun cls d _ H => E cls d H) kb → PE (LamX.lamCx X A outer s H E scope f c') body (tE X.K X.mg (fun cls d _ H => E cls d H) fe))
    (LS : LamX.LamS X.env.scope scope := by exact LamX.lamS_by rfl) (hk : k + 1 ≤ n := by first | decide | omega) (hkb : kb + 2 ≤ n := by first | decide | omega) (hdef : defaultsOf params X.env = ([], []) := by rfl)
    (hbind : ∀ (q : Str) (cl : List (Str × Addr)) (pm cv ctv : Value), bindArgs (PySem.W.kla_fn "<lambda>" q params body scope cl pm cv ctv) ⟨[], []⟩ = pure [] := by intros; rfl)
    (hg : Gl X x := by rfl) (hdb : (x == ("__debug__" : Str)) = false := by decide) (hd : (a == ("__debug__" : Str)) = false := by decide) (hcd : (a == ("__classdict__" : Str)) = false := by decide) :
    PE X (.Call (.Name x p) [.Lambda params body scope lpos] [] pos) (tE X.K X.mg W (lamC h fe)) := by
  refine ⟨fun pins s σ H Q I ht => ?_⟩
  obtain ⟨Z, ρ, S, w, er, o⟩ := ht
  obtain ⟨T, t1, t2⟩ := w.tabs
  obtain ⟨c, P, x0, m1, m2, m3, m4⟩ := mk
  have mq : X.env.qual ++ "<lambda>" = lamName x0 := by rw [m2]; rfl
  have hZ : Z P = some (mark (lamName x0)) := er.marks _ m3
  have hT : (P, lamName x0) ∈ T := by
    obtain ⟨q, e1, e2⟩ := t1 P _ hZ
    rw [mark_inj e1]
    exact e2
  obtain ⟨oc, od, kV, doc, pm, an, cdv, ct, osl, rfl, lk, hc⟩ := L.F.ex
  have room : Room (kb + 2) X.A := ft.room.mono hkb
  have hu : ∀ p ∈ T, p.1 = P → p.2 = X.env.qual ++ "<lambda>" := fun p hp e => by
    have := (t2 p hp).1
    rw [e, hZ] at this
    rw [mq]
    exact (mark_inj (Option.some.inj this)).symm
  refine (lam_g (T := T) (TT := TTm X.K X.mg h) (t := fun E => tE X.K X.mg (fun cls d _ H => E cls d H) fe) (kb := kb) hg L.gl L.kp lk hc L.bd L.Sc L.N0 L.va
    (L.gives X cdv _ rfl rfl rfl rfl rfl ft.gd (ft.room.mono hk)) m4 m1 (by rw [mq]; exact hT) hu room LS hdef hbind (fun A outer s H E f c' gd hr => ?_) hdb hd hcd).run pins s σ H Q I ⟨fun p hp => (t2 p hp).2, fun H1 eN T1 => ?_⟩
  · exact hbody A outer s H E f c' ⟨gd.trans ft.gd, hr, takes_of rfl rfl rfl rfl⟩
  · have st : Step Z H S Z H1 S := ⟨⟨⟨fun a o e n => eN a o (w.same.get a o e n) n⟩, w.sep, fun a x => by
      obtain ⟨o, e, n⟩ := w.own a x
      exact ⟨o, eN a o e n.1, n⟩, T, t1, fun p hp => ⟨(t2 p hp).1, T1 p hp⟩⟩, Same.refl Z, fun a o _ e n => eN a o e n, fun a x => .inl x, fun a o e => .inl e⟩
    refine ⟨Z, ρ, S, σ, fe, fun _ _ _ q => q, st.wd, er.mv (Same.refl Z) (fun a o _ e n => eN a o e n) fun _ x => x, ?_⟩
    cases e : lamC h fe ρ with
    | stuck => rw [e] at o; exact o.elim
    | exc y ρ1 =>
      simp only [lamC] at e
      split at e
      · split at e <;> cases e
      · split at e <;> cases e
      · cases e
    | ok ev ρ1 =>
      rw [e] at o
      exact fun v Z' H' S' Sd st2 dj er2 r => o v Z' H' S' Sd (st.trans st2) dj er2 r
end
end Pm
set_option maxHeartbeats 2000000
namespace Pm
open PySem PySem.Spec PyProof.Rows L2 PySem.Calls
section
variable {M : Model} {K : PySem.W.Frag}
theorem forIn_all {A : Around} {E : Value → Shared → Prop} {s : Shared} {f : Value → PUnit → Sem (ForInStep PUnit)} : ∀ (cs : List Value) (Q : PUnit → Shared → Prop), (∀ c ∈ cs, ∀ R : ForInStep PUnit → Shared → Prop, R (.yield ⟨⟩) s → wpAny M A (f c ⟨⟩) R E s) → Q ⟨⟩ s → wpAny M A (forIn cs PUnit.unit f) Q E s
  | [], Q, _, q => by
    rw [List.forIn_nil]
    exact wpAny_pure q
  | c :: cs, Q, hf, q => by
    rw [List.forIn_cons]
    exact wpAny_bind (hf c (by simp) _ (forIn_all cs Q (fun d hd => hf d (by simp [hd])) q))
theorem forIn_any {A : Around} {E : Value → Shared → Prop} {s : Shared} {cls : Value} {f : Value → Option Bool × Unit → Sem (ForInStep (Option Bool × Unit))} : ∀ (cs : List Value) (b : Bool) (Q : Option Bool × Unit → Shared → Prop), PySem.W.exmAny K cls cs = some b →
    (∀ c ∈ cs, ∀ v, PySem.W.exmOne K cls c = some v → ∀ R : ForInStep (Option Bool × Unit) → Shared → Prop, R (if v = true then .done (some true, ()) else .yield (none, ())) s → wpAny M A (f c (none, ())) R E s) → Q (if b = true then (some true, ()) else (none, ())) s → wpAny M A (forIn cs (none, ()) f) Q E s
  | [], b, Q, hx, _, q => by
    rw [List.forIn_nil]
    cases hx
    exact wpAny_pure q
  | c :: cs, b, Q, hx, hf, q => by
    obtain ⟨b1, d1, x1, y1, rfl⟩ := PySem.W.exmAny_cons hx
    rw [List.forIn_cons]
    refine wpAny_bind (hf c (by simp) b1 x1 _ ?_)
    cases b1 with
    | true => exact wpAny_pure q
    | false => exact forIn_any cs d1 Q y1 (fun d hd => hf d (by simp [hd])) q
theorem exm_many {cs : List Value} {cls : Value} {tp e : Addr} {b : Bool} {h : Heap} (X : K.In h) (LT : PySem.W.Looks M h (typeOf (.ref e)) cls) (hp : h.get? tp = some { cls := .type "tuple", data := .seq cs.toArray }) (hx : PySem.W.exmAny K cls cs = some b) :
    PySem.W.Looks M h (excMatches (.ref e) (.ref tp)) b := by
  intro A Q E s k0 q
  have isT : PySem.W.Looks M h (isInstance (.ref tp) (.type "tuple")) true := ((PySem.W.Looks.ld hp).andThen .now).andThen (PySem.W.Looks.of_pure isSubtype_tuple_tuple)
  have LT := LT.keeps k0
  have isT := isT.keeps k0
  have hp' := k0 _ _ hp
  unfold excMatches
  refine wpAny_bind (isT.at ?_)
  dsimp only
  rw [if_pos rfl]
  first
    | refine wpAny_bind (wpAny_seqItems hp' rfl ?_)
    | refine wpAny_bind (wpAny_bind (wpAny_seqItems hp' rfl (wpAny_pure ?_)))
  dsimp only [Option.getD_some, Option.getD]
  have one : ∀ c ∈ cs, ∃ v, PySem.W.exmOne K cls c = some v := by
    clear hp hp' q
    induction cs generalizing b with
    | nil => intro c hc; cases hc
    | cons d cs ih =>
      obtain ⟨b1, d1, x1, y1, _⟩ := PySem.W.exmAny_cons hx
      intro c hc
      rcases List.mem_cons.mp hc with rfl | hc
      · exact ⟨b1, x1⟩
      · exact ih y1 c hc
  refine wpAny_bind (wpAny_pure ?_)
  refine wpAny_bind (forIn_all cs _ (fun c hc R hR => ?_) ?_)
  · obtain ⟨v, hv⟩ := one c hc
    obtain ⟨e1, _⟩ := PySem.W.exm_cls (M := M) X hv
    have e1 := e1.keeps k0
    refine wpAny_bind (e1.at ?_)
    exact wpAny_pure hR
  refine wpAny_bind (LT.at ?_)
  refine wpAny_bind (forIn_any cs b _ hx (fun c hc v hv R hR => ?_) ?_)
  · obtain ⟨_, e2⟩ := PySem.W.exm_cls (M := M) X hv
    have e2 := e2.keeps k0
    refine wpAny_bind (e2.at ?_)
    cases v with
    | true => exact wpAny_pure hR
    | false => exact wpAny_pure hR
  · cases b with
    | true => exact wpAny_pure q
    | false => exact wpAny_pure q
end
section
variable {X : Cx} {W : WX}
/-- names of classes, one by one -/
inductive ClsL (X : Cx) : List Expr → List (V × Value) → Prop where
  | nil : ClsL X [] []
  | cons {x : Str} {p : Pos} {cv : V} {cu : Value} {es : List Expr} {cs : List (V × Value)} : Names X x cu → ClsV cv cu → PE X (.Name x p) (tC cv) → (starEach (.Name x p :: es) X.env = (false, eval (.Name x p) X.env) :: starEach es X.env) → ClsL X es cs → ClsL X (.Name x p :: es) ((cv, cu) :: cs)
theorem ClsL.o {x : Str} {p : Pos} {C : Addr} {es : List Expr} {cs : List (V × Value)} (E : NCls X.K X.mg x C) (h : ClsL X es cs) (hg : Gl X x := by rfl) (hd : (x == ("__debug__" : Str)) = false := by decide)
    (hs : starEach (.Name x p :: es) X.env = (false, eval (.Name x p) X.env) :: starEach es X.env := by rfl) : ClsL X (.Name x p :: es) ((.ref C, .ref C) :: cs) :=
  .cons ⟨hg, hd, .inl E.mgC⟩ (.own C) (pe_glob (v := .ref C) hg E.mgC rfl hd) hs h
theorem ClsL.b {T : String} {p : Pos} {es : List Expr} {cs : List (V × Value)} (hm : X.mg T = none) (h : ClsL X es cs) (hv : bootBuiltins (T : Str) = some (.type T) := by rfl) (hg : Gl X (T : Str) := by rfl) (hn : (T : Str) ≠ "__name__" := by decide) (hd : ((T : Str) == ("__debug__" : Str)) = false := by decide)
    (hs : starEach (.Name (T : Str) p :: es) X.env = (false, eval (.Name (T : Str) p) X.env) :: starEach es X.env := by rfl) : ClsL X (.Name (T : Str) p :: es) ((V.ty T, .type T) :: cs) :=
  .cons ⟨hg, hd, .inr ⟨hm, hv, hn⟩⟩ (.ty T) (pe_bltn (v := V.ty T) hg hm hv rfl hn hd) hs h
theorem ClsL.pa : ∀ {es : List Expr} {cs : List (V × Value)}, ClsL X es cs → PA X es (fun _ H Q => Q (cs.map (·.1)) H)
  | _, _, .nil => pa_nil
  | _, _, .cons _ _ hp hs h => pa_cons hp h.pa hs
theorem ClsL.pr : ∀ {es : List Expr} {cs : List (V × Value)}, ClsL X es cs → Paired ClsV (cs.map (·.1)) (cs.map (·.2))
  | _, _, .nil => .nil
  | _, _, .cons _ hc _ _ h => .cons hc h.pr
/-- the names are evaluated in an exception's suite -/
theorem ClsL.run {a : Addr} {pn : List (Addr × Obj)} {σ : L2.St} {H : Hp} {s : Shared} {E' : Value → Shared → Prop} {pos : Pos} (S : Inv (X.suite a pn) [] σ H s) : ∀ {es : List Expr} {cs : List (V × Value)}, ClsL X es cs → ∀ Q : List Value → Shared → Prop, Q (cs.map (·.2)) s →
    wpAny (model X.prog X.w) (X.A.mark (some (.ref a))) (spliced (backTo pos (starEach es X.env))) Q E' s
  | _, _, .nil, Q, q => wpAny_items_nil q
  | _, _, .cons (cu := cu) hc _ _ hs h, Q, q => by
    refine wpAny_items_cons ?_ hs
    have go := ClsL.run (E' := E') (pos := pos) S h (fun vs s2 => Q (cu :: vs) s2) q
    obtain ⟨hg, hdbg, hm | ⟨hm, hv, hnn⟩⟩ := hc
    · exact ld_glob (X := X.suite a pn) S hg hm go hdbg
    · exact ld_blt (X := X.suite a pn) S hg hm hv go hnn hdbg
theorem clause_tup {es : List Expr} {cs : List (V × Value)} {kk : Nat} {pos : Pos} (h : ClsL X es cs) (hl : cs.length ≤ 100 := by simp) : ClauseT X (.Tuple es kk pos) (fun cls => PySem.W.exmAny X.K cls (cs.map (·.2))) := by
  intro a pn σ H s cls b Q E E' S ⟨oe, he, hz⟩ hb1 q
  refine wpAny_Tuple (h.run S _ ⟨by rw [List.length_map]; exact Nat.le_trans hl (by decide), ?_⟩)
  have kp : ∀ b o, s.heap.get? b = some o → (s.heap.push { cls := .type "tuple", data := .seq (cs.map (·.2)).toArray }).get? b = some o := fun _ _ z => Heap.get?_push_of_some _ z
  have LT : PySem.W.Looks (model X.prog X.w) s.heap (typeOf (.ref a)) cls := fun A Q E s k q => wpAny_typeOf_ref (k _ _ he) (by rw [hz]; exact q)
  exact (exm_many (S.kIn.keeps kp) (LT.keeps kp) (Heap.get?_push_size s.heap rfl) hb1).here (q _ kp rfl rfl)
def ExmPs (K : PySem.W.Frag) (cs : List Value) (q : Str × Bool) : Prop := ∀ C, reg K q.1 = some C → PySem.W.exmAny K (.ref C) cs = some q.2
section
variable {K : PySem.W.Frag} {mg : Str → Option Value}
theorem exs_n {C : Addr} : PySem.W.exmAny K (.ref C) [] = some false := rfl
theorem exs_c {n c : Str} {C Cc : Addr} {b d : Bool} {r : List Value} (E : NCls K mg n C) (Ec : NCls K mg c Cc) (s : PySem.W.subIn K (.ref C) (.ref Cc) = some b) (h : PySem.W.exmAny K (.ref C) r = some d) : PySem.W.exmAny K (.ref C) (.ref Cc :: r) = some (b || d) := by
  unfold PySem.W.exmAny
  rw [exm_of E Ec s C E.rg, h]
theorem exs_of {n : Str} {C : Addr} {b : Bool} {cs : List Value} (E : NCls K mg n C) (h : PySem.W.exmAny K (.ref C) cs = some b) : ExmPs K cs (n, b) := fun C' e => by
  have e : reg K n = some C' := e
  rw [E.rg] at e
  cases e
  exact h
theorem exms_tb {cs : List Value} {tbl : List (Str × Bool)} (h : ∀ q ∈ tbl, ExmPs K cs q) : ∀ c C b, reg K c = some C → (fun n => List.lookup n tbl) c = some b → (fun cls => PySem.W.exmAny K cls cs) (.ref C) = some b :=
  fun c C b hr e => tb_look (P := fun n b => ExmPs K cs (n, b)) h e C hr
def KitPs (K : PySem.W.Frag) (cs : List Value) (q : Str × Bool) : Prop := ∀ C, reg K q.1 = some C → XK K C ∧ PySem.W.kitAny K (.ref C) cs = some q.2
theorem kis_n {C : Addr} : PySem.W.kitAny K (.ref C) [] = some false := rfl
theorem kis_c {C : Addr} {cu : Value} {b d : Bool} {r : List Value} (s : PySem.W.kitOne K (.ref C) cu = some b) (h : PySem.W.kitAny K (.ref C) r = some d) : PySem.W.kitAny K (.ref C) (cu :: r) = some (b || d) := by
  unfold PySem.W.kitAny
  rw [s]
  cases b
  · exact h
  · rfl
theorem kis_of {n : Str} {C : Addr} {b : Bool} {cs : List Value} (E : NCls K mg n C) (h : PySem.W.kitAny K (.ref C) cs = some b) : KitPs K cs (n, b) := fun C' e => by
  have e : reg K n = some C' := e
  rw [E.rg] at e
  cases e
  exact ⟨E.xk, h⟩
end
/-- isinstance(e, (A, B, ..)) of an exception -/
def xit (tbl : Str → Option Bool) (fe : M EV) : M EV := bnd fe fun e => fun ρ => match peek1 ρ e with
  | some (.node false (.obj n _) _) => (match tbl n with
    | some b => .ok (.val (.bl b)) ρ
    | none => .stuck)
  | _ => .stuck
theorem E_ist {tbl : List (Str × Bool)} {fe : M EV} {e : Expr} {es : List Expr} {cs : List (V × Value)} {kk : Nat} {p tp pos : Pos} (hm : X.mg "isinstance" = none) (he : PE X e (tE X.K X.mg W fe)) (h2 : ClsL X es cs) (ht : ∀ q ∈ tbl, KitPs X.K (cs.map (·.2)) q) (hl : cs.length ≤ 100 := by simp)
    (hg : Gl X "isinstance" := by rfl) (hs : starEach [e, .Tuple es kk tp] X.env = (false, eval e X.env) :: starEach [.Tuple es kk tp] X.env := by rfl) (hs2 : starEach [.Tuple es kk tp] X.env = (false, eval (.Tuple es kk tp) X.env) :: starEach [] X.env := by rfl) (hpl : (backTo pos (starEach [.Tuple es kk tp] X.env)).any (·.1) = false := by rfl) :
    PE X (.Call (.Name "isinstance" p) [e, .Tuple es kk tp] [] pos) (tE X.K X.mg W (xit (fun n => List.lookup n tbl) fe)) :=
  PE.of (pe_callB (call_isX (X := X)) hg hm rfl (pa_cons he (pa_cons (pe_tup h2.pa) pa_nil hs2) hs) (by decide) (by decide) hs hpl) fun σ H Q h => by
    obtain ⟨Z, ρ, S, w, er, o⟩ := h
    refine ⟨Z, ρ, S, w, er, ?_⟩
    simp only [xit, bnd] at o
    cases e1 : fe ρ with
    | stuck => rw [e1] at o; exact o.elim
    | exc x ρ1 => rw [e1] at o; exact o
    | ok ev ρ1 =>
      simp only [e1] at o
      intro v Z' H' S' Sd st dj er' evr
      cases hp : peek1 ρ1 ev with
      | none => simp only [hp] at o; exact o.elim
      | some d =>
        simp only [hp] at o
        split at o
        · rename_i n fs xs hd
          split at o
          · rename_i b hb
            cases hd
            obtain ⟨S0, a, ys, rfl, ⟨C, dd, hr, hz, hc⟩, rl⟩ := peek_rep er' evr hp
            obtain ⟨T, hk⟩ := tb_look (P := fun n b => KitPs X.K (cs.map (·.2)) (n, b)) ht hb C hr
            refine ⟨by rw [List.length_map]; exact Nat.le_trans hl (by decide), fun tp hn => ?_⟩
            have st2 := Step.allocZ (o := .tup (cs.map (·.1))) st.wd hn
            have hz' := st.wd.same.get _ _ hz nt_ext
            refine ⟨a, C, dd, b, by rw [upd_ne (ne_of_none hz' hn)]; exact hz', fun d hd => ?_, T, .inr ⟨tp, cs.map (·.1), cs.map (·.2), rfl, upd_same, h2.pr, hk⟩, ?_⟩
            · rcases hc with ⟨h1, _, _⟩ | ⟨dx, h1, _, hzd⟩
              · rw [h1] at hd; cases hd
              · rw [h1] at hd
                cases hd
                have q := st.wd.same.get _ _ hzd nt_xd
                exact ⟨_, by rw [upd_ne (ne_of_none q hn)]; exact q⟩
            · refine o (.bl b) _ _ S' Fp0 ((st.trans st2).less fun a q => q.elim .inl fun z => z.elim) (fun _ _ z => z.elim) ?_ rfl
              exact er'.move st2.zz (fun a u _ e => by rw [upd_ne (ne_of_none e hn)]; exact e) fun _ x => x
          · exact o.elim
        · exact o.elim
end
end Pm
namespace Sc
open PySem PySem.Spec PyProof.Rows L2 Pm
open Pg (sg dr divS)
theorem ixn {n k : Nat} (h : k < n) : ixN n (k : Int) = some k := by
  unfold ixN
  rw [if_pos (by omega), if_pos (by omega), Int.toNat_natCast]
theorem item_at {ρ : Pm.Env} {b : Bool} {kd : Kd} {xs : List D} {d : D} {i k : Nat} (h : ρ.getD i none = some (.node b kd xs)) (hk : xs[k]? = some d) (hp : d.plain = true) (hkd : kd = .lst ∨ kd = .tup) : itemOf (.ref i) (k : Int) ρ = .ok (.val d) ρ := by
  have hl := (List.getElem?_eq_some_iff.mp hk).1
  have e := ixn hl
  unfold itemOf
  rcases hkd with rfl | rfl <;> simp only [h, e, hk, hp, if_true]
end Sc
namespace Rp
open PySem PySem.Spec PyProof.Rows L2 Pm
open Pg (sg rowD tabD abc_T rows_plain tabD_plain tabD_frz dr divS ABC get_sg ix_nat cnt_T take_T tab_src Fi btwB x_is_between between_ok)
open Sc (Rws RowT)
abbrev B59 : Nat := 100000000000000000000000000000000000000000000000000000000000
end Rp
namespace Rp
open PySem PySem.Spec PyProof.Rows L2 Pm
open Pg (sg rowD tabD tabD_plain tabD_frz Fi)
open Sc (Rws RowT)
end Rp
set_option maxHeartbeats 2000000
namespace Pm
open PySem PySem.Spec PyProof.Rows L2
end Pm
set_option maxHeartbeats 2000000
namespace Pm
open PySem PySem.Spec PyProof.Rows L2
def excH (m i : Nat) (p : Str → Option Bool) (s rest : M Fl) (x : XD) : Option D := match p x.cls with
  | some true => (match s ((List.replicate m none).set i (some (excD x))) with
    | .ok .nx ρ2 => endH rest (ρ2.set i none)
    | .ok (.rt d) _ => some d
    | _ => none)
  | _ => none
section
variable {X : Cx} {W : WX} {A : Nat → Bool} {r : List Stmt} {t : TS}
theorem pre_0 (h : PSs X r t) : PSs X r (tSeq (tS X.K X.mg W A sNx) t) := PSs.of h fun _ _ _ q => tS_nx q
end
end Pm
set_option maxHeartbeats 1000000
namespace Pm
open PySem PySem.Spec PyProof.Rows L2
def mkHQ (m : Nat) (pre : M Fl) (up : D → Env → Env) (i : Nat) (p : Str → Option Bool) (s rest : M Fl) (o : LO) : Option D := match pre (List.replicate m none) with
  | .ok .nx ρ1 => (match o with
    | .val d => endH rest (up d ρ1)
    | .exc x => excH m i p s rest x)
  | _ => none
section
variable {X : Cx} {Ng : List Str} {x a en q : Str} {sg : Scope} {g : Addr} {cdg : Value} {bg rst hs : List Stmt} {h0 bst : Stmt} {ht : Expr} {q1 q2 p5 p6 : Pos} {m i : Nat} {A : Nat → Bool} {tst : Value → Option Bool} {p : Str → Option Bool} {pre sM rest : M Fl} {up : D → Env → Env} {uq : V → Sl → Sl}
theorem gives_ofQ (hup : Up up uq) (hm : Ng.length = m) (hm0 : 1 ≤ m) (hN : Ng.Nodup) (hi : Ng[i]? = some en) (hA0 : A 0 = false)
    (hln : ∀ s H, (hC X Ng x sg g cdg s H).nox.env.kindOf en = some .local) (hc : ∀ s H, ClauseT (hC X Ng x sg g cdg s H).nox ht tst)
    (hp : ∀ c C b, reg X.K c = some C → p c = some b → tst (.ref C) = some b)
    (hpre : ∀ s H (t : TS), PSs (hC X Ng x sg g cdg s H).nox (.Try [bst] [.ExceptHandler (some ht) (some en) (h0 :: hs) p5] [] [] p6 :: rst) t → PSs (hC X Ng x sg g cdg s H).nox bg (tSeq (tS X.K X.mg (fun _ _ _ _ => False) A pre) t))
    (hb : ∀ s H pn xe (te : TE), PE ((hC X Ng x sg g cdg s H).tr pn xe) (.Call (.Name a q1) [] [] q2) te → PSs ((hC X Ng x sg g cdg s H).nox.tr pn xe) [bst] (fun D σ H' => te σ H' fun v H1 => D.nx (uq v σ) H1))
    (hsu : ∀ s H b pn, PSs ((hC X Ng x sg g cdg s H).nox.suite b pn) (h0 :: hs) (tS X.K X.mg (fun _ _ _ _ => False) A sM))
    (hr : ∀ s H, PSs (hC X Ng x sg g cdg s H).nox rst (tS X.K X.mg (fun _ _ _ _ => False) A rest)) :
    LamX.GivesTo X Ng x sg g cdg bg a q (TTm X.K X.mg (mkHQ m pre up i p sM rest)) := by
  intro f c' s H Q tl act hc' hTT
  obtain ⟨Z, ρ, S, σ, fe, htl, w, er, o⟩ := hTT
  have hil : i < m := by
    rw [← hm]
    exact (List.getElem?_eq_some_iff.mp hi).1
  -- the readings
  let D0 : Ends := { nx := fun _ H' => Q .non H', rt := Q }
  let tr : TS := tS X.K X.mg (fun _ _ _ _ => False) A rest
  let ts : TS := fun D σ1 H1 => σ1.length = m → tS X.K X.mg (fun _ _ _ _ => False) A sM D σ1 H1
  let tb : WX → TS := fun W D σ1 H1 => ∃ E : L2.XK, (∀ cls d σ' H', E cls d H' → W cls d σ' H') ∧ σ1[0]? = some (some (.ref f)) ∧ H1 c' = some (LamX.CodeO c' q) ∧ tl E H1 (fun v H2 => D.nx (uq v σ1) H2)
  have PT : PS (hC X Ng x sg g cdg s H).nox (.Try [bst] [.ExceptHandler (some ht) (some en) (h0 :: hs) p5] [] [] p6) (fun D σ1 H1 => tb (wKp tst i ts (fun _ _ _ _ => False) D) D σ1 H1) := by
    refine ps_try_kept (X := (hC X Ng x sg g cdg s H).nox) (tb := tb) (ts := ts) rfl rfl hN hi (hln s H) (hc s H) LamX.takes0 (fun W pn xe tk _ => ?_) (fun b pn => ?_)
    · refine ⟨fun pins s' σ1 H1 D I h' => ?_⟩
      obtain ⟨E, hW, h1, h2, h3⟩ := h'
      exact (hb s H pn xe _ (act W pn xe E q1 q2 tk hW)).run pins s' σ1 H1 D I ⟨h1, h2, h3⟩
    · exact ⟨fun pins s' σ1 H1 D I h' => (hsu s H b pn).run pins s' σ1 H1 D I (h' (I.len.trans hm))⟩
  refine ⟨_, hpre s H _ (pss_cons PT (hr s H)), ?_⟩
  let D1 : Ends := { D0 with nx := fun σ2 H2 => tr D0 σ2 H2 }
  show tS X.K X.mg (fun _ _ _ _ => False) A pre { D0 with nx := fun σ1 H1 => tb (wKp tst i ts (fun _ _ _ _ => False) D1) D1 σ1 H1 } (L2.start Ng [V.ref f]) H
  have hst0 : (L2.start Ng [V.ref f]).length = m := by
    unfold L2.start
    simp
    omega
  have hst1 : (L2.start Ng [V.ref f])[0]? = some (some (.ref f)) := rfl
  refine ⟨Z, List.replicate m none, Fp0, w.less fun _ x => x.elim, env_none er.marks m _ hst0, ?_⟩
  -- what the def's body comes to
  have oo : ∃ ρ1, pre (List.replicate m none) = .ok .nx ρ1 := by
    simp only [lamC] at o
    have none_of : ∀ lo d', mkHQ m pre up i p sM rest lo = some d' → ∃ ρ1, pre (List.replicate m none) = .ok .nx ρ1 := fun lo d' e => by
      unfold mkHQ at e
      split at e
      · rename_i ρ1 e1
        exact ⟨ρ1, e1⟩
      · cases e
    cases e1 : bnd fe use1 ρ with
    | stuck => rw [e1] at o; exact o.elim
    | ok d ρ1 =>
      simp only [e1] at o
      cases e2 : mkHQ m pre up i p sM rest (.val d) with
      | none => rw [e2] at o; exact o.elim
      | some d' => exact none_of _ _ e2
    | exc y ρ1 =>
      simp only [e1] at o
      cases e2 : mkHQ m pre up i p sM rest (.exc y) with
      | none => rw [e2] at o; exact o.elim
      | some d' => exact none_of _ _ e2
  obtain ⟨ρ1, epre⟩ := oo
  rw [epre]
  intro σ1 v0 Z1 H1 S1 Sd kp st dj er1 _
  show tb (wKp tst i ts (fun _ _ _ _ => False) D1) D1 σ1 H1
  have ap0 := st.apart (T := S) (fun a x => w.live a x) fun _ x _ => x.elim
  have w0 : Wd Z H (fun a => Fp0 a ∨ S a) := w.less fun a x => x.elim False.elim id
  have stF : Step Z H S Z1 H1 (fun a => S a ∨ S1 a) := by
    have q := (st.frame w0 fun _ x _ => x.elim).less (S2 := fun a => S a ∨ S1 a) fun a x => x.elim .inr fun y => .inl (.inl y)
    rw [fp0_or] at q
    exact q
  have er' : EnvR X.K Z1 H1 ρ σ S := st.stayE (T := S) (fun _ x _ => x.elim) er
  have djS : ∀ a, S a → S1 a → False := fun a x y => ap0 a (.inl y) x
  refine ⟨fun cls d H' => ∀ σ', wKp tst i ts (fun _ _ _ _ => False) D1 cls d σ' H', fun cls d σ' H' h => h σ', ?_, ?_, htl _ _ _ ⟨Z1, ρ, S, stF.wd.less fun a x => .inl x, er', ?_⟩⟩
  · rw [kp.1 0 hA0]
    exact hst1
  · exact st.fr c' _ (fun x => x.elim) hc' nt_ext
  -- the lambda's call
  simp only [lamC] at o
  cases e1 : fe ρ with
  | stuck => simp only [bnd, e1] at o; exact o.elim
  | exc y ρa =>
    simp only [bnd, e1] at o
    cases e2 : mkHQ m pre up i p sM rest (.exc y) with
    | none => rw [e2] at o; exact o.elim
    | some d' =>
      simp only [e2] at o
      simp only [mkHQ, epre] at e2
      intro cls dd Z2 H2 S2 st2 er2 xr σ'
      obtain ⟨C, h1, h2, rfl, h4⟩ := id xr
      unfold excH at e2
      split at e2
      · rename_i hpx
        split at e2
        · rename_i ρs es
          refine ⟨true, hp _ _ _ h2 hpx, fun _ => ⟨C, rfl, fun b nb hlen => ?_⟩, fun z => nomatch z⟩
          have za : Z2 b = none := st2.wd.zfree nb
          have sm : Same Z2 (upd Z2 b (.ext (XoP b C dd))) := same_new za
          have stn : Step Z2 H2 S2 (upd Z2 b (.ext (XoP b C dd))) (upd H2 b (.ext (XoP b C dd))) S2 := Step.allocZ st2.wd nb
          have kk : ∀ c u, S2 c → H2 c = some u → upd H2 b (.ext (XoP b C dd)) c = some u := fun c u sc e => by
            have : c ≠ b := fun z => by rw [z, nb] at e; cases e
            rw [upd_ne this]
            exact e
          have hlen' : σ'.length = m := by rw [List.length_set] at hlen; exact hlen
          have ern : EnvR X.K (upd Z2 b (.ext (XoP b C dd))) (upd H2 b (.ext (XoP b C dd))) ((List.replicate m none).set i (some (excD y))) (σ'.set i (some (.ref b))) Fp0 :=
            ((env_none (S := Fp0) (er2.marks.same sm) m σ' hlen').drop i).put (by rw [List.length_replicate]; exact hil) (exc_rep xr za) (fun _ z => z) (fun _ z => z) fun _ z _ => z
          refine ⟨_, _, Fp0, stn.wd.less fun _ z => z.elim, ern, ?_⟩
          rw [es]
          intro σ'' v Z4 H4 S4 Sd4 kp4 st4 dj4 er4 _
          show tr D0 (σ''.set i none) H4
          have apc := st4.apart (T := S2) (fun a z => stn.wd.live a z) fun _ z _ => z.elim
          have w2 : Wd (upd Z2 b (.ext (XoP b C dd))) (upd H2 b (.ext (XoP b C dd))) (fun a => Fp0 a ∨ S2 a) := stn.wd.less fun a z => z.elim False.elim id
          have st5 : Step (upd Z2 b (.ext (XoP b C dd))) (upd H2 b (.ext (XoP b C dd))) S2 Z4 H4 (fun a => S4 a ∨ S2 a) := by
            have z := (st4.frame w2 fun _ z _ => z.elim).less (S2 := fun a => S4 a ∨ S2 a) fun a z => z.elim (fun z => .inl (.inl z)) .inr
            rw [fp0_or] at z
            exact z
          have st1' : Step Z H S Z1 H1 S := stF.less fun a z => .inl z
          exact end_ok (((st1'.trans st2).trans stn).trans st5) (fun a z1 z2 => apc a (.inl z1) z2) (none_any er4) (st4.stayE (T := S2) (fun _ z _ => z.elim) (er2.move sm kk fun _ z => z)) e2 o
        · rename_i d ρs es
          cases e2
          refine ⟨true, hp _ _ _ h2 hpx, fun _ => ⟨C, rfl, fun b nb hlen => ?_⟩, fun z => nomatch z⟩
          have za : Z2 b = none := st2.wd.zfree nb
          have sm : Same Z2 (upd Z2 b (.ext (XoP b C dd))) := same_new za
          have stn : Step Z2 H2 S2 (upd Z2 b (.ext (XoP b C dd))) (upd H2 b (.ext (XoP b C dd))) S2 := Step.allocZ st2.wd nb
          have kk : ∀ c u, S2 c → H2 c = some u → upd H2 b (.ext (XoP b C dd)) c = some u := fun c u sc e => by
            have : c ≠ b := fun z => by rw [z, nb] at e; cases e
            rw [upd_ne this]
            exact e
          have hlen' : σ'.length = m := by rw [List.length_set] at hlen; exact hlen
          have ern : EnvR X.K (upd Z2 b (.ext (XoP b C dd))) (upd H2 b (.ext (XoP b C dd))) ((List.replicate m none).set i (some (excD y))) (σ'.set i (some (.ref b))) Fp0 :=
            ((env_none (S := Fp0) (er2.marks.same sm) m σ' hlen').drop i).put (by rw [List.length_replicate]; exact hil) (exc_rep xr za) (fun _ z => z) (fun _ z => z) fun _ z _ => z
          refine ⟨_, _, Fp0, stn.wd.less fun _ z => z.elim, ern, ?_⟩
          rw [es]
          intro σ'' v Z4 H4 S4 Sd4 kp4 st4 dj4 er4 rv
          show Q v H4
          have apc := st4.apart (T := S2) (fun a z => stn.wd.live a z) fun _ z _ => z.elim
          have w2 : Wd (upd Z2 b (.ext (XoP b C dd))) (upd H2 b (.ext (XoP b C dd))) (fun a => Fp0 a ∨ S2 a) := stn.wd.less fun a z => z.elim False.elim id
          have st5 : Step (upd Z2 b (.ext (XoP b C dd))) (upd H2 b (.ext (XoP b C dd))) S2 Z4 H4 (fun a => S2 a ∨ Sd4 a) := by
            have z := (st4.frame w2 fun _ z _ => z.elim).less (S2 := fun a => S2 a ∨ Sd4 a) fun a z => z.elim .inr fun z => .inl (.inr z)
            rw [fp0_or] at z
            exact z
          have st1' : Step Z H S Z1 H1 S := stF.less fun a z => .inl z
          exact o v Z4 H4 S2 Sd4 (((st1'.trans st2).trans stn).trans st5) (fun a z1 z2 => apc a (.inr z2) z1) (st4.stayE (T := S2) (fun _ z _ => z.elim) (er2.move sm kk fun _ z => z)) rv
        · cases e2
      · cases e2
  | ok ev ρa =>
    simp only [bnd, e1] at o
    cases u : use1 ev ρa with
    | stuck => rw [u] at o; exact o.elim
    | exc y ρb =>
      cases ev with
      | val d => cases u
      | ref k =>
        simp only [use1] at u
        split at u <;> cases u
    | ok d ρb =>
      simp only [u] at o
      cases e2 : mkHQ m pre up i p sM rest (.val d) with
      | none => rw [e2] at o; exact o.elim
      | some d' =>
        simp only [e2] at o
        simp only [mkHQ, epre] at e2
        intro v Z2 H2 S2 Sv st2 dj2 er2 r2
        show tr D0 (uq v σ1) H2
        have st2F := st2.frame (T := S1) stF.wd djS
        have ap1 := st2.apart (T := S1) (fun a z => stF.wd.live a (.inr z)) djS
        have er1' : EnvR X.K Z2 H2 ρ1 σ1 S1 := st2.stayE djS er1
        obtain ⟨Z3, S3, st3, m3, er3, rd⟩ := use1_ok (T := S1) st2F.wd dj2 ap1 er2 r2 u
        have er1'' : EnvR X.K Z3 H2 ρ1 σ1 S1 := er1'.move st3.zz (fun _ _ _ z => z) fun _ z => z
        have djv : ∀ a, S1 a → Sv a → False := fun a z1 z2 => ap1 a (.inr z2) z1
        have eru := hup _ _ _ _ _ _ _ _ _ er1'' rd djv
        refine end_ok (Sc := S3) (((stF.trans st2F).trans st3).less fun a z => ?_) (fun a z1 z2 => ?_) eru er3 e2 o
        · rcases z with (z | z) | z
          · exact .inr z
          · exact .inl (.inr z)
          · exact .inl (.inl z)
        · rcases z1 with z1 | z1
          · exact ap1 a (.inl (m3 a z2)) z1
          · exact dj2 a (m3 a z2) z1
end
end Pm
namespace Pm
open PySem PySem.Spec PyProof.Rows L2
/-- cls(..), the class at C in the first slot -/
def makeK (C : Addr) (n : Str) (g : FSem) (fs : M (List EV)) : M EV := fun ρ => match ρ.getD 0 none with
  | some (.op (.ref c)) => if c = C then makeC n g fs ρ else .stuck
  | _ => .stuck
section
variable {K : PySem.W.Frag} {mg : Str → Option Value} {W : WX} {Z H : Hp} {S : Fp} {σ : Sl} {X : Cx}
theorem tE_makeK {n : Str} {C : Addr} {g : FSem} {fs : M (List EV)} {Q : VK} (h : tE K mg W (makeK C n g fs) σ H Q) : σ[0]? = some (some (.ref C)) ∧ tE K mg W (makeC n g fs) σ H Q := by
  obtain ⟨Z, ρ, S, w, er, o⟩ := h
  unfold makeK at o
  split at o
  · rename_i c hc
    split at o
    · rename_i e
      subst e
      obtain ⟨u, T1, T2, hu, _, _, _, r, _⟩ := er.take (getD_some hc)
      have : u = V.ref c := r
      subst this
      exact ⟨hu, Z, ρ, S, w, er, o⟩
    · exact o.elim
  · exact o.elim
theorem E_mkcls {k j : Nat} {x n : Str} {C f : Addr} {fd : FuncData} {ps : List Str} {g : FSem} {e : Expr} {es : List Expr} {fs : M (List EV)} {p pos : Pos} (hC : reg X.K n = some C) (F : IDef X.prog X.w X.K X.mg X.base k n C f fd ps g) (ft : Fit X W j) (ha : PA X (e :: es) (tA X.K X.mg W fs)) (hk : k + 1 ≤ j := by first | decide | omega)
    (hj : X.N[0]? = some x := by rfl) (hv : Vis X.env.scope x := by first | exact Or.inl rfl | exact Or.inr (Or.inl rfl) | exact Or.inr (Or.inr rfl)) (hd : (x == ("__debug__" : Str)) = false := by decide) (hcd : (x == ("__classdict__" : Str)) = false := by decide)
    (he : starEach (e :: es) X.env = (false, eval e X.env) :: starEach es X.env := by rfl) (hpl : (backTo pos (starEach es X.env)).any (·.1) = false := by rfl) :
    PE X (.Call (.Name x p) (e :: es) [] pos) (tE X.K X.mg W (makeK C n g fs)) := by
  refine ⟨fun pins s σ H Q I h => ?_⟩
  obtain ⟨h0, h⟩ := tE_makeK h
  have nameP := pe_var (X := X) (pos := p) (i := 0) hj hv hd hcd
  refine wpAny_Call_Name_kw (thn (nameP.run pins s σ H (fun v HZ => v = .ref C ∧ HZ = H) I ⟨.ref C, h0, rfl, rfl⟩) fun val sZ ⟨v, HZ, IZ, rZ, eqs⟩ => ?_)
  obtain ⟨rfl, rfl⟩ := eqs
  obtain rfl : val = Value.ref C := rZ
  refine PySem.W.callWith_K (h₀ := X.base) IZ.ok.mod.kin F.mkd.kp (thn (ha.run pos pins sZ σ HZ _ IZ (tE_make hC h)) fun us s1 ⟨vs, H1, I1, r, q⟩ => ⟨I1.kIn, ?_⟩) he hpl
  exact run_makeG F ft.gd (ft.room.mono hk) ft.tk I1 r q
/-- what is told of a def with the class ahead, from what it makes of the rest -/
def ClsFree (S : Addr → FSem) (T : FSem) : Prop := ∀ C ds, S C (.op (.ref C) :: ds) = match T ds with
  | .stuck => .stuck
  | .ret d as => .ret d (.op (.ref C) :: as)
  | .exc x as => .exc x (.op (.ref C) :: as)
theorem spG_cls {S : Addr → FSem} {T : FSem} {C : Addr} {vs : List V} {Q : VK} {E : L2.XK} (f : ClsFree S T) (h : spG K mg T vs H Q E) : spG K mg (S C) (.ref C :: vs) H Q E := by
  obtain ⟨Z, Sf, ds, mk, w, r, o⟩ := h
  refine ⟨Z, Sf, .op (.ref C) :: ds, mk, w, ⟨Fp0, Sf, fun _ x => x.elim, fun _ x => x, fun _ x _ => x, rfl, r⟩, ?_⟩
  rw [f C ds]
  cases e : T ds with
  | stuck => rw [e] at o; exact o
  | ret d as =>
    rw [e] at o
    intro v Z' H' S' Sd st dj ra rd
    obtain ⟨S1, S2, s1, s2, sj, r1, r2⟩ := ra
    exact o v Z' H' S' Sd st dj (r2.move (Same.refl _) (fun _ _ _ e => e) s2) rd
  | exc x as =>
    rw [e] at o
    intro cls dd Z' H' S' st ra xr
    obtain ⟨S1, S2, s1, s2, sj, r1, r2⟩ := ra
    exact o cls dd Z' H' S' st (r2.move (Same.refl _) (fun _ _ _ e => e) s2) xr
/-- a classmethod of the class n -/
structure CDefM (P : Program) (w : World) (K : PySem.W.Frag) (mg : Str → Option Value) (base : Heap) (k : Nat) (n : Str) (C : Addr) (m : Str) (f : Addr) (fd : FuncData) (ps : List Str) (S : Addr → FSem) : Prop where
  ok : FnG P w K mg base k f fd ps (S C)
  mg : mg n = some (.ref C)
  rd : ∃ mc p, ClX.CRead K C mc ∧ ClX.CMet K C mc m p f
  bd : Binds K fd ps []
theorem E_clsm {k j : Nat} {n m : Str} {C f : Addr} {fd : FuncData} {ps : List Str} {S : Addr → FSem} {T : FSem} {e : Expr} {es : List Expr} {fs : M (List EV)} {np apos pos : Pos} {pl : Sem Bool} (F : CDefM X.prog X.w X.K X.mg X.base k n C m f fd ps S) (hf : ClsFree S T) (ft : Fit X W j) (ha : PA X (e :: es) (tA X.K X.mg W fs)) (hk : k ≤ j := by first | decide | omega) (hg : Gl X n := by rfl)
    (hdb : (n == ("__debug__" : Str)) = false := by decide) (hst : starEach (e :: es) X.env = (false, eval e X.env) :: starEach es X.env := by rfl) (hpl : (backTo pos (starEach es X.env)).any (·.1) = false := by rfl)
    (ht : eval (.Call (.Attribute (.Name n np) m apos) (e :: es) [] pos) X.env = (do
      let ov ← eval (.Name n np) X.env
      standAt apos.atName
      let (f, first) ← holding [ov] (getMethod ov m pl)
      callWith pos f first (backTo pos (starEach (e :: es) X.env)) (backToKw pos (keywordEach [] X.env))) := by rfl) :
    PE X (.Call (.Attribute (.Name n np) m apos) (e :: es) [] pos) (tE X.K X.mg W (callF T fs)) := by
  obtain ⟨mc, p, r, c⟩ := F.rd
  refine ⟨fun pins s σ H Q I h => ?_⟩
  have nameP : PE X (.Name n np) (tC (.ref C)) := pe_glob hg F.mg rfl hdb
  refine PySem.W.methodCall_KW (pl := pl) (thn (nameP.run pins s σ H (fun v H1 => v = .ref C ∧ H1 = H) I ⟨rfl, rfl⟩) fun u s1 ⟨x, H1, I1, rx, ex⟩ => ?_) ht
  obtain ⟨rfl, rfl⟩ := ex
  obtain rfl : u = Value.ref C := rx
  refine ClX.getmethcm_ok I1 r c fun s2 I2 => ?_
  refine ClX.callwith_cm I2 (ClX.base_none I1 (Nat.le_refl _)) c.fi (thn (ha.run pos _ s2 σ H1 _ I2 (tE_call h)) fun us s3 ⟨vs, H2, I3, rv, q2⟩ => ⟨⟨ClX.pin_at I3, I3.kIn⟩, ?_⟩) hst hpl
  have q3 := spG_cls (C := C) hf q2
  have z : wpAny (model X.prog X.w) X.A (call (.ref s1.heap.objs.size) us) (EP X ((s1.heap.objs.size, PySem.W.methodObj (.ref f) (.ref C)) :: pins) σ Q) X.xe s3 := by
    refine wpAny_call (PySem.W.method_call (ClX.pin_at I3) (codeAny_mono (run_G (us := .ref C :: us) (ws := .ref C :: us) (vs := V.ref C :: vs) (kws := []) F.ok ft.gd (ft.room.mono hk) ft.tk (fun hl => by have b := F.bd s3 (.ref C :: us) I3.kIn (by rw [List.append_nil]; exact hl); rw [List.append_nil] at b; exact b) I3 (.cons rfl rv) q3) fun r s' hq => ?_))
    cases r with
    | error e => exact hq
    | ok fl =>
      cases fl with
      | ret u => exact hq
      | next => exact hq.elim
      | brk => exact hq.elim
      | cont => exact hq.elim
  exact thn z fun _ _ y => ClX.unpinE y
end
end Pm
namespace Pm
open PySem PySem.Spec PyProof.Rows L2
/-- once(cls, a, b): cls(a, b, x) -/
theorem clsFree2 (n : Str) (g : FSem) (x : D) : ClsFree (fun C => mkF 3 3 [] (rtn (makeK C n g (aCons (loc 1) (aCons (loc 2) (aCons (con x) aNil)))))) (mkF 2 2 [] (rtn (makeC n g (aCons (loc 0) (aCons (loc 1) (aCons (con x) aNil)))))) := by
  intro C ds
  match ds with
  | [] => rfl
  | [_] => rfl
  | _ :: _ :: _ :: l =>
    have h1 : ¬((l.length + 1 + 1 + 1 + 1 = 3) ∧ 3 ≤ 3) := by omega
    have h2 : ¬((l.length + 1 + 1 + 1 = 2) ∧ 2 ≤ 2) := by omega
    simp only [mkF, List.length_cons, if_neg h1, if_neg h2]
  | [a, b] =>
    have e1 : (aCons (loc 1) (aCons (loc 2) (aCons (con x) aNil))) [some (.op (.ref C)), some a, some b] = .ok [.ref 1, .ref 2, .val x] [some (.op (.ref C)), some a, some b] := rfl
    have e2 : (aCons (loc 0) (aCons (loc 1) (aCons (con x) aNil))) [some a, some b] = .ok [.ref 0, .ref 1, .val x] [some a, some b] := rfl
    have t1 : takes [some (.op (.ref C)), some a, some b] [.ref 1, .ref 2, .val x] = some ([a, b, x], [some (.op (.ref C)), (if a.plain then some a else none), (if b.plain then some b else none)]) := by
      cases ha : a.plain <;> cases hb : b.plain <;> simp [takes, ha, hb]
    have t2 : takes [some a, some b] [.ref 0, .ref 1, .val x] = some ([a, b, x], [(if a.plain then some a else none), (if b.plain then some b else none)]) := by
      cases ha : a.plain <;> cases hb : b.plain <;> simp [takes, ha, hb]
    have p1 : ∀ as : List D, puts [.ref 1, .ref 2, .val x] [a, b, x] as [some (.op (.ref C)), (if a.plain then some a else none), (if b.plain then some b else none)] = some (.op (.ref C)) :: puts [.ref 0, .ref 1, .val x] [a, b, x] as [(if a.plain then some a else none), (if b.plain then some b else none)] := fun as => by
      match as with
      | [] => rfl
      | [u] => cases ha : a.plain <;> cases hb : b.plain <;> simp [puts, ha, hb]
      | [u, v] => cases ha : a.plain <;> cases hb : b.plain <;> simp [puts, ha, hb]
      | u :: v :: w :: r => cases ha : a.plain <;> cases hb : b.plain <;> cases r <;> simp [puts, ha, hb]
    have ab : ∀ ρ : Env, argsBack [] (some (.op (.ref C)) :: ρ) 0 [.op (.ref C), a, b] = (argsBack [] ρ 0 [a, b]).map fun as => .op (.ref C) :: as := fun ρ => by
      have hp : (D.op (.ref C)).plain = true := rfl
      simp only [argsBack, hp, Bool.true_or, if_true, List.not_mem_nil, decide_false, Bool.or_false, List.getD_cons_succ, Nat.zero_add]
      cases h1 : (if a.plain = true then some a else ρ.getD 0 none) <;> cases h2 : (if b.plain = true then some b else ρ.getD 1 none) <;> simp
    have r1 : makeK C n g (aCons (loc 1) (aCons (loc 2) (aCons (con x) aNil))) [some (.op (.ref C)), some a, some b] = makeC n g (aCons (loc 1) (aCons (loc 2) (aCons (con x) aNil))) [some (.op (.ref C)), some a, some b] := by
      unfold makeK
      simp
    simp only [mkF, List.length_cons, List.length_nil, Nat.zero_add, Nat.reduceAdd, and_self, if_true, Nat.le_refl, reFrz, List.not_mem_nil, if_false, List.map_cons, List.map_nil, Nat.sub_self, List.replicate_zero, List.append_nil, rtn, bnd, r1]
    simp only [makeC, bnd, e1, e2, t1, t2]
    cases hg : g (.node true (.ins n []) [] :: [a, b, x]) with
    | stuck => simp
    | ret d as =>
      cases d with
      | non =>
        cases as with
        | nil => simp
        | cons d0 as =>
          simp only [p1, use1, Pm.ret, ab]
          cases argsBack [] (puts [.ref 0, .ref 1, .val x] [a, b, x] as [(if a.plain then some a else none), (if b.plain then some b else none)]) 0 [a, b] <;> simp
      | _ => simp
    | exc y as =>
      cases as with
      | nil => simp
      | cons d0 as =>
        simp only [p1, ab]
        cases argsBack [] (puts [.ref 0, .ref 1, .val x] [a, b, x] as [(if a.plain then some a else none), (if b.plain then some b else none)]) 0 [a, b] <;> simp
end Pm
set_option maxHeartbeats 0
namespace Pk52
open PySem PySem.Spec PyProof.Rows L2 Pm
def topS (i : Nat) : Stmt := PySem.Challenge.pw_wearbinds_k52_blocks_that_are_refused.main.body.getD i (.Pass ⟨0, 0, 0, 0⟩)
abbrev i_InvalidTimes : Stmt := (clsB (topS 4)).getD 0 (.Pass ⟨0, 0, 0, 0⟩)
theorem isc_InvalidTimes : FnScope ["self", "value"] ["self", "value"] (defScope i_InvalidTimes) := ⟨rfl, rfl, rfl, by decide +kernel, rfl, by decide +kernel, by decide +kernel⟩
abbrev i_UnknownOperator : Stmt := (clsB (topS 5)).getD 0 (.Pass ⟨0, 0, 0, 0⟩)
theorem isc_UnknownOperator : FnScope ["self", "letter"] ["self", "letter"] (defScope i_UnknownOperator) := ⟨rfl, rfl, rfl, by decide +kernel, rfl, by decide +kernel, by decide +kernel⟩
abbrev s__law_pen : Stmt := topS 14
theorem sc__law_pen : FnScope ["_law_script"] ["_law_script"] (defScope s__law_pen) := ⟨rfl, rfl, rfl, by decide +kernel, rfl, by decide +kernel, by decide +kernel⟩
noncomputable def b__law_pen : M Fl := (rtn (disp true .lst (aCons (app opList (aCons (cut (loc 0) none (some (con (.int 63)))) aNil)) (aCons (con (.int 0)) (aCons (con (.int 0)) aNil)))))
noncomputable def S__law_pen : FSem := mkF 1 1 [] b__law_pen
abbrev s__law_draw : Stmt := topS 15
theorem sc__law_draw : FnScope ["_law_pen_here", "_law_count", "_law_digit", "_law_at", "_law_cell", "_law_large", "_law_mixed"] ["_law_pen_here", "_law_count"] (defScope s__law_draw) := ⟨rfl, rfl, rfl, by decide +kernel, rfl, by decide +kernel, by decide +kernel⟩
noncomputable def b__law_draw : M Fl := (seq (ite (tst (bin (on2I iGt) (idx (aCons (loc 0) (aCons (con (.int 2)) aNil))) (con (.int 0)))) (seq (asg (bin (on2I iMod) (idx (aCons (loc 0) (aCons (con (.int 2)) aNil))) (loc 1)) (gN 2))
    (seq (asg (bin (on2I iDiv) (idx (aCons (loc 0) (aCons (con (.int 2)) aNil))) (loc 1)) (gI 0 (con (.int 2))))
    (rtn (mov 2)))) sNx)
    (seq (asg (idx (aCons (loc 0) (aCons (con (.int 1)) aNil))) (gN 3))
    (seq (asg (bin (on2I iAdd) (loc 3) (con (.int 1))) (gI 0 (con (.int 1))))
    (seq (asg (bin (on2I iAdd) (bin (on2I iMul) (con (.int 8699)) (loc 3)) (con (.int 577))) (gN 4))
    (seq (ite (tst (bin opNe (idx (aCons (loc 0) (aCons (con (.int 0)) aNil))) (disp true .lst aNil))) (asg (idx (aCons (idx (aCons (loc 0) (aCons (con (.int 0)) aNil))) (aCons (bin (on2I iMod) (loc 3) (app opLen (aCons (idx (aCons (loc 0) (aCons (con (.int 0)) aNil))) aNil))) aNil))) (gN 4)) sNx)
    (seq (ite (andT (tst (bin (on2I iLt) (loc 3) (app opLen (aCons (idx (aCons (loc 0) (aCons (con (.int 0)) aNil))) aNil)))) (tst (bin (on2I iGe) (app opAbs (aCons (loc 4) aNil)) (bin (on2I iPow) (con (.int 10)) (con (.int 18)))))) (seq (asg (bin (on2I iAdd) (bin (on2I iMul) (con (.int 2)) (bin (on2I iSub) (app opAbs (aCons (loc 4) aNil)) (bin (on2I iPow) (con (.int 10)) (con (.int 18))))) (app opInt1 (aCons (bin (on2I iLt) (loc 4) (con (.int 0))) aNil))) (gN 5))
    (seq (asg (bin (on2I iDiv) (loc 5) (loc 1)) (gI 0 (con (.int 2))))
    (rtn (bin (on2I iMod) (loc 5) (loc 1))))) sNx)
    (seq (asg (bin (on2I iMod) (bin (on2I iPow) (bin (on2I iAdd) (bin (on2I iAdd) (bin (on2I iMod) (loc 4) (con (.int 2147483587))) (bin (on2I iMul) (con (.int 47711)) (loc 3))) (con (.int 41))) (con (.int 5))) (con (.int 2147483647))) (gN 6))
    (seq (asg (bin (on2I iMod) (bin (on2I iPow) (bin (on2I iAdd) (bin (on2I iAdd) (bin (on2I iMul) (loc 6) (bin (on2I iAdd) (bin (on2I iMul) (con (.int 2)) (loc 3)) (con (.int 23)))) (bin (on2I iMul) (bin (on2I iMul) (con (.int 70001)) (loc 3)) (loc 3))) (con (.int 7))) (con (.int 3))) (con (.int 2147483563))) (gN 6))
    (rtn (bin (on2I iMod) (bin (on2I iDiv) (loc 6) (con (.int 32))) (loc 1)))))))))))
noncomputable def S__law_draw : FSem := mkF 2 7 [] b__law_draw
abbrev s__law_number : Stmt := topS 16
theorem sc__law_number : FnScope ["_law_pen_here", "_law_reach", "_law_bound"] ["_law_pen_here", "_law_reach"] (defScope s__law_number) := ⟨rfl, rfl, rfl, by decide +kernel, rfl, by decide +kernel, by decide +kernel⟩
noncomputable def b__law_number : M Fl := (seq (asg (idx (aCons (disp true .lst (aCons (con (.int 1)) (aCons (con (.int 3)) (aCons (loc 1) (aCons (bin (on2I iPow) (con (.int 10)) (con (.int 12))) aNil))))) (aCons (callF S__law_draw (aCons (loc 0) (aCons (con (.int 4)) aNil))) aNil))) (gN 2))
    (rtn (bin (on2I iSub) (callF S__law_draw (aCons (loc 0) (aCons (bin hAdd (bin hMulT (con (.int 2)) (loc 2)) (con (.int 1))) aNil))) (loc 2))))
noncomputable def S__law_number : FSem := mkF 2 3 [] b__law_number
abbrev s__law_entries : Stmt := topS 17
theorem sc__law_entries : FnScope ["_law_pen_here", "_law_many", "_law_left", "_law_signs_here", "_law_way", "_law_alike", "_law_found", "_law_sign", "_law_power", "_law_loss", "_law_k"] ["_law_pen_here", "_law_many"] (defScope s__law_entries) := ⟨rfl, rfl, rfl, by decide +kernel, rfl, by decide +kernel, by decide +kernel⟩
noncomputable def b__law_entries : M Fl := (seq (asg (app opListA (aCons (con (.str "abcdefghijklmnopqrstuvwxyz")) aNil)) (gN 2))
    (seq (asg (app opSorted (aCons (comp [10] (srcR1 (aCons (bin hAdd (con (.int 1)) (callF S__law_draw (aCons (loc 0) (aCons (loc 1) aNil)))) aNil)) (gN 10) yesT (popi 2 (callF S__law_draw (aCons (loc 0) (aCons (app opLen (aCons (loc 2) aNil)) aNil))))) aNil)) (gN 3))
    (seq (asg (callF S__law_draw (aCons (loc 0) (aCons (con (.int 4)) aNil))) (gN 4))
    (seq (asg (callF S__law_number (aCons (loc 0) (aCons (con (.int 9)) aNil))) (gN 5))
    (seq (asg (disp true .lst aNil) (gN 6))
    (seq (forS (srcA (loc 3)) (gN 7) (seq (par 8 9 (aCons (callF S__law_number (aCons (loc 0) (aCons (con (.int 40)) aNil))) (aCons (callF S__law_number (aCons (loc 0) (aCons (con (.int 5)) aNil))) aNil)))
    (drp (appd 6 (disp false .tup (aCons (loc 7) (aCons (idx (aCons (disp true .lst (aCons (loc 8) (aCons (loc 5) aNil))) (aCons (app opInt (aCons (bin opEq (loc 4) (con (.int 1))) aNil)) aNil))) (aCons (idx (aCons (disp true .lst (aCons (loc 9) (aCons (loc 5) (aCons (loc 9) (aCons (con (.int 0)) aNil))))) (aCons (loc 4) aNil))) aNil))))))))
    (rtn (app opTuple (aCons (loc 6) aNil)))))))))
noncomputable def S__law_entries : FSem := mkF 2 11 [] b__law_entries
abbrev s__law_signs : Stmt := topS 18
theorem sc__law_signs : FnScope ["_law_entries_here", "_law_entry"] ["_law_entries_here"] (defScope s__law_signs) := ⟨rfl, rfl, rfl, by decide +kernel, rfl, by decide +kernel, by decide +kernel⟩
noncomputable def b__law_signs : M Fl := (rtn (comp [1] (srcA (loc 0)) (gN 1) yesT (idx (aCons (loc 1) (aCons (con (.int 0)) aNil)))))
noncomputable def S__law_signs : FSem := mkF 1 2 [] b__law_signs
abbrev s__law_some : Stmt := topS 19
theorem sc__law_some : FnScope ["_law_pen_here", "_law_entries_here", "_law_size", "_law_signs_here", "_law_few", "_law_k"] ["_law_pen_here", "_law_entries_here", "_law_size"] (defScope s__law_some) := ⟨rfl, rfl, rfl, by decide +kernel, rfl, by decide +kernel, by decide +kernel⟩
noncomputable def b__law_some : M Fl := (seq (asg (callF S__law_signs (aCons (loc 1) aNil)) (gN 3))
    (seq (asg (idx (aCons (disp true .lst (aCons (loc 3) (aCons (cut (loc 3) none (some (con (.int 2)))) aNil))) (aCons (callF S__law_draw (aCons (loc 0) (aCons (con (.int 2)) aNil))) aNil))) (gN 4))
    (rtn (smet1 opJoin (con (.str "")) (comp [5] (srcR1 (aCons (loc 2) aNil)) (gN 5) yesT (idx (aCons (loc 4) (aCons (callF S__law_draw (aCons (loc 0) (aCons (app opLen (aCons (loc 4) aNil)) aNil))) aNil))))))))
noncomputable def S__law_some : FSem := mkF 3 6 [] b__law_some
abbrev s__law_block : Stmt := topS 20
theorem sc__law_block : FnScope ["_law_pen_here", "_law_wide", "_law_entries_here"] ["_law_pen_here", "_law_wide"] (defScope s__law_block) := ⟨rfl, rfl, rfl, by decide +kernel, rfl, by decide +kernel, by decide +kernel⟩
noncomputable def b__law_block : M Fl := (seq (asg (callF S__law_entries (aCons (loc 0) (aCons (con (.int 6)) aNil))) (gN 2))
    (rtn (disp false .tup (aCons (loc 2) (aCons (callF S__law_some (aCons (loc 0) (aCons (loc 2) (aCons (bin hAdd (con (.int 1)) (callF S__law_draw (aCons (loc 0) (aCons (loc 1) aNil)))) aNil)))) aNil)))))
noncomputable def S__law_block : FSem := mkF 2 3 [] b__law_block
abbrev s__law_heard : Stmt := topS 23
theorem sc__law_heard : FnScope ["_law_ask", "error"] ["_law_ask"] (defScope s__law_heard) := ⟨rfl, rfl, rfl, by decide +kernel, rfl, by decide +kernel, by decide +kernel⟩
noncomputable def p__law_heard : M Fl := sNx
noncomputable def q__law_heard : M Fl := (seq (ite (andT (tst (xis (lkT [("InvalidTimes", false), ("UnknownOperator", true)]) (loc 1))) (tst (xis (lkT [("InvalidTimes", false), ("UnknownOperator", true)]) (loc 1)))) (rtn (idx (aCons (disp true .lst (aCons (con (.str "odd")) (aCons (disp false .tup (aCons (con (.str "letter")) (aCons (xget ["UnknownOperator"] "letter" (loc 1)) aNil))) aNil))) (aCons (app opInt (aCons (notE (xis (lkT [("InvalidTimes", true), ("UnknownOperator", false)]) (loc 1))) aNil)) aNil)))) sNx)
    (seq (ite (andT (tst (xis (lkT [("InvalidTimes", true), ("UnknownOperator", false)]) (loc 1))) (tst (xis (lkT [("InvalidTimes", true), ("UnknownOperator", false)]) (loc 1)))) (rtn (idx (aCons (disp true .lst (aCons (con (.str "odd")) (aCons (disp false .tup (aCons (con (.str "times")) (aCons (xget ["InvalidTimes"] "value" (loc 1)) aNil))) aNil))) (aCons (app opInt (aCons (notE (xit (lkT [("InvalidTimes", false), ("UnknownOperator", true)]) (loc 1))) aNil)) aNil)))) sNx)
    (rtn (con (.str "odd")))))
noncomputable def r__law_heard : M Fl := (rtn (con .non))
noncomputable def H__law_heard : LO → Option D := mkHQ 2 p__law_heard (fun _ ρ => ρ) 1 (lkT [("InvalidTimes", true), ("UnknownOperator", true)]) q__law_heard r__law_heard
abbrev s__law_due : Stmt := topS 24
theorem sc__law_due : FnScope ["_law_entries_here", "_law_row", "_law_number_here", "_law_unknown", "_law_sign", "_law_entry"] ["_law_entries_here", "_law_row", "_law_number_here"] (defScope s__law_due) := ⟨rfl, rfl, rfl, by decide +kernel, rfl, by decide +kernel, by decide +kernel⟩
noncomputable def b__law_due : M Fl := (seq (asg (comp [4] (srcA (loc 1)) (gN 4) (tst (bin opNotIn (loc 4) (comp [5] (srcA (loc 0)) (gN 5) yesT (idx (aCons (loc 5) (aCons (con (.int 0)) aNil)))))) (loc 4)) (gN 3))
    (seq (ite (tst (bin opNe (loc 3) (disp true .lst aNil))) (rtn (disp false .tup (aCons (con (.str "letter")) (aCons (idx (aCons (loc 3) (aCons (con (.int 0)) aNil))) aNil)))) sNx)
    (seq (ite (orT (tst (app opIsi (aCons (loc 2) (aCons (con (.op (.ty "bool"))) aNil)))) (orT (notT (tst (app opIsi (aCons (loc 2) (aCons (con (.op (.ty "int"))) aNil))))) (notT (tst (chI cLt cLe (con (.int 0)) (loc 2) (bin (on2I iPow) (con (.int 10)) (con (.int 30)))))))) (rtn (disp false .tup (aCons (con (.str "times")) (aCons (loc 2) aNil)))) sNx)
    (rtn (con .non)))))
noncomputable def S__law_due : FSem := mkF 3 6 [] b__law_due
abbrev s_Place____init__ : Stmt := (clsB (topS 10)).getD 0 (.Pass ⟨0, 0, 0, 0⟩)
theorem sc_Place____init__ : FnScope ["self", "mark", "first_use", "uses", "strength", "step"] ["self", "mark", "first_use", "uses", "strength", "step"] (defScope s_Place____init__) := ⟨rfl, rfl, rfl, by decide +kernel, rfl, by decide +kernel, by decide +kernel⟩
noncomputable def b_Place____init__ : M Fl := (seq (setA 0 "Place" "mark" (loc 1))
    (seq (setA 0 "Place" "first_use" (loc 2))
    (seq (setA 0 "Place" "uses" (loc 3))
    (seq (setA 0 "Place" "first_strength" (bin (on2I iSub) (loc 4) (bin hMulT (loc 2) (loc 5))))
    (setA 0 "Place" "loss" (bin hMulT (loc 3) (loc 5)))))))
noncomputable def S_Place____init__ : FSem := mkF 6 6 [] b_Place____init__
abbrev s_places_of : Stmt := topS 11
theorem sc_places_of : FnScope ["table", "block", "entries", "found", "index", "letter", "strength", "step"] ["table", "block"] (defScope s_places_of) := ⟨rfl, rfl, rfl, by decide +kernel, rfl, by decide +kernel, by decide +kernel⟩
noncomputable def b_places_of : M Fl := (seq (asg (dcomp [5, 6, 7] (srcA (loc 0)) (gT (gsC (gN 5) (gsC (gN 6) (gsC (gN 7) gs0))) 3) yesT (loc 5) (frzE (disp false .tup (aCons (loc 6) (aCons (loc 7) aNil))))) (gN 2))
    (seq (asg (disp true .lst aNil) (gN 3))
    (seq (forS (srcEnumS (loc 1)) (gT (gsC (gN 4) (gsC (gN 5) gs0)) 2) (seq (ite (tst (bin (opDIn true) (loc 5) (loc 2))) (raise1 "UnknownOperator" "letter" (loc 5)) sNx)
    (seq (asg (bin opDGet (loc 2) (loc 5)) (gT (gsC (gN 6) (gsC (gN 7) gs0)) 2))
    (drp (appd 3 (makeC "Place" S_Place____init__ (aCons (loc 5) (aCons (smet1 opCountS (cut (loc 1) none (some (loc 4))) (loc 5)) (aCons (smet1 opCountS (loc 1) (loc 5)) (aCons (loc 6) (aCons (loc 7) aNil)))))))))))
    (rtn (mov 3)))))
noncomputable def S_places_of : FSem := mkF 2 8 [] b_places_of
abbrev s_Repeated__table__set : Stmt := (clsB (topS 12)).getD 4 (.Pass ⟨0, 0, 0, 0⟩)
theorem sc_Repeated__table__set : FnScope ["self", "value"] ["self", "value"] (defScope s_Repeated__table__set) := ⟨rfl, rfl, rfl, by decide +kernel, rfl, by decide +kernel, by decide +kernel⟩
noncomputable def b_Repeated__table__set : M Fl := (seq (setA 0 "Repeated" "places" (frzE (callF S_places_of (aCons (loc 1) (aCons (fldE "Repeated" "pattern" (loc 0)) aNil)))))
    (setA 0 "Repeated" "origin" (loc 1)))
noncomputable def S_Repeated__table__set : FSem := mkF 2 2 [] b_Repeated__table__set
abbrev s_is_integer : Stmt := topS 7
theorem sc_is_integer : FnScope ["value"] ["value"] (defScope s_is_integer) := ⟨rfl, rfl, rfl, by decide +kernel, rfl, by decide +kernel, by decide +kernel⟩
noncomputable def b_is_integer : M Fl := (rtn (andE (app opIsi (aCons (loc 0) (aCons (con (.op (.ty "int"))) aNil))) (notE (app opIsi (aCons (loc 0) (aCons (con (.op (.ty "bool"))) aNil))))))
noncomputable def S_is_integer : FSem := mkF 1 1 [] b_is_integer
abbrev s_is_between : Stmt := topS 8
theorem sc_is_between : FnScope ["value", "least", "most"] ["value", "least", "most"] (defScope s_is_between) := ⟨rfl, rfl, rfl, by decide +kernel, rfl, by decide +kernel, by decide +kernel⟩
noncomputable def b_is_between : M Fl := (rtn (andE (callF S_is_integer (aCons (loc 0) aNil)) (chI cLe cLe (loc 1) (loc 0) (loc 2))))
noncomputable def S_is_between : FSem := mkF 3 3 [] b_is_between
abbrev s_Repeated__times__set : Stmt := (clsB (topS 12)).getD 7 (.Pass ⟨0, 0, 0, 0⟩)
theorem sc_Repeated__times__set : FnScope ["self", "value"] ["self", "value"] (defScope s_Repeated__times__set) := ⟨rfl, rfl, rfl, by decide +kernel, rfl, by decide +kernel, by decide +kernel⟩
noncomputable def b_Repeated__times__set : M Fl := (seq (ite (notT (tst (callF S_is_between (aCons (loc 1) (aCons (con (.int 1)) (aCons (callF (conS 1000000000000000000000000000000) (aCons (chk "Repeated" "MOST_TIMES" (loc 0)) aNil)) aNil)))))) (raise1 "InvalidTimes" "value" (loc 1)) sNx)
    (setA 0 "Repeated" "repetitions" (loc 1)))
noncomputable def S_Repeated__times__set : FSem := mkF 2 2 [] b_Repeated__times__set
abbrev s_Repeated____init__ : Stmt := (clsB (topS 12)).getD 1 (.Pass ⟨0, 0, 0, 0⟩)
theorem sc_Repeated____init__ : FnScope ["self", "table", "block", "times"] ["self", "table", "block", "times"] (defScope s_Repeated____init__) := ⟨rfl, rfl, rfl, by decide +kernel, rfl, by decide +kernel, by decide +kernel⟩
noncomputable def b_Repeated____init__ : M Fl := (seq (setA 0 "Repeated" "pattern" (loc 2))
    (seq (setP 0 "Repeated" "table" S_Repeated__table__set (loc 1))
    (setP 0 "Repeated" "times" S_Repeated__times__set (loc 3))))
noncomputable def S_Repeated____init__ : FSem := mkF 4 4 [] b_Repeated____init__
abbrev s_Repeated__once : Stmt := (clsB (topS 12)).getD 2 (.Pass ⟨0, 0, 0, 0⟩)
theorem sc_Repeated__once : FnScope ["cls", "table", "letters"] ["cls", "table", "letters"] (defScope s_Repeated__once) := ⟨rfl, rfl, rfl, by decide +kernel, rfl, by decide +kernel, by decide +kernel⟩
noncomputable def b_Repeated__once (C_Repeated : Addr) : M Fl := (rtn (makeK C_Repeated "Repeated" S_Repeated____init__ (aCons (loc 1) (aCons (loc 2) (aCons (con (.int 1)) aNil)))))
noncomputable def S_Repeated__once : Addr → FSem := fun C => mkF 3 3 [] (b_Repeated__once C)
noncomputable def T_Repeated__once : FSem := mkF 2 2 [] (rtn (makeC "Repeated" S_Repeated____init__ (aCons (loc 0) (aCons (loc 1) (aCons (con (.int 1)) aNil)))))
theorem cf_Repeated__once : ClsFree S_Repeated__once T_Repeated__once := clsFree2 _ _ _
abbrev s_law : Stmt := topS 25
theorem sc_law : FnScope ["_law_script", "_law_pen_here", "_law_lap", "_law_entries_here", "_law_row", "_law_at", "_law_odd", "_law_number_here", "_law_kept"] ["_law_script"] (defScope s_law) := ⟨rfl, rfl, rfl, by decide +kernel, rfl, by decide +kernel, by decide +kernel⟩
noncomputable def b_law : M Fl := (seq (asg (callF S__law_pen (aCons (loc 0) aNil)) (gN 1))
    (seq (forS (srcR1 (aCons (con (.int 6)) aNil)) (gN 2) (seq (asg (callF S__law_block (aCons (loc 1) (aCons (con (.int 40)) aNil))) (gT (gsC (gN 3) (gsC (gN 4) gs0)) 2))
    (seq (asg (callF S__law_draw (aCons (loc 1) (aCons (bin hAdd (app opLen (aCons (loc 4) aNil)) (con (.int 1))) aNil))) (gN 5))
    (seq (ite (tst (bin opEq (callF S__law_draw (aCons (loc 1) (aCons (con (.int 2)) aNil))) (con (.int 0)))) (asg (cut (bin hAdd (bin hAdd (cut (loc 4) none (some (loc 5))) (idx (aCons (disp true .lst (aCons (con (.str "q")) (aCons (con (.str "xq")) (aCons (con (.str "zqx")) aNil)))) (aCons (callF S__law_draw (aCons (loc 1) (aCons (con (.int 3)) aNil))) aNil)))) (cut (loc 4) (some (loc 5)) none)) none (some (con (.int 40)))) (gN 4)) sNx)
    (seq (asg (disp true .lst (aCons (con (.int 0)) (aCons (un opNeg (con (.int 1))) (aCons (con (.bl true)) (aCons (con (.bl false)) (aCons (con .non) (aCons (con (.str "")) (aCons (con (.str "1")) (aCons (disp false .tup (aCons (con (.int 1)) aNil)) (aCons (disp true .lst (aCons (con (.int 1)) aNil)) (aCons newD (aCons (bin hAdd (bin (on2I iPow) (con (.int 10)) (con (.int 30))) (con (.int 1))) (aCons (bin (on2I iPow) (con (.int 10)) (con (.int 59))) (aCons (con (.int 1)) (aCons (bin (on2I iPow) (con (.int 10)) (con (.int 30))) (aCons (con (.int 7)) (aCons (bin (on2I iPow) (con (.int 10)) (con (.int 12))) aNil))))))))))))))))) (gN 6))
    (seq (asg (idx (aCons (loc 6) (aCons (callF S__law_draw (aCons (loc 1) (aCons (con (.int 16)) aNil))) aNil))) (gN 7))
    (seq (asg (app opReprC (aCons (disp false .tup (aCons (loc 3) (aCons (loc 4) (aCons (loc 7) aNil)))) aNil)) (gN 8))
    (seq (ite (tst (bin opNe (app opReprC (aCons (lamC H__law_heard (makeC "Repeated" S_Repeated____init__ (aCons (loc 3) (aCons (loc 4) (aCons (loc 7) aNil))))) aNil)) (app opReprC (aCons (callF S__law_due (aCons (loc 3) (aCons (loc 4) (aCons (loc 7) aNil)))) aNil)))) (rtn (con (.bl false))) sNx)
    (seq (ite (tst (bin opNe (app opReprC (aCons (lamC H__law_heard (callF T_Repeated__once (aCons (loc 3) (aCons (loc 4) aNil)))) aNil)) (app opReprC (aCons (callF S__law_due (aCons (loc 3) (aCons (loc 4) (aCons (con (.int 1)) aNil)))) aNil)))) (rtn (con (.bl false))) sNx)
    (ite (tst (bin opNe (app opReprC (aCons (disp false .tup (aCons (loc 3) (aCons (loc 4) (aCons (loc 7) aNil)))) aNil)) (loc 8))) (rtn (con (.bl false))) sNx))))))))))
    (rtn (con (.bl true)))))
noncomputable def S_law : FSem := mkF 1 9 [] b_law
section
variable {P : Program} {w : World} {K : PySem.W.Frag} {mg : Str → Option Value} {base : Heap}
theorem ok__law_pen {f : Addr} {fd : FuncData} (F : Fun K "_law_pen" "_law_pen" s__law_pen f fd) (z_list : mg "list" = none) : FnG P w K mg base 1 f fd ["_law_script"] S__law_pen :=
  fnG (k := 0) (m := 1) F sc__law_pen rfl fun cdv A outer s H E hgd hr => by
    have ft : Fit (cxG P w K mg base ["_law_script"] "_law_pen" (defScope s__law_pen) f cdv A outer s H E) (fun cls d _ H => E cls d H) 0 := ⟨hgd, hr, takes_of rfl rfl rfl rfl⟩
    have hp : PassesOwn (model P w) (cxG P w K mg base ["_law_script"] "_law_pen" (defScope s__law_pen) f cdv A outer s H E).A (cxG P w K mg base ["_law_script"] "_law_pen" (defScope s__law_pen) f cdv A outer s H E).env (cxG P w K mg base ["_law_script"] "_law_pen" (defScope s__law_pen) f cdv A outer s H E).xe := passes_of rfl
    exact (B_1 (S_ret (E_L (A_c (E_ty snd_list call_list_of z_list (A_c (E_cut (E_loc 0) O_0 (O_1 E_int)) A_0)) (A_c E_int (A_c E_int A_0))))))
theorem ok__law_draw {f : Addr} {fd : FuncData} (F : Fun K "_law_draw" "_law_draw" s__law_draw f fd) (z_abs : mg "abs" = none) (z_int : mg "int" = none) (z_len : mg "len" = none) : FnG P w K mg base 1 f fd ["_law_pen_here", "_law_count"] S__law_draw :=
  fnG (k := 0) (m := 7) F sc__law_draw rfl fun cdv A outer s H E hgd hr => by
    have ft : Fit (cxG P w K mg base ["_law_pen_here", "_law_count", "_law_digit", "_law_at", "_law_cell", "_law_large", "_law_mixed"] "_law_draw" (defScope s__law_draw) f cdv A outer s H E) (fun cls d _ H => E cls d H) 0 := ⟨hgd, hr, takes_of rfl rfl rfl rfl⟩
    have hp : PassesOwn (model P w) (cxG P w K mg base ["_law_pen_here", "_law_count", "_law_digit", "_law_at", "_law_cell", "_law_large", "_law_mixed"] "_law_draw" (defScope s__law_draw) f cdv A outer s H E).A (cxG P w K mg base ["_law_pen_here", "_law_count", "_law_digit", "_law_at", "_law_cell", "_law_large", "_law_mixed"] "_law_draw" (defScope s__law_draw) f cdv A outer s H E).env (cxG P w K mg base ["_law_pen_here", "_law_count", "_law_digit", "_law_at", "_law_cell", "_law_large", "_law_mixed"] "_law_draw" (defScope s__law_draw) f cdv A outer s H E).xe := passes_of rfl
    exact (B_c (S_if (T_cmp opd_gtI (E_idx (E_loc 0) E_int) E_int) (B_c (S_set (i := 2) (E_op opd_modI (E_idx (E_loc 0) E_int) (E_loc 1)) sc__law_draw.nd)
    (B_c (S_tg (E_op opd_divI (E_idx (E_loc 0) E_int) (E_loc 1)) (G_i (j := 0) E_int))
    (B_1 (S_ret (E_mov 2))))) B_0)
    (B_c (S_set (i := 3) (E_idx (E_loc 0) E_int) sc__law_draw.nd)
    (B_c (S_tg (E_op opd_addI (E_loc 3) E_int) (G_i (j := 0) E_int))
    (B_c (S_set (i := 4) (E_op opd_addI (E_op opd_mulI E_int (E_loc 3)) E_int) sc__law_draw.nd)
    (B_c (S_if (T_cmp (opd_ne ft.room.units) (E_idx (E_loc 0) E_int) (E_L A_0)) (B_1 (S_set (i := 4) (E_idx (E_idx (E_loc 0) E_int) (E_op opd_modI (E_loc 3) (E_blF snd_len call_lenA z_len (A_c (E_idx (E_loc 0) E_int) A_0)))) sc__law_draw.nd)) B_0)
    (B_c (S_if (PW.pt (W_and (T_cmp opd_ltI (E_loc 3) (E_blF snd_len call_lenA z_len (A_c (E_idx (E_loc 0) E_int) A_0))) (W_and1 (T_cmp opd_geI (E_blF snd_abs call_abs z_abs (A_c (E_loc 4) A_0)) (E_op opd_powI E_int E_int))))) (B_c (S_set (i := 5) (E_op opd_addI (E_op opd_mulI E_int (E_op opd_subI (E_blF snd_abs call_abs z_abs (A_c (E_loc 4) A_0)) (E_op opd_powI E_int E_int))) (E_ty snd_int1 call_int1 z_int (A_c (E_cmp opd_ltI (E_loc 4) E_int) A_0))) sc__law_draw.nd)
    (B_c (S_tg (E_op opd_divI (E_loc 5) (E_loc 1)) (G_i (j := 0) E_int))
    (B_1 (S_ret (E_op opd_modI (E_loc 5) (E_loc 1)))))) B_0)
    (B_c (S_set (i := 6) (E_op opd_modI (E_op opd_powI (E_op opd_addI (E_op opd_addI (E_op opd_modI (E_loc 4) E_int) (E_op opd_mulI E_int (E_loc 3))) E_int) E_int) E_int) sc__law_draw.nd)
    (B_c (S_set (i := 6) (E_op opd_modI (E_op opd_powI (E_op opd_addI (E_op opd_addI (E_op opd_mulI (E_loc 6) (E_op opd_addI (E_op opd_mulI E_int (E_loc 3)) E_int)) (E_op opd_mulI (E_op opd_mulI E_int (E_loc 3)) (E_loc 3))) E_int) E_int) E_int) sc__law_draw.nd)
    (B_1 (S_ret (E_op opd_modI (E_op opd_divI (E_loc 6) E_int) (E_loc 1))))))))))))
theorem ok__law_number {f : Addr} {fd : FuncData} (F : Fun K "_law_number" "_law_number" s__law_number f fd) {f__law_draw : Addr} {fd__law_draw : FuncData} (D__law_draw : Def P w K mg base 1 "_law_draw" f__law_draw fd__law_draw ["_law_pen_here", "_law_count"] S__law_draw) : FnG P w K mg base 2 f fd ["_law_pen_here", "_law_reach"] S__law_number :=
  fnG (k := 1) (m := 3) F sc__law_number rfl fun cdv A outer s H E hgd hr => by
    have ft : Fit (cxG P w K mg base ["_law_pen_here", "_law_reach", "_law_bound"] "_law_number" (defScope s__law_number) f cdv A outer s H E) (fun cls d _ H => E cls d H) 1 := ⟨hgd, hr, takes_of rfl rfl rfl rfl⟩
    have hp : PassesOwn (model P w) (cxG P w K mg base ["_law_pen_here", "_law_reach", "_law_bound"] "_law_number" (defScope s__law_number) f cdv A outer s H E).A (cxG P w K mg base ["_law_pen_here", "_law_reach", "_law_bound"] "_law_number" (defScope s__law_number) f cdv A outer s H E).env (cxG P w K mg base ["_law_pen_here", "_law_reach", "_law_bound"] "_law_number" (defScope s__law_number) f cdv A outer s H E).xe := passes_of rfl
    exact (B_c (S_set (i := 2) (E_idx (E_L (A_c E_int (A_c E_int (A_c (E_loc 1) (A_c (E_op opd_powI E_int E_int) A_0))))) (E_call D__law_draw ft (A_c (E_loc 0) (A_c E_int A_0)))) sc__law_number.nd)
    (B_1 (S_ret (E_op opd_subI (E_call D__law_draw ft (A_c (E_loc 0) (A_c (E_op opd_hAdd (E_op opd_hMulT E_int (E_loc 2)) E_int) A_0))) (E_loc 2)))))
theorem ok__law_entries {f : Addr} {fd : FuncData} (F : Fun K "_law_entries" "_law_entries" s__law_entries f fd) (z_int : mg "int" = none) (z_len : mg "len" = none) (z_list : mg "list" = none) (z_range : mg "range" = none) (z_sorted : mg "sorted" = none) (z_tuple : mg "tuple" = none) {f__law_draw : Addr} {fd__law_draw : FuncData} (D__law_draw : Def P w K mg base 1 "_law_draw" f__law_draw fd__law_draw ["_law_pen_here", "_law_count"] S__law_draw) {f__law_number : Addr} {fd__law_number : FuncData} (D__law_number : Def P w K mg base 2 "_law_number" f__law_number fd__law_number ["_law_pen_here", "_law_reach"] S__law_number) : FnG P w K mg base 3 f fd ["_law_pen_here", "_law_many"] S__law_entries :=
  fnG (k := 2) (m := 11) F sc__law_entries rfl fun cdv A outer s H E hgd hr => by
    have ft : Fit (cxG P w K mg base ["_law_pen_here", "_law_many", "_law_left", "_law_signs_here", "_law_way", "_law_alike", "_law_found", "_law_sign", "_law_power", "_law_loss", "_law_k"] "_law_entries" (defScope s__law_entries) f cdv A outer s H E) (fun cls d _ H => E cls d H) 2 := ⟨hgd, hr, takes_of rfl rfl rfl rfl⟩
    have hp : PassesOwn (model P w) (cxG P w K mg base ["_law_pen_here", "_law_many", "_law_left", "_law_signs_here", "_law_way", "_law_alike", "_law_found", "_law_sign", "_law_power", "_law_loss", "_law_k"] "_law_entries" (defScope s__law_entries) f cdv A outer s H E).A (cxG P w K mg base ["_law_pen_here", "_law_many", "_law_left", "_law_signs_here", "_law_way", "_law_alike", "_law_found", "_law_sign", "_law_power", "_law_loss", "_law_k"] "_law_entries" (defScope s__law_entries) f cdv A outer s H E).env (cxG P w K mg base ["_law_pen_here", "_law_many", "_law_left", "_law_signs_here", "_law_way", "_law_alike", "_law_found", "_law_sign", "_law_power", "_law_loss", "_law_k"] "_law_entries" (defScope s__law_entries) f cdv A outer s H E).xe := passes_of rfl
    exact (B_c (S_set (i := 2) (E_ty snd_listA (call_listA rfl) z_list (A_c E_str A_0)) sc__law_entries.nd)
    (B_c (S_set (i := 3) (E_blF snd_sorted call_sortedA z_sorted (A_c (E_lc (own := [("_law_k", 10)]) sc__law_entries.nd (I_r1 z_range (E_op opd_hAdd E_int (E_call D__law_draw ft (A_c (E_loc 0) (A_c (E_loc 1) A_0))))) (show BlkOk ["_law_pen_here", "_law_many", "_law_left", "_law_signs_here", "_law_way", "_law_alike", "_law_found", "_law_sign", "_law_power", "_law_loss", "_law_k"] (defScope s__law_entries) _ [("_law_k", 10)] from ⟨rfl, by decide +kernel, by decide +kernel, by decide +kernel, by decide +kernel⟩) (fun _ _ _ _ _ => (G_n (i := 10) sc__law_entries.nd)) (fun _ _ _ _ _ => Ts_0) (fun _ _ _ _ _ => (E_popi (j := 2) (E_call D__law_draw (Fit.blk ft) (A_c (E_loc 0) (A_c (E_blF snd_len call_lenA z_len (A_c (E_loc 2) A_0)) A_0)))))) A_0)) sc__law_entries.nd)
    (B_c (S_set (i := 4) (E_call D__law_draw ft (A_c (E_loc 0) (A_c E_int A_0))) sc__law_entries.nd)
    (B_c (S_set (i := 5) (E_call D__law_number ft (A_c (E_loc 0) (A_c E_int A_0))) sc__law_entries.nd)
    (B_c (S_set (i := 6) (E_L A_0) sc__law_entries.nd)
    (B_c (S_for hp (I_a (E_loc 3)) (G_n (i := 7) sc__law_entries.nd) (B_c (S_par (i := 8) (j := 9) (A_c (E_call D__law_number ft (A_c (E_loc 0) (A_c E_int A_0))) (A_c (E_call D__law_number ft (A_c (E_loc 0) (A_c E_int A_0))) A_0)) sc__law_entries.nd)
    (B_1 (S_ex (E_app (j := 6) (E_T (A_c (E_loc 7) (A_c (E_idx (E_L (A_c (E_loc 8) (A_c (E_loc 5) A_0))) (E_ty snd_int call_intA z_int (A_c (E_cmp (opd_eq ft.room.units) (E_loc 4) E_int) A_0))) (A_c (E_idx (E_L (A_c (E_loc 9) (A_c (E_loc 5) (A_c (E_loc 9) (A_c E_int A_0))))) (E_loc 4)) A_0)))))))))
    (B_1 (S_ret (E_ty snd_tuple call_tuple_of z_tuple (A_c (E_loc 6) A_0))))))))))
theorem ok__law_signs {f : Addr} {fd : FuncData} (F : Fun K "_law_signs" "_law_signs" s__law_signs f fd) : FnG P w K mg base 1 f fd ["_law_entries_here"] S__law_signs :=
  fnG (k := 0) (m := 2) F sc__law_signs rfl fun cdv A outer s H E hgd hr => by
    have ft : Fit (cxG P w K mg base ["_law_entries_here", "_law_entry"] "_law_signs" (defScope s__law_signs) f cdv A outer s H E) (fun cls d _ H => E cls d H) 0 := ⟨hgd, hr, takes_of rfl rfl rfl rfl⟩
    have hp : PassesOwn (model P w) (cxG P w K mg base ["_law_entries_here", "_law_entry"] "_law_signs" (defScope s__law_signs) f cdv A outer s H E).A (cxG P w K mg base ["_law_entries_here", "_law_entry"] "_law_signs" (defScope s__law_signs) f cdv A outer s H E).env (cxG P w K mg base ["_law_entries_here", "_law_entry"] "_law_signs" (defScope s__law_signs) f cdv A outer s H E).xe := passes_of rfl
    exact (B_1 (S_ret (E_lc (own := [("_law_entry", 1)]) sc__law_signs.nd (I_a (E_loc 0)) (show BlkOk ["_law_entries_here", "_law_entry"] (defScope s__law_signs) _ [("_law_entry", 1)] from ⟨rfl, by decide +kernel, by decide +kernel, by decide +kernel, by decide +kernel⟩) (fun _ _ _ _ _ => (G_n (i := 1) sc__law_signs.nd)) (fun _ _ _ _ _ => Ts_0) (fun _ _ _ _ _ => (E_idx (E_loc 1) E_int)))))
theorem ok__law_some {f : Addr} {fd : FuncData} (F : Fun K "_law_some" "_law_some" s__law_some f fd) (z_len : mg "len" = none) (z_range : mg "range" = none) {f__law_signs : Addr} {fd__law_signs : FuncData} (D__law_signs : Def P w K mg base 1 "_law_signs" f__law_signs fd__law_signs ["_law_entries_here"] S__law_signs) {f__law_draw : Addr} {fd__law_draw : FuncData} (D__law_draw : Def P w K mg base 1 "_law_draw" f__law_draw fd__law_draw ["_law_pen_here", "_law_count"] S__law_draw) : FnG P w K mg base 2 f fd ["_law_pen_here", "_law_entries_here", "_law_size"] S__law_some :=
  fnG (k := 1) (m := 6) F sc__law_some rfl fun cdv A outer s H E hgd hr => by
    have ft : Fit (cxG P w K mg base ["_law_pen_here", "_law_entries_here", "_law_size", "_law_signs_here", "_law_few", "_law_k"] "_law_some" (defScope s__law_some) f cdv A outer s H E) (fun cls d _ H => E cls d H) 1 := ⟨hgd, hr, takes_of rfl rfl rfl rfl⟩
    have hp : PassesOwn (model P w) (cxG P w K mg base ["_law_pen_here", "_law_entries_here", "_law_size", "_law_signs_here", "_law_few", "_law_k"] "_law_some" (defScope s__law_some) f cdv A outer s H E).A (cxG P w K mg base ["_law_pen_here", "_law_entries_here", "_law_size", "_law_signs_here", "_law_few", "_law_k"] "_law_some" (defScope s__law_some) f cdv A outer s H E).env (cxG P w K mg base ["_law_pen_here", "_law_entries_here", "_law_size", "_law_signs_here", "_law_few", "_law_k"] "_law_some" (defScope s__law_some) f cdv A outer s H E).xe := passes_of rfl
    exact (B_c (S_set (i := 3) (E_call D__law_signs ft (A_c (E_loc 1) A_0)) sc__law_some.nd)
    (B_c (S_set (i := 4) (E_idx (E_L (A_c (E_loc 3) (A_c (E_cut (E_loc 3) O_0 (O_1 E_int)) A_0))) (E_call D__law_draw ft (A_c (E_loc 0) (A_c E_int A_0)))) sc__law_some.nd)
    (B_1 (S_ret (E_join E_str (E_lc (own := [("_law_k", 5)]) sc__law_some.nd (I_r1 z_range (E_loc 2)) (show BlkOk ["_law_pen_here", "_law_entries_here", "_law_size", "_law_signs_here", "_law_few", "_law_k"] (defScope s__law_some) _ [("_law_k", 5)] from ⟨rfl, by decide +kernel, by decide +kernel, by decide +kernel, by decide +kernel⟩) (fun _ _ _ _ _ => (G_n (i := 5) sc__law_some.nd)) (fun _ _ _ _ _ => Ts_0) (fun _ _ _ _ _ => (E_idx (E_loc 4) (E_call D__law_draw (Fit.blk ft) (A_c (E_loc 0) (A_c (E_blF snd_len call_lenA z_len (A_c (E_loc 4) A_0)) A_0)))))))))))
theorem ok__law_block {f : Addr} {fd : FuncData} (F : Fun K "_law_block" "_law_block" s__law_block f fd) {f__law_entries : Addr} {fd__law_entries : FuncData} (D__law_entries : Def P w K mg base 3 "_law_entries" f__law_entries fd__law_entries ["_law_pen_here", "_law_many"] S__law_entries) {f__law_some : Addr} {fd__law_some : FuncData} (D__law_some : Def P w K mg base 2 "_law_some" f__law_some fd__law_some ["_law_pen_here", "_law_entries_here", "_law_size"] S__law_some) {f__law_draw : Addr} {fd__law_draw : FuncData} (D__law_draw : Def P w K mg base 1 "_law_draw" f__law_draw fd__law_draw ["_law_pen_here", "_law_count"] S__law_draw) : FnG P w K mg base 4 f fd ["_law_pen_here", "_law_wide"] S__law_block :=
  fnG (k := 3) (m := 3) F sc__law_block rfl fun cdv A outer s H E hgd hr => by
    have ft : Fit (cxG P w K mg base ["_law_pen_here", "_law_wide", "_law_entries_here"] "_law_block" (defScope s__law_block) f cdv A outer s H E) (fun cls d _ H => E cls d H) 3 := ⟨hgd, hr, takes_of rfl rfl rfl rfl⟩
    have hp : PassesOwn (model P w) (cxG P w K mg base ["_law_pen_here", "_law_wide", "_law_entries_here"] "_law_block" (defScope s__law_block) f cdv A outer s H E).A (cxG P w K mg base ["_law_pen_here", "_law_wide", "_law_entries_here"] "_law_block" (defScope s__law_block) f cdv A outer s H E).env (cxG P w K mg base ["_law_pen_here", "_law_wide", "_law_entries_here"] "_law_block" (defScope s__law_block) f cdv A outer s H E).xe := passes_of rfl
    exact (B_c (S_set (i := 2) (E_call D__law_entries ft (A_c (E_loc 0) (A_c E_int A_0))) sc__law_block.nd)
    (B_1 (S_ret (E_T (A_c (E_loc 2) (A_c (E_call D__law_some ft (A_c (E_loc 0) (A_c (E_loc 2) (A_c (E_op opd_hAdd E_int (E_call D__law_draw ft (A_c (E_loc 0) (A_c (E_loc 1) A_0)))) A_0)))) A_0))))))
theorem lok__law_heard {f : Addr} {fd : FuncData} (F : Fun K "_law_heard" "_law_heard" s__law_heard f fd) (z_KeyError : mg "KeyError" = none) (z_LookupError : mg "LookupError" = none) (z_ValueError : mg "ValueError" = none) (z_int : mg "int" = none) (z_isinstance : mg "isinstance" = none) {C_InvalidTable : Addr} {C_InvalidTimes : Addr} {C_UnknownOperator : Addr} {C_WearError : Addr} (N_InvalidTable : NCls K mg "InvalidTable" C_InvalidTable) (N_InvalidTimes : NCls K mg "InvalidTimes" C_InvalidTimes) (N_UnknownOperator : NCls K mg "UnknownOperator" C_UnknownOperator) (N_WearError : NCls K mg "WearError" C_WearError) (s_InvalidTimes_UnknownOperator : PySem.W.subIn K (.ref C_InvalidTimes) (.ref C_UnknownOperator) = some false) (s_InvalidTimes_WearError : PySem.W.subIn K (.ref C_InvalidTimes) (.ref C_WearError) = some true) (s_UnknownOperator_UnknownOperator : PySem.W.subIn K (.ref C_UnknownOperator) (.ref C_UnknownOperator) = some true) (s_UnknownOperator_WearError : PySem.W.subIn K (.ref C_UnknownOperator) (.ref C_WearError) = some false) (kt_InvalidTimes_InvalidTable : PySem.W.kitOne K (.ref C_InvalidTimes) (.ref C_InvalidTable) = some false) (kt_InvalidTimes_InvalidTimes : PySem.W.kitOne K (.ref C_InvalidTimes) (.ref C_InvalidTimes) = some true) (kt_InvalidTimes_KeyError : PySem.W.kitOne K (.ref C_InvalidTimes) (.type "KeyError") = some false) (kt_InvalidTimes_LookupError : PySem.W.kitOne K (.ref C_InvalidTimes) (.type "LookupError") = some false) (kt_InvalidTimes_UnknownOperator : PySem.W.kitOne K (.ref C_InvalidTimes) (.ref C_UnknownOperator) = some false) (kt_InvalidTimes_ValueError : PySem.W.kitOne K (.ref C_InvalidTimes) (.type "ValueError") = some true) (kt_UnknownOperator_InvalidTable : PySem.W.kitOne K (.ref C_UnknownOperator) (.ref C_InvalidTable) = some false) (kt_UnknownOperator_InvalidTimes : PySem.W.kitOne K (.ref C_UnknownOperator) (.ref C_InvalidTimes) = some false) (kt_UnknownOperator_KeyError : PySem.W.kitOne K (.ref C_UnknownOperator) (.type "KeyError") = some true) (kt_UnknownOperator_LookupError : PySem.W.kitOne K (.ref C_UnknownOperator) (.type "LookupError") = some true) (kt_UnknownOperator_UnknownOperator : PySem.W.kitOne K (.ref C_UnknownOperator) (.ref C_UnknownOperator) = some true) (kt_UnknownOperator_ValueError : PySem.W.kitOne K (.ref C_UnknownOperator) (.type "ValueError") = some false) (kn_InvalidTimes : PySem.W.kitOne K (.type "NoneType") (.ref C_InvalidTimes) = some false) (kn_KeyError : PySem.W.kitOne K (.type "NoneType") (.type "KeyError") = some false) (kn_UnknownOperator : PySem.W.kitOne K (.type "NoneType") (.ref C_UnknownOperator) = some false) (kn_ValueError : PySem.W.kitOne K (.type "NoneType") (.type "ValueError") = some false) (nb_InvalidTimes_value : PySem.W.findIn K (.ref C_InvalidTimes) "value" = some none) (nb_UnknownOperator_letter : PySem.W.findIn K (.ref C_UnknownOperator) "letter" = some none) (hmg : mg "_law_heard" = some (.ref f)) (hkp : PySem.W.keepIn K (.ref f) = true) (hbd : Binds K fd ["_law_ask"] []) : LDef P w K mg base 0 "_law_heard" "_law_ask" s__law_heard f fd ["_law_ask", "error"] H__law_heard where
  F := F
  Sc := sc__law_heard
  N0 := rfl
  va := by first | exact Or.inl rfl | exact Or.inr (Or.inl rfl) | exact Or.inr (Or.inr rfl)
  gl := hmg
  kp := hkp
  bd := hbd
  gives := fun X cdv q e1 e2 e3 e4 e5 hgd hr => by
    subst e1 e2 e3 e4 e5
    refine' gives_ofQ (tst := fun cls => PySem.W.exmAny _ cls [.ref C_WearError, .ref C_UnknownOperator]) (A := parA 1 []) up_id rfl (by decide) sc__law_heard.nd (i := 1) rfl rfl (fun s H => rfl) (fun s H => ?c) (exms_tb (tb_c (exs_of N_InvalidTimes (exs_c N_InvalidTimes N_WearError s_InvalidTimes_WearError (exs_c N_InvalidTimes N_UnknownOperator s_InvalidTimes_UnknownOperator exs_n))) (tb_c (exs_of N_UnknownOperator (exs_c N_UnknownOperator N_WearError s_UnknownOperator_WearError (exs_c N_UnknownOperator N_UnknownOperator s_UnknownOperator_UnknownOperator exs_n))) tb_n))) (fun s H t h => ?p) (fun s H pn xe te he => ?b) (fun s H b pn => ?h) (fun s H => ?r)
    case p => have ft : Fit (hC X ["_law_ask", "error"] "_law_heard" (defScope s__law_heard) f cdv s H).nox (fun _ _ _ _ => False) 0 := ⟨hgd, hr.deeper _, LamX.takes0⟩; exact pre_0 h
    case c => exact (by refine clause_tup (cs := [(.ref C_WearError, .ref C_WearError), (.ref C_UnknownOperator, .ref C_UnknownOperator)]) ?_; exact (ClsL.o N_WearError (ClsL.o N_UnknownOperator ClsL.nil)))
    case b => exact pss_one (ps_expr he)
    case h => exact (B_c (S_if (PW.pt (W_and (T_v (E_iso z_isinstance (E_loc 1) N_UnknownOperator (tb_c (kit_p N_InvalidTimes kt_InvalidTimes_UnknownOperator) (tb_c (kit_p N_UnknownOperator kt_UnknownOperator_UnknownOperator) tb_n)) kn_UnknownOperator)) (W_and1 (T_v (E_isb z_isinstance (E_loc 1) z_KeyError (tb_c (kit_p N_InvalidTimes kt_InvalidTimes_KeyError) (tb_c (kit_p N_UnknownOperator kt_UnknownOperator_KeyError) tb_n)) kn_KeyError))))) (B_1 (S_ret (E_idx (E_L (A_c E_str (A_c (E_T (A_c E_str (A_c (E_xg (E_loc 1) (xg_c N_UnknownOperator nb_UnknownOperator_letter xg_n)) A_0))) A_0))) (E_ty snd_int call_intA z_int (A_c (E_not (E_isb z_isinstance (E_loc 1) z_ValueError (tb_c (kit_p N_InvalidTimes kt_InvalidTimes_ValueError) (tb_c (kit_p N_UnknownOperator kt_UnknownOperator_ValueError) tb_n)) kn_ValueError)) A_0))))) B_0)
    (B_c (S_if (PW.pt (W_and (T_v (E_iso z_isinstance (E_loc 1) N_InvalidTimes (tb_c (kit_p N_InvalidTimes kt_InvalidTimes_InvalidTimes) (tb_c (kit_p N_UnknownOperator kt_UnknownOperator_InvalidTimes) tb_n)) kn_InvalidTimes)) (W_and1 (T_v (E_isb z_isinstance (E_loc 1) z_ValueError (tb_c (kit_p N_InvalidTimes kt_InvalidTimes_ValueError) (tb_c (kit_p N_UnknownOperator kt_UnknownOperator_ValueError) tb_n)) kn_ValueError))))) (B_1 (S_ret (E_idx (E_L (A_c E_str (A_c (E_T (A_c E_str (A_c (E_xg (E_loc 1) (xg_c N_InvalidTimes nb_InvalidTimes_value xg_n)) A_0))) A_0))) (E_ty snd_int call_intA z_int (A_c (E_not (E_ist (cs := [(V.ty "LookupError", .type "LookupError"), (.ref C_InvalidTable, .ref C_InvalidTable)]) z_isinstance (E_loc 1) (by exact (ClsL.b z_LookupError (ClsL.o N_InvalidTable ClsL.nil))) (by exact (tb_c (kis_of N_InvalidTimes (kis_c kt_InvalidTimes_LookupError (kis_c kt_InvalidTimes_InvalidTable kis_n))) (tb_c (kis_of N_UnknownOperator (kis_c kt_UnknownOperator_LookupError (kis_c kt_UnknownOperator_InvalidTable kis_n))) tb_n))))) A_0))))) B_0)
    (B_1 (S_ret E_str))))
    case r => have ft : Fit (hC X ["_law_ask", "error"] "_law_heard" (defScope s__law_heard) f cdv s H).nox (fun _ _ _ _ => False) 0 := ⟨hgd, hr.deeper _, LamX.takes0⟩; exact (B_1 (S_ret E_non))
theorem ok__law_due {f : Addr} {fd : FuncData} (F : Fun K "_law_due" "_law_due" s__law_due f fd) (z_bool : mg "bool" = none) (z_int : mg "int" = none) (z_isinstance : mg "isinstance" = none) : FnG P w K mg base 1 f fd ["_law_entries_here", "_law_row", "_law_number_here"] S__law_due :=
  fnG (k := 0) (m := 6) F sc__law_due rfl fun cdv A outer s H E hgd hr => by
    have ft : Fit (cxG P w K mg base ["_law_entries_here", "_law_row", "_law_number_here", "_law_unknown", "_law_sign", "_law_entry"] "_law_due" (defScope s__law_due) f cdv A outer s H E) (fun cls d _ H => E cls d H) 0 := ⟨hgd, hr, takes_of rfl rfl rfl rfl⟩
    have hp : PassesOwn (model P w) (cxG P w K mg base ["_law_entries_here", "_law_row", "_law_number_here", "_law_unknown", "_law_sign", "_law_entry"] "_law_due" (defScope s__law_due) f cdv A outer s H E).A (cxG P w K mg base ["_law_entries_here", "_law_row", "_law_number_here", "_law_unknown", "_law_sign", "_law_entry"] "_law_due" (defScope s__law_due) f cdv A outer s H E).env (cxG P w K mg base ["_law_entries_here", "_law_row", "_law_number_here", "_law_unknown", "_law_sign", "_law_entry"] "_law_due" (defScope s__law_due) f cdv A outer s H E).xe := passes_of rfl
    exact (B_c (S_lc (i := 3) (own := [("_law_sign", 4)]) sc__law_due.nd (I_a (E_loc 1)) (show BlkOk ["_law_entries_here", "_law_row", "_law_number_here", "_law_unknown", "_law_sign", "_law_entry"] (defScope s__law_due) _ [("_law_sign", 4)] from ⟨rfl, by decide +kernel, by decide +kernel, by decide +kernel, by decide +kernel⟩) (fun _ _ _ _ _ => (G_n (i := 4) sc__law_due.nd)) (fun _ _ _ _ _ => (Ts_1 (T_cmp opd_notIn (E_loc 4) (E_lc (own := [("_law_entry", 5)]) sc__law_due.nd (I_a (E_loc 0)) (L2.blkOk_by (by first | rfl | kernel_rfl)) (fun _ _ _ _ _ => (G_n (i := 5) sc__law_due.nd)) (fun _ _ _ _ _ => Ts_0) (fun _ _ _ _ _ => (E_idx (E_loc 5) E_int)))))) (fun _ _ _ _ _ => (E_loc 4)))
    (B_c (S_if (T_cmp (opd_ne ft.room.units) (E_loc 3) (E_L A_0)) (B_1 (S_ret (E_T (A_c E_str (A_c (E_idx (E_loc 3) E_int) A_0))))) B_0)
    (B_c (S_if (PW.pt (W_or (T_v (E_blF snd_isi L2.call_isi z_isinstance (A_c (E_loc 2) (A_c (E_ty1 z_bool) A_0)))) (W_or (T_not (T_v (E_blF snd_isi L2.call_isi z_isinstance (A_c (E_loc 2) (A_c (E_ty1 z_int) A_0))))) (W_or1 (T_not (T_ch oc_lt oc_le E_int (E_loc 2) (E_op opd_powI E_int E_int))))))) (B_1 (S_ret (E_T (A_c E_str (A_c (E_loc 2) A_0))))) B_0)
    (B_1 (S_ret E_non)))))
theorem ok_Place____init__ {f : Addr} {fd : FuncData} (F : Fun K "__init__" "Place.__init__" s_Place____init__ f fd) {C_Place : Addr} (rC_Place : reg K "Place" = some C_Place) (cl_Place : Cls K C_Place) (nf_Place_first_strength : NoAttr K C_Place "first_strength") (nf_Place_first_use : NoAttr K C_Place "first_use") (nf_Place_loss : NoAttr K C_Place "loss") (nf_Place_mark : NoAttr K C_Place "mark") (nf_Place_uses : NoAttr K C_Place "uses") : FnG P w K mg base 1 f fd ["self", "mark", "first_use", "uses", "strength", "step"] S_Place____init__ :=
  fnG (k := 0) (m := 6) F sc_Place____init__ rfl fun cdv A outer s H E hgd hr => by
    have ft : Fit (cxG P w K mg base ["self", "mark", "first_use", "uses", "strength", "step"] "Place.__init__" (defScope s_Place____init__) f cdv A outer s H E) (fun cls d _ H => E cls d H) 0 := ⟨hgd, hr, takes_of rfl rfl rfl rfl⟩
    have hp : PassesOwn (model P w) (cxG P w K mg base ["self", "mark", "first_use", "uses", "strength", "step"] "Place.__init__" (defScope s_Place____init__) f cdv A outer s H E).A (cxG P w K mg base ["self", "mark", "first_use", "uses", "strength", "step"] "Place.__init__" (defScope s_Place____init__) f cdv A outer s H E).env (cxG P w K mg base ["self", "mark", "first_use", "uses", "strength", "step"] "Place.__init__" (defScope s_Place____init__) f cdv A outer s H E).xe := passes_of rfl
    exact (B_c (S_setA (j := 0) rC_Place cl_Place nf_Place_mark (E_loc 1))
    (B_c (S_setA (j := 0) rC_Place cl_Place nf_Place_first_use (E_loc 2))
    (B_c (S_setA (j := 0) rC_Place cl_Place nf_Place_uses (E_loc 3))
    (B_c (S_setA (j := 0) rC_Place cl_Place nf_Place_first_strength (E_op opd_subI (E_loc 4) (E_op opd_hMulT (E_loc 2) (E_loc 5))))
    (B_1 (S_setA (j := 0) rC_Place cl_Place nf_Place_loss (E_op opd_hMulT (E_loc 3) (E_loc 5))))))))
theorem ok_places_of {f : Addr} {fd : FuncData} (F : Fun K "places_of" "places_of" s_places_of f fd) (z_enumerate : mg "enumerate" = none) {C_UnknownOperator : Addr} (E_UnknownOperator : ECls P w K mg base "UnknownOperator" "letter" C_UnknownOperator) {C_Place : Addr} (rC_Place : reg K "Place" = some C_Place) (cl_Place : Cls K C_Place) {f_Place____init__ : Addr} {fd_Place____init__ : FuncData} (I_Place : IDef P w K mg base 1 "Place" C_Place f_Place____init__ fd_Place____init__ ["self", "mark", "first_use", "uses", "strength", "step"] S_Place____init__) : FnG P w K mg base 3 f fd ["table", "block"] S_places_of :=
  fnG (k := 2) (m := 8) F sc_places_of rfl fun cdv A outer s H E hgd hr => by
    have ft : Fit (cxG P w K mg base ["table", "block", "entries", "found", "index", "letter", "strength", "step"] "places_of" (defScope s_places_of) f cdv A outer s H E) (fun cls d _ H => E cls d H) 2 := ⟨hgd, hr, takes_of rfl rfl rfl rfl⟩
    have hp : PassesOwn (model P w) (cxG P w K mg base ["table", "block", "entries", "found", "index", "letter", "strength", "step"] "places_of" (defScope s_places_of) f cdv A outer s H E).A (cxG P w K mg base ["table", "block", "entries", "found", "index", "letter", "strength", "step"] "places_of" (defScope s_places_of) f cdv A outer s H E).env (cxG P w K mg base ["table", "block", "entries", "found", "index", "letter", "strength", "step"] "places_of" (defScope s_places_of) f cdv A outer s H E).xe := passes_of rfl
    exact (B_c (S_dc (i := 2) (own := [("letter", 5), ("strength", 6), ("step", 7)]) sc_places_of.nd (I_a (E_loc 0)) (show BlkOk ["table", "block", "entries", "found", "index", "letter", "strength", "step"] (defScope s_places_of) _ [("letter", 5), ("strength", 6), ("step", 7)] from ⟨rfl, by decide +kernel, by decide +kernel, by decide +kernel, by decide +kernel⟩) (fun _ _ _ _ _ => (G_t (Gs_c (G_n (i := 5) sc_places_of.nd) (Gs_c (G_n (i := 6) sc_places_of.nd) (Gs_c (G_n (i := 7) sc_places_of.nd) Gs_0))))) (fun _ _ _ _ _ => Ts_0) (fun _ _ _ _ _ => (E_loc 5)) (fun _ _ _ _ _ => (E_frz (E_T (A_c (E_loc 6) (A_c (E_loc 7) A_0))))))
    (B_c (S_set (i := 3) (E_L A_0) sc_places_of.nd)
    (B_c (S_for hp (I_enumS z_enumerate (E_loc 1)) (G_t (Gs_c (G_n (i := 4) sc_places_of.nd) (Gs_c (G_n (i := 5) sc_places_of.nd) Gs_0))) (B_c (S_if (T_cmp (opd_dnin (un1 ft.room.units)) (E_loc 5) (E_loc 2)) (B_1 (S_raiseE E_UnknownOperator ft (by decide) (A_c (E_loc 5) A_0))) B_0)
    (B_c (S_tg (E_dget (un1 ft.room.units) (E_loc 2) (E_loc 5)) (G_t (Gs_c (G_n (i := 6) sc_places_of.nd) (Gs_c (G_n (i := 7) sc_places_of.nd) Gs_0))))
    (B_1 (S_ex (E_app (j := 3) (E_make rC_Place I_Place ft (A_c (E_loc 5) (A_c (E_count (E_cut (E_loc 1) O_0 (O_1 (E_loc 4))) (E_loc 5)) (A_c (E_count (E_loc 1) (E_loc 5)) (A_c (E_loc 6) (A_c (E_loc 7) A_0))))))))))))
    (B_1 (S_ret (E_mov 3))))))
theorem ok_Repeated__table__set {f : Addr} {fd : FuncData} (F : Fun K "table" "Repeated.table" s_Repeated__table__set f fd) {C_Repeated : Addr} (rC_Repeated : reg K "Repeated" = some C_Repeated) (cl_Repeated : Cls K C_Repeated) (nf_Repeated_origin : NoAttr K C_Repeated "origin") (nf_Repeated_pattern : NoAttr K C_Repeated "pattern") (nf_Repeated_places : NoAttr K C_Repeated "places") {f_places_of : Addr} {fd_places_of : FuncData} (D_places_of : Def P w K mg base 3 "places_of" f_places_of fd_places_of ["table", "block"] S_places_of) : FnG P w K mg base 4 f fd ["self", "value"] S_Repeated__table__set :=
  fnG (k := 3) (m := 2) F sc_Repeated__table__set rfl fun cdv A outer s H E hgd hr => by
    have ft : Fit (cxG P w K mg base ["self", "value"] "Repeated.table" (defScope s_Repeated__table__set) f cdv A outer s H E) (fun cls d _ H => E cls d H) 3 := ⟨hgd, hr, takes_of rfl rfl rfl rfl⟩
    have hp : PassesOwn (model P w) (cxG P w K mg base ["self", "value"] "Repeated.table" (defScope s_Repeated__table__set) f cdv A outer s H E).A (cxG P w K mg base ["self", "value"] "Repeated.table" (defScope s_Repeated__table__set) f cdv A outer s H E).env (cxG P w K mg base ["self", "value"] "Repeated.table" (defScope s_Repeated__table__set) f cdv A outer s H E).xe := passes_of rfl
    exact (B_c (S_setA (j := 0) rC_Repeated cl_Repeated nf_Repeated_places (E_frz (E_call D_places_of ft (A_c (E_loc 1) (A_c (E_fld rC_Repeated cl_Repeated nf_Repeated_pattern (E_loc 0)) A_0)))))
    (B_1 (S_setA (j := 0) rC_Repeated cl_Repeated nf_Repeated_origin (E_loc 1))))
theorem ok_is_integer {f : Addr} {fd : FuncData} (F : Fun K "is_integer" "is_integer" s_is_integer f fd) (z_bool : mg "bool" = none) (z_int : mg "int" = none) (z_isinstance : mg "isinstance" = none) : FnG P w K mg base 1 f fd ["value"] S_is_integer :=
  fnG (k := 0) (m := 1) F sc_is_integer rfl fun cdv A outer s H E hgd hr => by
    have ft : Fit (cxG P w K mg base ["value"] "is_integer" (defScope s_is_integer) f cdv A outer s H E) (fun cls d _ H => E cls d H) 0 := ⟨hgd, hr, takes_of rfl rfl rfl rfl⟩
    have hp : PassesOwn (model P w) (cxG P w K mg base ["value"] "is_integer" (defScope s_is_integer) f cdv A outer s H E).A (cxG P w K mg base ["value"] "is_integer" (defScope s_is_integer) f cdv A outer s H E).env (cxG P w K mg base ["value"] "is_integer" (defScope s_is_integer) f cdv A outer s H E).xe := passes_of rfl
    exact (B_1 (S_ret (E_and (E_blF snd_isi L2.call_isi z_isinstance (A_c (E_loc 0) (A_c (E_ty1 z_int) A_0))) (E_one (E_not (E_blF snd_isi L2.call_isi z_isinstance (A_c (E_loc 0) (A_c (E_ty1 z_bool) A_0))))))))
theorem ok_is_between {f : Addr} {fd : FuncData} (F : Fun K "is_between" "is_between" s_is_between f fd) {f_is_integer : Addr} {fd_is_integer : FuncData} (D_is_integer : Def P w K mg base 1 "is_integer" f_is_integer fd_is_integer ["value"] S_is_integer) : FnG P w K mg base 2 f fd ["value", "least", "most"] S_is_between :=
  fnG (k := 1) (m := 3) F sc_is_between rfl fun cdv A outer s H E hgd hr => by
    have ft : Fit (cxG P w K mg base ["value", "least", "most"] "is_between" (defScope s_is_between) f cdv A outer s H E) (fun cls d _ H => E cls d H) 1 := ⟨hgd, hr, takes_of rfl rfl rfl rfl⟩
    have hp : PassesOwn (model P w) (cxG P w K mg base ["value", "least", "most"] "is_between" (defScope s_is_between) f cdv A outer s H E).A (cxG P w K mg base ["value", "least", "most"] "is_between" (defScope s_is_between) f cdv A outer s H E).env (cxG P w K mg base ["value", "least", "most"] "is_between" (defScope s_is_between) f cdv A outer s H E).xe := passes_of rfl
    exact (B_1 (S_ret (E_and (E_call D_is_integer ft (A_c (E_loc 0) A_0)) (E_one (E_ch oc_le oc_le (E_loc 1) (E_loc 0) (E_loc 2))))))
theorem ok_Repeated__times__set {f : Addr} {fd : FuncData} (F : Fun K "times" "Repeated.times" s_Repeated__times__set f fd) {C_InvalidTimes : Addr} (E_InvalidTimes : ECls P w K mg base "InvalidTimes" "value" C_InvalidTimes) {C_Repeated : Addr} (rC_Repeated : reg K "Repeated" = some C_Repeated) (cl_Repeated : Cls K C_Repeated) (nf_Repeated_repetitions : NoAttr K C_Repeated "repetitions") (cc_Repeated_MOST_TIMES : CInt K C_Repeated "MOST_TIMES" 1000000000000000000000000000000) {f_is_between : Addr} {fd_is_between : FuncData} (D_is_between : Def P w K mg base 2 "is_between" f_is_between fd_is_between ["value", "least", "most"] S_is_between) : FnG P w K mg base 3 f fd ["self", "value"] S_Repeated__times__set :=
  fnG (k := 2) (m := 2) F sc_Repeated__times__set rfl fun cdv A outer s H E hgd hr => by
    have ft : Fit (cxG P w K mg base ["self", "value"] "Repeated.times" (defScope s_Repeated__times__set) f cdv A outer s H E) (fun cls d _ H => E cls d H) 2 := ⟨hgd, hr, takes_of rfl rfl rfl rfl⟩
    have hp : PassesOwn (model P w) (cxG P w K mg base ["self", "value"] "Repeated.times" (defScope s_Repeated__times__set) f cdv A outer s H E).A (cxG P w K mg base ["self", "value"] "Repeated.times" (defScope s_Repeated__times__set) f cdv A outer s H E).env (cxG P w K mg base ["self", "value"] "Repeated.times" (defScope s_Repeated__times__set) f cdv A outer s H E).xe := passes_of rfl
    exact (B_c (S_if (T_not (T_v (E_call D_is_between ft (A_c (E_loc 1) (A_c E_int (A_c (E_ccon rC_Repeated cl_Repeated cc_Repeated_MOST_TIMES (E_loc 0)) A_0)))))) (B_1 (S_raiseE E_InvalidTimes ft (by decide) (A_c (E_loc 1) A_0))) B_0)
    (B_1 (S_setA (j := 0) rC_Repeated cl_Repeated nf_Repeated_repetitions (E_loc 1))))
theorem ok_Repeated____init__ {f : Addr} {fd : FuncData} (F : Fun K "__init__" "Repeated.__init__" s_Repeated____init__ f fd) {C_Repeated : Addr} (rC_Repeated : reg K "Repeated" = some C_Repeated) (cl_Repeated : Cls K C_Repeated) (nf_Repeated_pattern : NoAttr K C_Repeated "pattern") {p_Repeated__table__set f_Repeated__table__set : Addr} {fd_Repeated__table__set : FuncData} (Q_Repeated__table__set : SDef P w K mg base 4 C_Repeated "table" p_Repeated__table__set f_Repeated__table__set fd_Repeated__table__set "value" S_Repeated__table__set) {p_Repeated__times__set f_Repeated__times__set : Addr} {fd_Repeated__times__set : FuncData} (Q_Repeated__times__set : SDef P w K mg base 3 C_Repeated "times" p_Repeated__times__set f_Repeated__times__set fd_Repeated__times__set "value" S_Repeated__times__set) : FnG P w K mg base 7 f fd ["self", "table", "block", "times"] S_Repeated____init__ :=
  fnG (k := 6) (m := 4) F sc_Repeated____init__ rfl fun cdv A outer s H E hgd hr => by
    have ft : Fit (cxG P w K mg base ["self", "table", "block", "times"] "Repeated.__init__" (defScope s_Repeated____init__) f cdv A outer s H E) (fun cls d _ H => E cls d H) 6 := ⟨hgd, hr, takes_of rfl rfl rfl rfl⟩
    have hp : PassesOwn (model P w) (cxG P w K mg base ["self", "table", "block", "times"] "Repeated.__init__" (defScope s_Repeated____init__) f cdv A outer s H E).A (cxG P w K mg base ["self", "table", "block", "times"] "Repeated.__init__" (defScope s_Repeated____init__) f cdv A outer s H E).env (cxG P w K mg base ["self", "table", "block", "times"] "Repeated.__init__" (defScope s_Repeated____init__) f cdv A outer s H E).xe := passes_of rfl
    exact (B_c (S_setA (j := 0) rC_Repeated cl_Repeated nf_Repeated_pattern (E_loc 2))
    (B_c (S_setP (j := 0) rC_Repeated cl_Repeated Q_Repeated__table__set ft (E_loc 1))
    (B_1 (S_setP (j := 0) rC_Repeated cl_Repeated Q_Repeated__times__set ft (E_loc 3)))))
theorem ok_Repeated__once {f : Addr} {fd : FuncData} (F : Fun K "once" "Repeated.once" s_Repeated__once f fd) {C_Repeated : Addr} (rC_Repeated : reg K "Repeated" = some C_Repeated) (cl_Repeated : Cls K C_Repeated) {f_Repeated____init__ : Addr} {fd_Repeated____init__ : FuncData} (I_Repeated : IDef P w K mg base 7 "Repeated" C_Repeated f_Repeated____init__ fd_Repeated____init__ ["self", "table", "block", "times"] S_Repeated____init__) : FnG P w K mg base 9 f fd ["cls", "table", "letters"] (S_Repeated__once C_Repeated) :=
  fnG (k := 8) (m := 3) F sc_Repeated__once rfl fun cdv A outer s H E hgd hr => by
    have ft : Fit (cxG P w K mg base ["cls", "table", "letters"] "Repeated.once" (defScope s_Repeated__once) f cdv A outer s H E) (fun cls d _ H => E cls d H) 8 := ⟨hgd, hr, takes_of rfl rfl rfl rfl⟩
    have hp : PassesOwn (model P w) (cxG P w K mg base ["cls", "table", "letters"] "Repeated.once" (defScope s_Repeated__once) f cdv A outer s H E).A (cxG P w K mg base ["cls", "table", "letters"] "Repeated.once" (defScope s_Repeated__once) f cdv A outer s H E).env (cxG P w K mg base ["cls", "table", "letters"] "Repeated.once" (defScope s_Repeated__once) f cdv A outer s H E).xe := passes_of rfl
    exact (B_1 (S_ret (E_mkcls rC_Repeated I_Repeated ft (A_c (E_loc 1) (A_c (E_loc 2) (A_c E_int A_0))))))
theorem ok_law {f : Addr} {fd : FuncData} (F : Fun K "law" "law" s_law f fd) (z_len : mg "len" = none) (z_range : mg "range" = none) (z_repr : mg "repr" = none) {C_Repeated : Addr} (rC_Repeated : reg K "Repeated" = some C_Repeated) (cl_Repeated : Cls K C_Repeated) {f__law_pen : Addr} {fd__law_pen : FuncData} (D__law_pen : Def P w K mg base 1 "_law_pen" f__law_pen fd__law_pen ["_law_script"] S__law_pen) {f__law_block : Addr} {fd__law_block : FuncData} (D__law_block : Def P w K mg base 4 "_law_block" f__law_block fd__law_block ["_law_pen_here", "_law_wide"] S__law_block) {f__law_draw : Addr} {fd__law_draw : FuncData} (D__law_draw : Def P w K mg base 1 "_law_draw" f__law_draw fd__law_draw ["_law_pen_here", "_law_count"] S__law_draw) {f__law_heard : Addr} {fd__law_heard : FuncData} (L__law_heard : LDef P w K mg base 0 "_law_heard" "_law_ask" s__law_heard f__law_heard fd__law_heard ["_law_ask", "error"] H__law_heard) {f__law_due : Addr} {fd__law_due : FuncData} (D__law_due : Def P w K mg base 1 "_law_due" f__law_due fd__law_due ["_law_entries_here", "_law_row", "_law_number_here"] S__law_due) {f_Repeated____init__ : Addr} {fd_Repeated____init__ : FuncData} (I_Repeated : IDef P w K mg base 7 "Repeated" C_Repeated f_Repeated____init__ fd_Repeated____init__ ["self", "table", "block", "times"] S_Repeated____init__) {f_Repeated__once : Addr} {fd_Repeated__once : FuncData} (CM_Repeated__once : CDefM P w K mg base 9 "Repeated" C_Repeated "once" f_Repeated__once fd_Repeated__once ["cls", "table", "letters"] S_Repeated__once) (T_law : ∃ c P, fd.code = .ref c ∧ (("law" : Str), c, P) ∈ tabsK K ∧ LamX.TabB base mg c P) : FnG P w K mg base 12 f fd ["_law_script"] S_law :=
  fnGc (k := 11) (m := 9) F sc_law rfl fun cdv A outer s H E hcode hgd hr => by
    have ft : Fit (cxG P w K mg base ["_law_script", "_law_pen_here", "_law_lap", "_law_entries_here", "_law_row", "_law_at", "_law_odd", "_law_number_here", "_law_kept"] "law" (defScope s_law) f cdv A outer s H E) (fun cls d _ H => E cls d H) 11 := ⟨hgd, hr, takes_of rfl rfl rfl rfl⟩
    have hp : PassesOwn (model P w) (cxG P w K mg base ["_law_script", "_law_pen_here", "_law_lap", "_law_entries_here", "_law_row", "_law_at", "_law_odd", "_law_number_here", "_law_kept"] "law" (defScope s_law) f cdv A outer s H E).A (cxG P w K mg base ["_law_script", "_law_pen_here", "_law_lap", "_law_entries_here", "_law_row", "_law_at", "_law_odd", "_law_number_here", "_law_kept"] "law" (defScope s_law) f cdv A outer s H E).env (cxG P w K mg base ["_law_script", "_law_pen_here", "_law_lap", "_law_entries_here", "_law_row", "_law_at", "_law_odd", "_law_number_here", "_law_kept"] "law" (defScope s_law) f cdv A outer s H E).xe := passes_of rfl
    have mk : MkT (cxG P w K mg base ["_law_script", "_law_pen_here", "_law_lap", "_law_entries_here", "_law_row", "_law_at", "_law_odd", "_law_number_here", "_law_kept"] "law" (defScope s_law) f cdv A outer s H E) := by
      obtain ⟨c, P, h1, h2, h3⟩ := T_law
      exact ⟨c, P, "law", hcode.symm.trans h1, rfl, h2, h3⟩
    exact (B_c (S_set (i := 1) (E_call D__law_pen ft (A_c (E_loc 0) A_0)) sc_law.nd)
    (B_c (S_for hp (I_r1 z_range E_int) (G_n (i := 2) sc_law.nd) (B_c (S_tg (E_call D__law_block ft (A_c (E_loc 1) (A_c E_int A_0))) (G_t (Gs_c (G_n (i := 3) sc_law.nd) (Gs_c (G_n (i := 4) sc_law.nd) Gs_0))))
    (B_c (S_set (i := 5) (E_call D__law_draw ft (A_c (E_loc 1) (A_c (E_op opd_hAdd (E_blF snd_len call_lenA z_len (A_c (E_loc 4) A_0)) E_int) A_0))) sc_law.nd)
    (B_c (S_if (T_cmp (opd_eq ft.room.units) (E_call D__law_draw ft (A_c (E_loc 1) (A_c E_int A_0))) E_int) (B_1 (S_set (i := 4) (E_cut (E_op opd_hAdd (E_op opd_hAdd (E_cut (E_loc 4) O_0 (O_1 (E_loc 5))) (E_idx (E_L (A_c E_str (A_c E_str (A_c E_str A_0)))) (E_call D__law_draw ft (A_c (E_loc 1) (A_c E_int A_0))))) (E_cut (E_loc 4) (O_1 (E_loc 5)) O_0)) O_0 (O_1 E_int)) sc_law.nd)) B_0)
    (B_c (S_set (i := 6) (E_L (A_c E_int (A_c (E_neg E_int) (A_c E_bl (A_c E_bl (A_c E_non (A_c E_str (A_c E_str (A_c (E_T (A_c E_int A_0)) (A_c (E_L (A_c E_int A_0)) (A_c E_D0 (A_c (E_op opd_hAdd (E_op opd_powI E_int E_int) E_int) (A_c (E_op opd_powI E_int E_int) (A_c E_int (A_c (E_op opd_powI E_int E_int) (A_c E_int (A_c (E_op opd_powI E_int E_int) A_0))))))))))))))))) sc_law.nd)
    (B_c (S_set (i := 7) (E_idx (E_loc 6) (E_call D__law_draw ft (A_c (E_loc 1) (A_c E_int A_0)))) sc_law.nd)
    (B_c (S_set (i := 8) (E_blF snd_reprC (call_reprC ft.gd ft.room.units) z_repr (A_c (E_T (A_c (E_loc 3) (A_c (E_loc 4) (A_c (E_loc 7) A_0)))) A_0)) sc_law.nd)
    (B_c (S_if (T_cmp (opd_ne ft.room.units) (E_blF snd_reprC (call_reprC ft.gd ft.room.units) z_repr (A_c (E_lam L__law_heard ft mk (fun A outer s H E f' c' (ft' : Fit _ _ 9) => (E_make rC_Repeated I_Repeated ft' (A_c (E_loc 3) (A_c (E_loc 4) (A_c (E_loc 7) A_0)))))) A_0)) (E_blF snd_reprC (call_reprC ft.gd ft.room.units) z_repr (A_c (E_call D__law_due ft (A_c (E_loc 3) (A_c (E_loc 4) (A_c (E_loc 7) A_0)))) A_0))) (B_1 (S_ret E_bl)) B_0)
    (B_c (S_if (T_cmp (opd_ne ft.room.units) (E_blF snd_reprC (call_reprC ft.gd ft.room.units) z_repr (A_c (E_lam L__law_heard ft mk (fun A outer s H E f' c' (ft' : Fit _ _ 9) => (E_clsm CM_Repeated__once cf_Repeated__once ft' (A_c (E_loc 3) (A_c (E_loc 4) A_0))))) A_0)) (E_blF snd_reprC (call_reprC ft.gd ft.room.units) z_repr (A_c (E_call D__law_due ft (A_c (E_loc 3) (A_c (E_loc 4) (A_c E_int A_0)))) A_0))) (B_1 (S_ret E_bl)) B_0)
    (B_1 (S_if (T_cmp (opd_ne ft.room.units) (E_blF snd_reprC (call_reprC ft.gd ft.room.units) z_repr (A_c (E_T (A_c (E_loc 3) (A_c (E_loc 4) (A_c (E_loc 7) A_0)))) A_0)) (E_loc 8)) (B_1 (S_ret E_bl)) B_0)))))))))))
    (B_1 (S_ret E_bl))))
theorem all_mk {P : Program} {w : World} {K : PySem.W.Frag} {h : Heap} {mg : Str → Option Value} {fa f0 f1 f2 f3 f4 f5 f6 f7 f8 f9 f10 f11 f12 f13 f14 f15 f16 f17 : Addr} (KX : K.In h) (G : h.Ns mainGlobals mg) (hfa : mg "law" = some (.ref fa))
    {C_Place : Addr} (aK_Place : PySem.W.nsIn K mainGlobals "Place" = some (some (.ref C_Place))) (pg_Place : PySem.W.plainGet K C_Place Str.empty = true) (hd_Place : PySem.W.hasDictIn K C_Place = true) (po_Place : PySem.W.plainOver K C_Place = true) (sa_Place : PySem.W.findIn K (.ref C_Place) "__setattr__" = some (some (.builtin "object.__setattr__"))) (mk_Place : PySem.W.makesIn K C_Place = true) (kc_Place : PySem.W.keepIn K (.ref C_Place) = true)
    {C_Repeated : Addr} (aK_Repeated : PySem.W.nsIn K mainGlobals "Repeated" = some (some (.ref C_Repeated))) (pg_Repeated : PySem.W.plainGet K C_Repeated Str.empty = true) (hd_Repeated : PySem.W.hasDictIn K C_Repeated = true) (po_Repeated : PySem.W.plainOver K C_Repeated = true) (sa_Repeated : PySem.W.findIn K (.ref C_Repeated) "__setattr__" = some (some (.builtin "object.__setattr__"))) (mk_Repeated : PySem.W.makesIn K C_Repeated = true) (kc_Repeated : PySem.W.keepIn K (.ref C_Repeated) = true)
    (nf_Place_first_strength : PySem.W.findIn K (.ref C_Place) "first_strength" = some none)
    (nf_Place_first_use : PySem.W.findIn K (.ref C_Place) "first_use" = some none)
    (nf_Place_loss : PySem.W.findIn K (.ref C_Place) "loss" = some none)
    (nf_Place_mark : PySem.W.findIn K (.ref C_Place) "mark" = some none)
    (nf_Place_uses : PySem.W.findIn K (.ref C_Place) "uses" = some none)
    (nf_Repeated_origin : PySem.W.findIn K (.ref C_Repeated) "origin" = some none)
    (nf_Repeated_pattern : PySem.W.findIn K (.ref C_Repeated) "pattern" = some none)
    (nf_Repeated_places : PySem.W.findIn K (.ref C_Repeated) "places" = some none)
    (nf_Repeated_repetitions : PySem.W.findIn K (.ref C_Repeated) "repetitions" = some none)
    {tc_Repeated_MOST_TIMES : Tok} (ca_Repeated_MOST_TIMES : PySem.W.findIn K (.ref C_Repeated) "MOST_TIMES" = some (some (.int 1000000000000000000000000000000 tc_Repeated_MOST_TIMES))) (cg_Repeated_MOST_TIMES : PySem.W.specialIn K (.int 1000000000000000000000000000000 tc_Repeated_MOST_TIMES) "__get__" = some none)
    {od0 an0 : Option Addr} {sl0 : Array (Option Value)} {oc0 kV0 dc0 pm0 cd0 ct0 : Value} (a0 : PySem.W.nsIn K mainGlobals "_law_pen" = some (some (.ref f0))) (l0 : K.lookup f0 = some ⟨oc0, od0, .func (PySem.W.fnOf "_law_pen" "_law_pen" (defArgs s__law_pen) (defBody s__law_pen) (defScope s__law_pen) .none kV0 dc0 pm0 an0 cd0 ct0), sl0⟩) (c0 : PySem.W.codeIn K cd0 "_law_pen" = true) (k0 : PySem.W.keepIn K (.ref f0) = true)
    {od1 an1 : Option Addr} {sl1 : Array (Option Value)} {oc1 kV1 dc1 pm1 cd1 ct1 : Value} (a1 : PySem.W.nsIn K mainGlobals "_law_draw" = some (some (.ref f1))) (l1 : K.lookup f1 = some ⟨oc1, od1, .func (PySem.W.fnOf "_law_draw" "_law_draw" (defArgs s__law_draw) (defBody s__law_draw) (defScope s__law_draw) .none kV1 dc1 pm1 an1 cd1 ct1), sl1⟩) (c1 : PySem.W.codeIn K cd1 "_law_draw" = true) (k1 : PySem.W.keepIn K (.ref f1) = true)
    {od2 an2 : Option Addr} {sl2 : Array (Option Value)} {oc2 kV2 dc2 pm2 cd2 ct2 : Value} (a2 : PySem.W.nsIn K mainGlobals "_law_number" = some (some (.ref f2))) (l2 : K.lookup f2 = some ⟨oc2, od2, .func (PySem.W.fnOf "_law_number" "_law_number" (defArgs s__law_number) (defBody s__law_number) (defScope s__law_number) .none kV2 dc2 pm2 an2 cd2 ct2), sl2⟩) (c2 : PySem.W.codeIn K cd2 "_law_number" = true) (k2 : PySem.W.keepIn K (.ref f2) = true)
    {od3 an3 : Option Addr} {sl3 : Array (Option Value)} {oc3 kV3 dc3 pm3 cd3 ct3 : Value} (a3 : PySem.W.nsIn K mainGlobals "_law_entries" = some (some (.ref f3))) (l3 : K.lookup f3 = some ⟨oc3, od3, .func (PySem.W.fnOf "_law_entries" "_law_entries" (defArgs s__law_entries) (defBody s__law_entries) (defScope s__law_entries) .none kV3 dc3 pm3 an3 cd3 ct3), sl3⟩) (c3 : PySem.W.codeIn K cd3 "_law_entries" = true) (k3 : PySem.W.keepIn K (.ref f3) = true)
    {od4 an4 : Option Addr} {sl4 : Array (Option Value)} {oc4 kV4 dc4 pm4 cd4 ct4 : Value} (a4 : PySem.W.nsIn K mainGlobals "_law_signs" = some (some (.ref f4))) (l4 : K.lookup f4 = some ⟨oc4, od4, .func (PySem.W.fnOf "_law_signs" "_law_signs" (defArgs s__law_signs) (defBody s__law_signs) (defScope s__law_signs) .none kV4 dc4 pm4 an4 cd4 ct4), sl4⟩) (c4 : PySem.W.codeIn K cd4 "_law_signs" = true) (k4 : PySem.W.keepIn K (.ref f4) = true)
    {od5 an5 : Option Addr} {sl5 : Array (Option Value)} {oc5 kV5 dc5 pm5 cd5 ct5 : Value} (a5 : PySem.W.nsIn K mainGlobals "_law_some" = some (some (.ref f5))) (l5 : K.lookup f5 = some ⟨oc5, od5, .func (PySem.W.fnOf "_law_some" "_law_some" (defArgs s__law_some) (defBody s__law_some) (defScope s__law_some) .none kV5 dc5 pm5 an5 cd5 ct5), sl5⟩) (c5 : PySem.W.codeIn K cd5 "_law_some" = true) (k5 : PySem.W.keepIn K (.ref f5) = true)
    {od6 an6 : Option Addr} {sl6 : Array (Option Value)} {oc6 kV6 dc6 pm6 cd6 ct6 : Value} (a6 : PySem.W.nsIn K mainGlobals "_law_block" = some (some (.ref f6))) (l6 : K.lookup f6 = some ⟨oc6, od6, .func (PySem.W.fnOf "_law_block" "_law_block" (defArgs s__law_block) (defBody s__law_block) (defScope s__law_block) .none kV6 dc6 pm6 an6 cd6 ct6), sl6⟩) (c6 : PySem.W.codeIn K cd6 "_law_block" = true) (k6 : PySem.W.keepIn K (.ref f6) = true)
    {od7 an7 : Option Addr} {sl7 : Array (Option Value)} {oc7 kV7 dc7 pm7 cd7 ct7 : Value} (a7 : PySem.W.nsIn K mainGlobals "_law_heard" = some (some (.ref f7))) (l7 : K.lookup f7 = some ⟨oc7, od7, .func (PySem.W.fnOf "_law_heard" "_law_heard" (defArgs s__law_heard) (defBody s__law_heard) (defScope s__law_heard) .none kV7 dc7 pm7 an7 cd7 ct7), sl7⟩) (c7 : PySem.W.codeIn K cd7 "_law_heard" = true) (k7 : PySem.W.keepIn K (.ref f7) = true)
    {od8 an8 : Option Addr} {sl8 : Array (Option Value)} {oc8 kV8 dc8 pm8 cd8 ct8 : Value} (a8 : PySem.W.nsIn K mainGlobals "_law_due" = some (some (.ref f8))) (l8 : K.lookup f8 = some ⟨oc8, od8, .func (PySem.W.fnOf "_law_due" "_law_due" (defArgs s__law_due) (defBody s__law_due) (defScope s__law_due) .none kV8 dc8 pm8 an8 cd8 ct8), sl8⟩) (c8 : PySem.W.codeIn K cd8 "_law_due" = true) (k8 : PySem.W.keepIn K (.ref f8) = true)
    {od9 an9 : Option Addr} {sl9 : Array (Option Value)} {oc9 kV9 dc9 pm9 cd9 ct9 : Value} (a9 : PySem.W.findIn K (.ref C_Place) "__init__" = some (some (.ref f9))) (i9 : PySem.W.isFn K (.ref f9) = true) (l9 : K.lookup f9 = some ⟨oc9, od9, .func (PySem.W.fnOf "__init__" "Place.__init__" (defArgs s_Place____init__) (defBody s_Place____init__) (defScope s_Place____init__) .none kV9 dc9 pm9 an9 cd9 ct9), sl9⟩) (c9 : PySem.W.codeIn K cd9 "Place.__init__" = true) (k9 : PySem.W.keepIn K (.ref f9) = true)
    {od10 an10 : Option Addr} {sl10 : Array (Option Value)} {oc10 kV10 dc10 pm10 cd10 ct10 : Value} (a10 : PySem.W.nsIn K mainGlobals "places_of" = some (some (.ref f10))) (l10 : K.lookup f10 = some ⟨oc10, od10, .func (PySem.W.fnOf "places_of" "places_of" (defArgs s_places_of) (defBody s_places_of) (defScope s_places_of) .none kV10 dc10 pm10 an10 cd10 ct10), sl10⟩) (c10 : PySem.W.codeIn K cd10 "places_of" = true) (k10 : PySem.W.keepIn K (.ref f10) = true)
    {od11 an11 : Option Addr} {sl11 : Array (Option Value)} {oc11 kV11 dc11 pm11 cd11 ct11 : Value} {p11 : Addr} {rs11 : List Value} (a11 : PySem.W.findIn K (.ref C_Repeated) "table" = some (some (.ref p11))) {v11 : Value} (r11 : PySem.W.recIn K p11 "property" = some (v11 :: .ref f11 :: rs11)) (g11 : PySem.W.takerIn K C_Repeated "table" = some (some (.ref p11))) (w11 : PySem.W.typeIn K (.ref p11) = some (.type "property")) (l11 : K.lookup f11 = some ⟨oc11, od11, .func (PySem.W.fnOf "table" "Repeated.table" (defArgs s_Repeated__table__set) (defBody s_Repeated__table__set) (defScope s_Repeated__table__set) .none kV11 dc11 pm11 an11 cd11 ct11), sl11⟩) (c11 : PySem.W.codeIn K cd11 "Repeated.table" = true) (k11 : PySem.W.keepIn K (.ref f11) = true)
    {od12 an12 : Option Addr} {sl12 : Array (Option Value)} {oc12 kV12 dc12 pm12 cd12 ct12 : Value} (a12 : PySem.W.nsIn K mainGlobals "is_integer" = some (some (.ref f12))) (l12 : K.lookup f12 = some ⟨oc12, od12, .func (PySem.W.fnOf "is_integer" "is_integer" (defArgs s_is_integer) (defBody s_is_integer) (defScope s_is_integer) .none kV12 dc12 pm12 an12 cd12 ct12), sl12⟩) (c12 : PySem.W.codeIn K cd12 "is_integer" = true) (k12 : PySem.W.keepIn K (.ref f12) = true)
    {od13 an13 : Option Addr} {sl13 : Array (Option Value)} {oc13 kV13 dc13 pm13 cd13 ct13 : Value} (a13 : PySem.W.nsIn K mainGlobals "is_between" = some (some (.ref f13))) (l13 : K.lookup f13 = some ⟨oc13, od13, .func (PySem.W.fnOf "is_between" "is_between" (defArgs s_is_between) (defBody s_is_between) (defScope s_is_between) .none kV13 dc13 pm13 an13 cd13 ct13), sl13⟩) (c13 : PySem.W.codeIn K cd13 "is_between" = true) (k13 : PySem.W.keepIn K (.ref f13) = true)
    {od14 an14 : Option Addr} {sl14 : Array (Option Value)} {oc14 kV14 dc14 pm14 cd14 ct14 : Value} {p14 : Addr} {rs14 : List Value} (a14 : PySem.W.findIn K (.ref C_Repeated) "times" = some (some (.ref p14))) {v14 : Value} (r14 : PySem.W.recIn K p14 "property" = some (v14 :: .ref f14 :: rs14)) (g14 : PySem.W.takerIn K C_Repeated "times" = some (some (.ref p14))) (w14 : PySem.W.typeIn K (.ref p14) = some (.type "property")) (l14 : K.lookup f14 = some ⟨oc14, od14, .func (PySem.W.fnOf "times" "Repeated.times" (defArgs s_Repeated__times__set) (defBody s_Repeated__times__set) (defScope s_Repeated__times__set) .none kV14 dc14 pm14 an14 cd14 ct14), sl14⟩) (c14 : PySem.W.codeIn K cd14 "Repeated.times" = true) (k14 : PySem.W.keepIn K (.ref f14) = true)
    {od15 an15 : Option Addr} {sl15 : Array (Option Value)} {oc15 kV15 dc15 pm15 cd15 ct15 : Value} (a15 : PySem.W.findIn K (.ref C_Repeated) "__init__" = some (some (.ref f15))) (i15 : PySem.W.isFn K (.ref f15) = true) (l15 : K.lookup f15 = some ⟨oc15, od15, .func (PySem.W.fnOf "__init__" "Repeated.__init__" (defArgs s_Repeated____init__) (defBody s_Repeated____init__) (defScope s_Repeated____init__) .none kV15 dc15 pm15 an15 cd15 ct15), sl15⟩) (c15 : PySem.W.codeIn K cd15 "Repeated.__init__" = true) (k15 : PySem.W.keepIn K (.ref f15) = true)
    {od16 an16 : Option Addr} {sl16 : Array (Option Value)} {oc16 kV16 dc16 pm16 cd16 ct16 : Value} {p16 : Addr} {rs16 : List Value} (a16 : PySem.W.findCls K (.ref C_Repeated) (.type "type") "once" = some (.get (.builtin "classmethod.__get__") (.ref p16) .none (.ref C_Repeated))) (r16 : PySem.W.readsIn K C_Repeated (.type "type") = true) (g16 : PySem.W.specialIn K (.ref C_Repeated) "__getattribute__" = some (some (.builtin "type.__getattribute__"))) (w16 : PySem.W.recIn K p16 "classmethod" = some (.ref f16 :: rs16)) (i16 : PySem.W.fnIn K f16 = true) (l16 : K.lookup f16 = some ⟨oc16, od16, .func (PySem.W.fnOf "once" "Repeated.once" (defArgs s_Repeated__once) (defBody s_Repeated__once) (defScope s_Repeated__once) .none kV16 dc16 pm16 an16 cd16 ct16), sl16⟩) (c16 : PySem.W.codeIn K cd16 "Repeated.once" = true) (k16 : PySem.W.keepIn K (.ref f16) = true)
    {od17 an17 : Option Addr} {sl17 : Array (Option Value)} {oc17 kV17 dc17 pm17 cd17 ct17 : Value} (a17 : PySem.W.nsIn K mainGlobals "law" = some (some (.ref f17))) (l17 : K.lookup f17 = some ⟨oc17, od17, .func (PySem.W.fnOf "law" "law" (defArgs s_law) (defBody s_law) (defScope s_law) .none kV17 dc17 pm17 an17 cd17 ct17), sl17⟩) (c17 : PySem.W.codeIn K cd17 "law" = true) (k17 : PySem.W.keepIn K (.ref f17) = true)
    (t17 : (tabN K "law").isSome = true)
    (z_KeyError : PySem.W.nsIn K mainGlobals "KeyError" = some none)
    (z_LookupError : PySem.W.nsIn K mainGlobals "LookupError" = some none)
    (z_ValueError : PySem.W.nsIn K mainGlobals "ValueError" = some none)
    (z_abs : PySem.W.nsIn K mainGlobals "abs" = some none)
    (z_bool : PySem.W.nsIn K mainGlobals "bool" = some none)
    (z_enumerate : PySem.W.nsIn K mainGlobals "enumerate" = some none)
    (z_int : PySem.W.nsIn K mainGlobals "int" = some none)
    (z_isinstance : PySem.W.nsIn K mainGlobals "isinstance" = some none)
    (z_len : PySem.W.nsIn K mainGlobals "len" = some none)
    (z_list : PySem.W.nsIn K mainGlobals "list" = some none)
    (z_range : PySem.W.nsIn K mainGlobals "range" = some none)
    (z_repr : PySem.W.nsIn K mainGlobals "repr" = some none)
    (z_sorted : PySem.W.nsIn K mainGlobals "sorted" = some none)
    (z_tuple : PySem.W.nsIn K mainGlobals "tuple" = some none)
    {C_InvalidTable C_InvalidTimes C_UnknownOperator C_WearError : Addr}
    (aC_InvalidTable : PySem.W.nsIn K mainGlobals "InvalidTable" = some (some (.ref C_InvalidTable)))
    (ga_InvalidTable : PySem.W.findIn K (.ref C_InvalidTable) "__getattribute__" = some (some (.builtin "BaseException.__getattribute__")))
    (gg_InvalidTable : PySem.W.findIn K (.ref C_InvalidTable) "__getattr__" = some none)
    (eC_InvalidTable : PySem.W.subIn K (.ref C_InvalidTable) (.type "BaseException") = some true)
    (hC_InvalidTable : PySem.W.hasDictIn K C_InvalidTable = true)
    (ca_InvalidTable : PySem.W.findIn K (.ref C_InvalidTable) "__class__" = some (some (.builtin "object.__class__")))
    (mo_InvalidTable : PySem.W.mroIn K C_InvalidTable (.type "object") = some true)
    (tC_InvalidTable : PySem.W.typeIn K (.ref C_InvalidTable) = some (.type "type"))
    (aC_InvalidTimes : PySem.W.nsIn K mainGlobals "InvalidTimes" = some (some (.ref C_InvalidTimes)))
    (ga_InvalidTimes : PySem.W.findIn K (.ref C_InvalidTimes) "__getattribute__" = some (some (.builtin "BaseException.__getattribute__")))
    (gg_InvalidTimes : PySem.W.findIn K (.ref C_InvalidTimes) "__getattr__" = some none)
    (eC_InvalidTimes : PySem.W.subIn K (.ref C_InvalidTimes) (.type "BaseException") = some true)
    (hC_InvalidTimes : PySem.W.hasDictIn K C_InvalidTimes = true)
    (ca_InvalidTimes : PySem.W.findIn K (.ref C_InvalidTimes) "__class__" = some (some (.builtin "object.__class__")))
    (mo_InvalidTimes : PySem.W.mroIn K C_InvalidTimes (.type "object") = some true)
    (tC_InvalidTimes : PySem.W.typeIn K (.ref C_InvalidTimes) = some (.type "type"))
    (aC_UnknownOperator : PySem.W.nsIn K mainGlobals "UnknownOperator" = some (some (.ref C_UnknownOperator)))
    (ga_UnknownOperator : PySem.W.findIn K (.ref C_UnknownOperator) "__getattribute__" = some (some (.builtin "BaseException.__getattribute__")))
    (gg_UnknownOperator : PySem.W.findIn K (.ref C_UnknownOperator) "__getattr__" = some none)
    (eC_UnknownOperator : PySem.W.subIn K (.ref C_UnknownOperator) (.type "BaseException") = some true)
    (hC_UnknownOperator : PySem.W.hasDictIn K C_UnknownOperator = true)
    (ca_UnknownOperator : PySem.W.findIn K (.ref C_UnknownOperator) "__class__" = some (some (.builtin "object.__class__")))
    (mo_UnknownOperator : PySem.W.mroIn K C_UnknownOperator (.type "object") = some true)
    (tC_UnknownOperator : PySem.W.typeIn K (.ref C_UnknownOperator) = some (.type "type"))
    (aC_WearError : PySem.W.nsIn K mainGlobals "WearError" = some (some (.ref C_WearError)))
    (ga_WearError : PySem.W.findIn K (.ref C_WearError) "__getattribute__" = some (some (.builtin "BaseException.__getattribute__")))
    (gg_WearError : PySem.W.findIn K (.ref C_WearError) "__getattr__" = some none)
    (eC_WearError : PySem.W.subIn K (.ref C_WearError) (.type "BaseException") = some true)
    (hC_WearError : PySem.W.hasDictIn K C_WearError = true)
    (ca_WearError : PySem.W.findIn K (.ref C_WearError) "__class__" = some (some (.builtin "object.__class__")))
    (mo_WearError : PySem.W.mroIn K C_WearError (.type "object") = some true)
    (tC_WearError : PySem.W.typeIn K (.ref C_WearError) = some (.type "type"))
    (spX : PySem.W.specialIn K (.builtin "object.__class__") "__get__" = some (some (.builtin "getset_descriptor.__get__"))) (tkX : PySem.W.takesIn K (.builtin "object.__class__") = some true)
    {nm_InvalidTimes q_InvalidTimes : Str} {NN_InvalidTimes fI_InvalidTimes : Addr} {bs_InvalidTimes sub_InvalidTimes : List Value} {sn_InvalidTimes : List Str} {ab_InvalidTimes : Bool} {col_InvalidTimes : Option Bool} {dd_InvalidTimes : Option Addr} {m0_InvalidTimes m1_InvalidTimes m2_InvalidTimes m3_InvalidTimes m5_InvalidTimes : Option Value}
    (xL_InvalidTimes : K.lookup C_InvalidTimes = some (excClassObj nm_InvalidTimes q_InvalidTimes C_InvalidTimes NN_InvalidTimes bs_InvalidTimes [.ref C_WearError, .type "ValueError", .type "Exception", .type "BaseException", .type "object"] true sn_InvalidTimes sub_InvalidTimes ab_InvalidTimes col_InvalidTimes dd_InvalidTimes m0_InvalidTimes m1_InvalidTimes m2_InvalidTimes m3_InvalidTimes m5_InvalidTimes "ValueError.__new__"))
    (sa_InvalidTimes : PySem.W.findIn K (.ref C_InvalidTimes) "__setattr__" = some (some (.builtin "object.__setattr__")))
    (kC_InvalidTimes : PySem.W.keepIn K (.ref C_InvalidTimes) = true)
    (no_InvalidTimes : PySem.W.findIn K (.ref C_InvalidTimes) "value" = some none)
    (iC_InvalidTimes : PySem.W.findIn K (.ref C_InvalidTimes) "__init__" = some (some (.ref fI_InvalidTimes)))
    (tI_InvalidTimes : PySem.W.typeIn K (.ref fI_InvalidTimes) = some (.type "function"))
    {iod_InvalidTimes ian_InvalidTimes : Option Addr} {isl_InvalidTimes : Array (Option Value)} {ioc_InvalidTimes ikV_InvalidTimes idc_InvalidTimes ipm_InvalidTimes icd_InvalidTimes ict_InvalidTimes : Value} (il_InvalidTimes : K.lookup fI_InvalidTimes = some ⟨ioc_InvalidTimes, iod_InvalidTimes, .func (PySem.W.fnOf "__init__" "InvalidTimes.__init__" (defArgs i_InvalidTimes) (defBody i_InvalidTimes) (defScope i_InvalidTimes) .none ikV_InvalidTimes idc_InvalidTimes ipm_InvalidTimes ian_InvalidTimes icd_InvalidTimes ict_InvalidTimes), isl_InvalidTimes⟩) (ic_InvalidTimes : PySem.W.codeIn K icd_InvalidTimes "InvalidTimes.__init__" = true) (ik_InvalidTimes : PySem.W.keepIn K (.ref fI_InvalidTimes) = true)
    {nm_UnknownOperator q_UnknownOperator : Str} {NN_UnknownOperator fI_UnknownOperator : Addr} {bs_UnknownOperator sub_UnknownOperator : List Value} {sn_UnknownOperator : List Str} {ab_UnknownOperator : Bool} {col_UnknownOperator : Option Bool} {dd_UnknownOperator : Option Addr} {m0_UnknownOperator m1_UnknownOperator m2_UnknownOperator m3_UnknownOperator m5_UnknownOperator : Option Value}
    (xL_UnknownOperator : K.lookup C_UnknownOperator = some (excClassObj nm_UnknownOperator q_UnknownOperator C_UnknownOperator NN_UnknownOperator bs_UnknownOperator [.type "KeyError", .type "LookupError", .type "Exception", .type "BaseException", .type "object"] true sn_UnknownOperator sub_UnknownOperator ab_UnknownOperator col_UnknownOperator dd_UnknownOperator m0_UnknownOperator m1_UnknownOperator m2_UnknownOperator m3_UnknownOperator m5_UnknownOperator "LookupError.__new__"))
    (sa_UnknownOperator : PySem.W.findIn K (.ref C_UnknownOperator) "__setattr__" = some (some (.builtin "object.__setattr__")))
    (kC_UnknownOperator : PySem.W.keepIn K (.ref C_UnknownOperator) = true)
    (no_UnknownOperator : PySem.W.findIn K (.ref C_UnknownOperator) "letter" = some none)
    (iC_UnknownOperator : PySem.W.findIn K (.ref C_UnknownOperator) "__init__" = some (some (.ref fI_UnknownOperator)))
    (tI_UnknownOperator : PySem.W.typeIn K (.ref fI_UnknownOperator) = some (.type "function"))
    {iod_UnknownOperator ian_UnknownOperator : Option Addr} {isl_UnknownOperator : Array (Option Value)} {ioc_UnknownOperator ikV_UnknownOperator idc_UnknownOperator ipm_UnknownOperator icd_UnknownOperator ict_UnknownOperator : Value} (il_UnknownOperator : K.lookup fI_UnknownOperator = some ⟨ioc_UnknownOperator, iod_UnknownOperator, .func (PySem.W.fnOf "__init__" "UnknownOperator.__init__" (defArgs i_UnknownOperator) (defBody i_UnknownOperator) (defScope i_UnknownOperator) .none ikV_UnknownOperator idc_UnknownOperator ipm_UnknownOperator ian_UnknownOperator icd_UnknownOperator ict_UnknownOperator), isl_UnknownOperator⟩) (ic_UnknownOperator : PySem.W.codeIn K icd_UnknownOperator "UnknownOperator.__init__" = true) (ik_UnknownOperator : PySem.W.keepIn K (.ref fI_UnknownOperator) = true)
    (s_InvalidTimes_UnknownOperator : PySem.W.subIn K (.ref C_InvalidTimes) (.ref C_UnknownOperator) = some false)
    (s_InvalidTimes_WearError : PySem.W.subIn K (.ref C_InvalidTimes) (.ref C_WearError) = some true)
    (s_UnknownOperator_UnknownOperator : PySem.W.subIn K (.ref C_UnknownOperator) (.ref C_UnknownOperator) = some true)
    (s_UnknownOperator_WearError : PySem.W.subIn K (.ref C_UnknownOperator) (.ref C_WearError) = some false)
    (nb_InvalidTimes_value : PySem.W.findIn K (.ref C_InvalidTimes) "value" = some none)
    (nb_UnknownOperator_letter : PySem.W.findIn K (.ref C_UnknownOperator) "letter" = some none)
    (kt_InvalidTimes_InvalidTable : PySem.W.kitOne K (.ref C_InvalidTimes) (.ref C_InvalidTable) = some false)
    (kt_InvalidTimes_InvalidTimes : PySem.W.kitOne K (.ref C_InvalidTimes) (.ref C_InvalidTimes) = some true)
    (kt_InvalidTimes_KeyError : PySem.W.kitOne K (.ref C_InvalidTimes) (.type "KeyError") = some false)
    (kt_InvalidTimes_LookupError : PySem.W.kitOne K (.ref C_InvalidTimes) (.type "LookupError") = some false)
    (kt_InvalidTimes_UnknownOperator : PySem.W.kitOne K (.ref C_InvalidTimes) (.ref C_UnknownOperator) = some false)
    (kt_InvalidTimes_ValueError : PySem.W.kitOne K (.ref C_InvalidTimes) (.type "ValueError") = some true)
    (kt_UnknownOperator_InvalidTable : PySem.W.kitOne K (.ref C_UnknownOperator) (.ref C_InvalidTable) = some false)
    (kt_UnknownOperator_InvalidTimes : PySem.W.kitOne K (.ref C_UnknownOperator) (.ref C_InvalidTimes) = some false)
    (kt_UnknownOperator_KeyError : PySem.W.kitOne K (.ref C_UnknownOperator) (.type "KeyError") = some true)
    (kt_UnknownOperator_LookupError : PySem.W.kitOne K (.ref C_UnknownOperator) (.type "LookupError") = some true)
    (kt_UnknownOperator_UnknownOperator : PySem.W.kitOne K (.ref C_UnknownOperator) (.ref C_UnknownOperator) = some true)
    (kt_UnknownOperator_ValueError : PySem.W.kitOne K (.ref C_UnknownOperator) (.type "ValueError") = some false)
    (kn_InvalidTimes : PySem.W.kitOne K (.type "NoneType") (.ref C_InvalidTimes) = some false)
    (kn_KeyError : PySem.W.kitOne K (.type "NoneType") (.type "KeyError") = some false)
    (kn_UnknownOperator : PySem.W.kitOne K (.type "NoneType") (.ref C_UnknownOperator) = some false)
    (kn_ValueError : PySem.W.kitOne K (.type "NoneType") (.type "ValueError") = some false) :
    ∃ fd : FuncData, (∀ (s : Shared) (u : Value), BindsTo s fd ⟨[u], []⟩ [("_law_script", u)]) ∧ ∀ base : Heap, K.In base → base.Ns mainGlobals mg → TBs K mg base → FnG P w K mg base 12 fa fd ["_law_script"] S_law := by
  have e := hfa.symm.trans (PySem.W.mg_of KX G a17)
  cases e
  have F0 := fun_mk (st := s__law_pen) l0 c0 k0
  have F1 := fun_mk (st := s__law_draw) l1 c1 k1
  have F2 := fun_mk (st := s__law_number) l2 c2 k2
  have F3 := fun_mk (st := s__law_entries) l3 c3 k3
  have F4 := fun_mk (st := s__law_signs) l4 c4 k4
  have F5 := fun_mk (st := s__law_some) l5 c5 k5
  have F6 := fun_mk (st := s__law_block) l6 c6 k6
  have F7 := fun_mk (st := s__law_heard) l7 c7 k7
  have F8 := fun_mk (st := s__law_due) l8 c8 k8
  have F9 := fun_mk (st := s_Place____init__) l9 c9 k9
  have F10 := fun_mk (st := s_places_of) l10 c10 k10
  have F11 := fun_mk (st := s_Repeated__table__set) l11 c11 k11
  have F12 := fun_mk (st := s_is_integer) l12 c12 k12
  have F13 := fun_mk (st := s_is_between) l13 c13 k13
  have F14 := fun_mk (st := s_Repeated__times__set) l14 c14 k14
  have F15 := fun_mk (st := s_Repeated____init__) l15 c15 k15
  have F16 := fun_mk (st := s_Repeated__once) l16 c16 k16
  have F17 := fun_mk (st := s_law) l17 c17 k17
  refine ⟨PySem.W.fnOf "law" "law" (defArgs s_law) (defBody s_law) (defScope s_law) .none kV17 dc17 pm17 an17 cd17 ct17, fun s v => .of_eq rfl, fun base _ _ tbs => ?_⟩
  obtain ⟨c17x, P17x, y17, z17⟩ := maker_tab a17 l17 t17
  have N_InvalidTable : NCls K mg "InvalidTable" C_InvalidTable := ⟨PySem.W.mg_of KX G aC_InvalidTable, reg_of aC_InvalidTable, ⟨ga_InvalidTable, gg_InvalidTable, eC_InvalidTable, hC_InvalidTable, ca_InvalidTable, spX, tkX, mo_InvalidTable⟩, tC_InvalidTable⟩
  have N_InvalidTimes : NCls K mg "InvalidTimes" C_InvalidTimes := ⟨PySem.W.mg_of KX G aC_InvalidTimes, reg_of aC_InvalidTimes, ⟨ga_InvalidTimes, gg_InvalidTimes, eC_InvalidTimes, hC_InvalidTimes, ca_InvalidTimes, spX, tkX, mo_InvalidTimes⟩, tC_InvalidTimes⟩
  have N_UnknownOperator : NCls K mg "UnknownOperator" C_UnknownOperator := ⟨PySem.W.mg_of KX G aC_UnknownOperator, reg_of aC_UnknownOperator, ⟨ga_UnknownOperator, gg_UnknownOperator, eC_UnknownOperator, hC_UnknownOperator, ca_UnknownOperator, spX, tkX, mo_UnknownOperator⟩, tC_UnknownOperator⟩
  have N_WearError : NCls K mg "WearError" C_WearError := ⟨PySem.W.mg_of KX G aC_WearError, reg_of aC_WearError, ⟨ga_WearError, gg_WearError, eC_WearError, hC_WearError, ca_WearError, spX, tkX, mo_WearError⟩, tC_WearError⟩
  have IF_InvalidTimes := fun_mk (st := i_InvalidTimes) il_InvalidTimes ic_InvalidTimes ik_InvalidTimes
  have E_InvalidTimes : ECls P w K mg base "InvalidTimes" "value" C_InvalidTimes := ⟨N_InvalidTimes, fI_InvalidTimes, _, "value", ⟨⟨_, _, _, _, _, _, _, _, _, _, _, _, _, _, _, _, _, _, _, _, xf_value, xL_InvalidTimes, rfl⟩, sa_InvalidTimes, eC_InvalidTimes, tC_InvalidTimes, kC_InvalidTimes, no_InvalidTimes, iC_InvalidTimes, tI_InvalidTimes⟩, init_ok IF_InvalidTimes isc_InvalidTimes rfl (fun _ _ => Or.inl rfl) (fun _ _ => Or.inl rfl), IF_InvalidTimes.binds fun _ _ _ _ _ _ us hl => match us, hl with | [_, _], _ => rfl⟩
  have IF_UnknownOperator := fun_mk (st := i_UnknownOperator) il_UnknownOperator ic_UnknownOperator ik_UnknownOperator
  have E_UnknownOperator : ECls P w K mg base "UnknownOperator" "letter" C_UnknownOperator := ⟨N_UnknownOperator, fI_UnknownOperator, _, "letter", ⟨⟨_, _, _, _, _, _, _, _, _, _, _, _, _, _, _, _, _, _, _, _, xf_key, xL_UnknownOperator, rfl⟩, sa_UnknownOperator, eC_UnknownOperator, tC_UnknownOperator, kC_UnknownOperator, no_UnknownOperator, iC_UnknownOperator, tI_UnknownOperator⟩, init_ok IF_UnknownOperator isc_UnknownOperator rfl (fun _ _ => Or.inl rfl) (fun _ _ => Or.inl rfl), IF_UnknownOperator.binds fun _ _ _ _ _ _ us hl => match us, hl with | [_, _], _ => rfl⟩
  have rC_Place := reg_of aK_Place
  have cl_Place : Cls K C_Place := ⟨pg_Place, hd_Place, po_Place, sa_Place⟩
  have rC_Repeated := reg_of aK_Repeated
  have cl_Repeated : Cls K C_Repeated := ⟨pg_Repeated, hd_Repeated, po_Repeated, sa_Repeated⟩
  have cc_Repeated_MOST_TIMES : CInt K C_Repeated "MOST_TIMES" 1000000000000000000000000000000 := ⟨⟨tc_Repeated_MOST_TIMES, ca_Repeated_MOST_TIMES, cg_Repeated_MOST_TIMES⟩, by decide⟩
  have D__law_pen : Def P w K mg base 1 "_law_pen" f0 _ ["_law_script"] S__law_pen := ⟨ok__law_pen F0 (PySem.W.mg_none_of KX G z_list), PySem.W.mg_of KX G a0, k0, F0.binds fun _ _ _ _ _ _ us hl => match us, hl with | [_], _ => rfl⟩
  have D__law_draw : Def P w K mg base 1 "_law_draw" f1 _ ["_law_pen_here", "_law_count"] S__law_draw := ⟨ok__law_draw F1 (PySem.W.mg_none_of KX G z_abs) (PySem.W.mg_none_of KX G z_int) (PySem.W.mg_none_of KX G z_len), PySem.W.mg_of KX G a1, k1, F1.binds fun _ _ _ _ _ _ us hl => match us, hl with | [_, _], _ => rfl⟩
  have D__law_number : Def P w K mg base 2 "_law_number" f2 _ ["_law_pen_here", "_law_reach"] S__law_number := ⟨ok__law_number F2 D__law_draw, PySem.W.mg_of KX G a2, k2, F2.binds fun _ _ _ _ _ _ us hl => match us, hl with | [_, _], _ => rfl⟩
  have D__law_entries : Def P w K mg base 3 "_law_entries" f3 _ ["_law_pen_here", "_law_many"] S__law_entries := ⟨ok__law_entries F3 (PySem.W.mg_none_of KX G z_int) (PySem.W.mg_none_of KX G z_len) (PySem.W.mg_none_of KX G z_list) (PySem.W.mg_none_of KX G z_range) (PySem.W.mg_none_of KX G z_sorted) (PySem.W.mg_none_of KX G z_tuple) D__law_draw D__law_number, PySem.W.mg_of KX G a3, k3, F3.binds fun _ _ _ _ _ _ us hl => match us, hl with | [_, _], _ => rfl⟩
  have D__law_signs : Def P w K mg base 1 "_law_signs" f4 _ ["_law_entries_here"] S__law_signs := ⟨ok__law_signs F4, PySem.W.mg_of KX G a4, k4, F4.binds fun _ _ _ _ _ _ us hl => match us, hl with | [_], _ => rfl⟩
  have D__law_some : Def P w K mg base 2 "_law_some" f5 _ ["_law_pen_here", "_law_entries_here", "_law_size"] S__law_some := ⟨ok__law_some F5 (PySem.W.mg_none_of KX G z_len) (PySem.W.mg_none_of KX G z_range) D__law_signs D__law_draw, PySem.W.mg_of KX G a5, k5, F5.binds fun _ _ _ _ _ _ us hl => match us, hl with | [_, _, _], _ => rfl⟩
  have D__law_block : Def P w K mg base 4 "_law_block" f6 _ ["_law_pen_here", "_law_wide"] S__law_block := ⟨ok__law_block F6 D__law_entries D__law_some D__law_draw, PySem.W.mg_of KX G a6, k6, F6.binds fun _ _ _ _ _ _ us hl => match us, hl with | [_, _], _ => rfl⟩
  have L__law_heard : LDef P w K mg base 0 "_law_heard" "_law_ask" s__law_heard f7 _ ["_law_ask", "error"] H__law_heard := lok__law_heard F7 (PySem.W.mg_none_of KX G z_KeyError) (PySem.W.mg_none_of KX G z_LookupError) (PySem.W.mg_none_of KX G z_ValueError) (PySem.W.mg_none_of KX G z_int) (PySem.W.mg_none_of KX G z_isinstance) N_InvalidTable N_InvalidTimes N_UnknownOperator N_WearError s_InvalidTimes_UnknownOperator s_InvalidTimes_WearError s_UnknownOperator_UnknownOperator s_UnknownOperator_WearError kt_InvalidTimes_InvalidTable kt_InvalidTimes_InvalidTimes kt_InvalidTimes_KeyError kt_InvalidTimes_LookupError kt_InvalidTimes_UnknownOperator kt_InvalidTimes_ValueError kt_UnknownOperator_InvalidTable kt_UnknownOperator_InvalidTimes kt_UnknownOperator_KeyError kt_UnknownOperator_LookupError kt_UnknownOperator_UnknownOperator kt_UnknownOperator_ValueError kn_InvalidTimes kn_KeyError kn_UnknownOperator kn_ValueError nb_InvalidTimes_value nb_UnknownOperator_letter (PySem.W.mg_of KX G a7) k7 (F7.binds fun _ _ _ _ _ _ us hl => match us, hl with | [_], _ => rfl)
  have D__law_due : Def P w K mg base 1 "_law_due" f8 _ ["_law_entries_here", "_law_row", "_law_number_here"] S__law_due := ⟨ok__law_due F8 (PySem.W.mg_none_of KX G z_bool) (PySem.W.mg_none_of KX G z_int) (PySem.W.mg_none_of KX G z_isinstance), PySem.W.mg_of KX G a8, k8, F8.binds fun _ _ _ _ _ _ us hl => match us, hl with | [_, _, _], _ => rfl⟩
  have I_Place : IDef P w K mg base 1 "Place" C_Place f9 _ ["self", "mark", "first_use", "uses", "strength", "step"] S_Place____init__ := ⟨ok_Place____init__ F9 rC_Place cl_Place nf_Place_first_strength nf_Place_first_use nf_Place_loss nf_Place_mark nf_Place_uses, ⟨mk_Place, a9, i9, kc_Place⟩, PySem.W.mg_of KX G aK_Place, F9.binds fun _ _ _ _ _ _ us hl => match us, hl with | [_, _, _, _, _, _], _ => rfl⟩
  have D_places_of : Def P w K mg base 3 "places_of" f10 _ ["table", "block"] S_places_of := ⟨ok_places_of F10 (PySem.W.mg_none_of KX G z_enumerate) E_UnknownOperator rC_Place cl_Place I_Place, PySem.W.mg_of KX G a10, k10, F10.binds fun _ _ _ _ _ _ us hl => match us, hl with | [_, _], _ => rfl⟩
  have Q_Repeated__table__set : SDef P w K mg base 4 C_Repeated "table" p11 f11 _ "value" S_Repeated__table__set := ⟨ok_Repeated__table__set F11 rC_Repeated cl_Repeated nf_Repeated_origin nf_Repeated_pattern nf_Repeated_places D_places_of, g11, w11, ⟨_, _, r11⟩, F11.binds fun _ _ _ _ _ _ us hl => match us, hl with | [_, _], _ => rfl⟩
  have D_is_integer : Def P w K mg base 1 "is_integer" f12 _ ["value"] S_is_integer := ⟨ok_is_integer F12 (PySem.W.mg_none_of KX G z_bool) (PySem.W.mg_none_of KX G z_int) (PySem.W.mg_none_of KX G z_isinstance), PySem.W.mg_of KX G a12, k12, F12.binds fun _ _ _ _ _ _ us hl => match us, hl with | [_], _ => rfl⟩
  have D_is_between : Def P w K mg base 2 "is_between" f13 _ ["value", "least", "most"] S_is_between := ⟨ok_is_between F13 D_is_integer, PySem.W.mg_of KX G a13, k13, F13.binds fun _ _ _ _ _ _ us hl => match us, hl with | [_, _, _], _ => rfl⟩
  have Q_Repeated__times__set : SDef P w K mg base 3 C_Repeated "times" p14 f14 _ "value" S_Repeated__times__set := ⟨ok_Repeated__times__set F14 E_InvalidTimes rC_Repeated cl_Repeated nf_Repeated_repetitions cc_Repeated_MOST_TIMES D_is_between, g14, w14, ⟨_, _, r14⟩, F14.binds fun _ _ _ _ _ _ us hl => match us, hl with | [_, _], _ => rfl⟩
  have I_Repeated : IDef P w K mg base 7 "Repeated" C_Repeated f15 _ ["self", "table", "block", "times"] S_Repeated____init__ := ⟨ok_Repeated____init__ F15 rC_Repeated cl_Repeated nf_Repeated_pattern Q_Repeated__table__set Q_Repeated__times__set, ⟨mk_Repeated, a15, i15, kc_Repeated⟩, PySem.W.mg_of KX G aK_Repeated, F15.binds fun _ _ _ _ _ _ us hl => match us, hl with | [_, _, _, _], _ => rfl⟩
  have CM_Repeated__once : CDefM P w K mg base 9 "Repeated" C_Repeated "once" f16 _ ["cls", "table", "letters"] S_Repeated__once := ⟨ok_Repeated__once F16 rC_Repeated cl_Repeated I_Repeated, PySem.W.mg_of KX G aK_Repeated, ⟨_, _, ⟨r16, g16⟩, ⟨a16, ⟨_, w16⟩, i16⟩⟩, F16.binds fun _ _ _ _ _ _ us hl => match us, hl with | [_, _, _], _ => rfl⟩
  exact ok_law F17 (PySem.W.mg_none_of KX G z_len) (PySem.W.mg_none_of KX G z_range) (PySem.W.mg_none_of KX G z_repr) rC_Repeated cl_Repeated D__law_pen D__law_block D__law_draw L__law_heard D__law_due I_Repeated CM_Repeated__once ⟨c17x, P17x, y17, z17, tbs _ z17⟩
end
end Pk52
namespace Pk52
open PySem PySem.Spec PyProof.Rows L2 Pm
open Pg (sg rowD tabD abc_T tabD_plain tabD_frz dr divS ABC get_sg ix_nat cnt_T take_T tab_src Fi btwB between_ok)
open Sc (Rws RowT)
open Rp
theorem hS : Pm.Draws S__law_draw := drawsE ⟨8699, 577, 2147483587, 47711, 41, 2147483647, 23, 70001, 2147483563⟩ (by unfold DK.ok; decide)
theorem e_pen : S__law_pen = penS := rfl
theorem e_block : S__law_block = x_lblock S__law_draw := rfl
theorem e_init : S_Repeated____init__ = x_Repeated____init__ := rfl
noncomputable def c_oldue_1 : M EV := comp [5] (srcA (loc 0)) (gN 5) yesT (idx (aCons (loc 5) (aCons (con (.int 0)) aNil)))
noncomputable def c_oldue_2 : M EV := comp [4] (srcA (loc 1)) (gN 4) (tst (Pm.bin opNotIn (loc 4) c_oldue_1)) (loc 4)
theorem bq_ldue : b__law_due = (seq (asg c_oldue_2 (gN 3))
    (seq (Pm.ite (tst (Pm.bin opNe (loc 3) (disp true .lst aNil))) (rtn (disp false .tup (aCons (con (.str "letter")) (aCons (idx (aCons (loc 3) (aCons (con (.int 0)) aNil))) aNil)))) sNx)
    (seq (Pm.ite (orT (tst (app opIsi (aCons (loc 2) (aCons (con (.op (.ty "bool"))) aNil)))) (orT (notT (tst (app opIsi (aCons (loc 2) (aCons (con (.op (.ty "int"))) aNil))))) (notT (tst (chI cLt cLe (con (.int 0)) (loc 2) (Pm.bin (on2I iPow) (con (.int 10)) (con (.int 30)))))))) (rtn (disp false .tup (aCons (con (.str "times")) (aCons (loc 2) aNil)))) sNx)
    (rtn (con .non))))) := rfl
noncomputable def d_olaw_1 : M EV := (disp true .lst (aCons (con (.int 0)) (aCons (Pm.un opNeg (con (.int 1))) (aCons (con (.bl true)) (aCons (con (.bl false)) (aCons (con .non) (aCons (con (.str "")) (aCons (con (.str "1")) (aCons (disp false .tup (aCons (con (.int 1)) aNil)) (aCons (disp true .lst (aCons (con (.int 1)) aNil)) (aCons newD (aCons (Pm.bin hAdd (Pm.bin (on2I iPow) (con (.int 10)) (con (.int 30))) (con (.int 1))) (aCons (Pm.bin (on2I iPow) (con (.int 10)) (con (.int 59))) (aCons (con (.int 1)) (aCons (Pm.bin (on2I iPow) (con (.int 10)) (con (.int 30))) (aCons (con (.int 7)) (aCons (Pm.bin (on2I iPow) (con (.int 10)) (con (.int 12))) aNil)))))))))))))))))
noncomputable def b_olaw_1 : M Fl := (seq (asg (callF S__law_block (aCons (loc 1) (aCons (con (.int 40)) aNil))) (gT (gsC (gN 3) (gsC (gN 4) gs0)) 2))
    (seq (asg (callF S__law_draw (aCons (loc 1) (aCons (Pm.bin hAdd (app opLen (aCons (loc 4) aNil)) (con (.int 1))) aNil))) (gN 5))
    (seq (Pm.ite (tst (Pm.bin opEq (callF S__law_draw (aCons (loc 1) (aCons (con (.int 2)) aNil))) (con (.int 0)))) (asg (cut (Pm.bin hAdd (Pm.bin hAdd (cut (loc 4) none (some (loc 5))) (idx (aCons (disp true .lst (aCons (con (.str "q")) (aCons (con (.str "xq")) (aCons (con (.str "zqx")) aNil)))) (aCons (callF S__law_draw (aCons (loc 1) (aCons (con (.int 3)) aNil))) aNil)))) (cut (loc 4) (some (loc 5)) none)) none (some (con (.int 40)))) (gN 4)) sNx)
    (seq (asg d_olaw_1 (gN 6))
    (seq (asg (idx (aCons (loc 6) (aCons (callF S__law_draw (aCons (loc 1) (aCons (con (.int 16)) aNil))) aNil))) (gN 7))
    (seq (asg (app opReprC (aCons (disp false .tup (aCons (loc 3) (aCons (loc 4) (aCons (loc 7) aNil)))) aNil)) (gN 8))
    (seq (Pm.ite (tst (Pm.bin opNe (app opReprC (aCons (lamC H__law_heard (makeC "Repeated" S_Repeated____init__ (aCons (loc 3) (aCons (loc 4) (aCons (loc 7) aNil))))) aNil)) (app opReprC (aCons (callF S__law_due (aCons (loc 3) (aCons (loc 4) (aCons (loc 7) aNil)))) aNil)))) (rtn (con (.bl false))) sNx)
    (seq (Pm.ite (tst (Pm.bin opNe (app opReprC (aCons (lamC H__law_heard (callF T_Repeated__once (aCons (loc 3) (aCons (loc 4) aNil)))) aNil)) (app opReprC (aCons (callF S__law_due (aCons (loc 3) (aCons (loc 4) (aCons (con (.int 1)) aNil)))) aNil)))) (rtn (con (.bl false))) sNx)
    (Pm.ite (tst (Pm.bin opNe (app opReprC (aCons (disp false .tup (aCons (loc 3) (aCons (loc 4) (aCons (loc 7) aNil)))) aNil)) (loc 8))) (rtn (con (.bl false))) sNx)))))))))
theorem bq_law : b_law = (seq (asg (callF S__law_pen (aCons (loc 0) aNil)) (gN 1))
    (seq (forS (srcR1 (aCons (con (.int 6)) aNil)) (gN 2) b_olaw_1)
    (rtn (con (.bl true))))) := rfl
abbrev unkX (c : Nat) : XD := ⟨"UnknownOperator", [("letter", sg c)]⟩
abbrev badX (v : D) : XD := ⟨"InvalidTimes", [("value", v)]⟩
theorem notin_row {t : List RowT} {c : Nat} (h : c ∉ lets t) : opDIn true [sg c, .node true (.dct (keysT t)) (valsT t)] = some (.bl true) := by
  have hl : (keysT t).length = (valsT t).length := by simp [keysT, valsT]
  have ha : ((keysT t).any fun k' => decide (k' = keyR c)) = false := by
    rw [List.any_eq_false]
    intro k hk
    obtain ⟨r, hr, rfl⟩ := List.mem_map.mp hk
    rw [decide_eq_true_eq]
    intro e
    exact h (List.mem_map.mpr ⟨r, hr, keyR_inj e⟩)
  show (if (keysT t).length = (valsT t).length then some (D.bl (if true = true then !((keysT t).any fun k' => decide (k' = keyR c)) else _)) else none) = _
  rw [if_pos hl, ha]
  rfl
theorem places_bad {t : List RowT} {l l1 l2 : List Nat} {c : Nat} (ht : Rws t) (hl : l.length ≤ 1000) (e : l = l1 ++ c :: l2) (h1 : ∀ x ∈ l1, x ∈ lets t) (hc : c ∉ lets t) : x_places_of [tabD t, .str (T l)] = .exc (unkX c) [tabD t, .str (T l)] := by
  have tp := tabD_plain t
  have hz : Wz x_places_of [tabD t, .str (T l)] (fun _ _ => False) fun x as => x = unkX c ∧ as = [tabD t, .str (T l)] := by
    have e1 := dict_ok ht (x1 := some (.str (T l)))
    unfold x_places_of
    refine wz_mkF ?_
    unfold Rp.b_places_of
    show We _ [some (tabD t), some (.str (T l)), none, none, none, none, none, none] _ _
    refine we_ok (asg_val e1 (by show 2 < 8; decide)) ?_
    show We _ [some (tabD t), some (.str (T l)), some (.node true (.dct (keysT t)) (valsT t)), none, none, none, none, none] _ _
    refine we_ok (ρ1 := [some (tabD t), some (.str (T l)), some (.node true (.dct (keysT t)) (valsT t)), some (.node true .lst []), none, none, none, none]) rfl ?_
    refine we_seq ?_
    have hs : srcEnumS (loc 1) [some (tabD t), some (.str (T l)), some (.node true (.dct (keysT t)) (valsT t)), some (.node true .lst []), none, none, none, none] = .ok (l.zipIdx.map fun p => D.tup [.int (p.2 : Int), sg p.1]) [some (tabD t), some (.str (T l)), some (.node true (.dct (keysT t)) (valsT t)), some (.node true .lst []), none, none, none, none] := by
      rw [← Pg.enumS_T]
      rfl
    refine we_for hs (fun j ρ => j ≤ l1.length ∧ ∃ (acc : List D) (x4 x5 x6 x7 : Option D), acc.length = j ∧ ρ = [some (tabD t), some (.str (T l)), some (.node true (.dct (keysT t)) (valsT t)), some (.node true .lst acc), x4, x5, x6, x7]) ⟨Nat.zero_le _, [], none, none, none, none, rfl, rfl⟩ ?_ ?_
    · rintro j d ρ hd ⟨hj1, acc, x4, x5, x6, x7, ha, rfl⟩
      have hj : j < l.length := by
        have := (List.getElem?_eq_some_iff.mp hd).1
        simpa using this
      have hd' : d = D.tup [.int (j : Int), sg l[j]] := by
        rw [List.getElem?_map, List.getElem?_zipIdx, List.getElem?_eq_getElem hj] at hd
        simpa using hd.symm
      subst hd'
      refine ⟨[some (tabD t), some (.str (T l)), some (.node true (.dct (keysT t)) (valsT t)), some (.node true .lst acc), some (.int (j : Int)), some (sg l[j]), x6, x7], rfl, ?_⟩
      have hll : l1.length < l.length := by rw [e]; simp
      by_cases h : j < l1.length
      · have hx : l[j] = l1[j] := by
          have q : l[j]? = (l1 ++ c :: l2)[j]? := by rw [e]
          rw [List.getElem?_append_left h, List.getElem?_eq_getElem hj, List.getElem?_eq_getElem h] at q
          exact Option.some.inj q
        have hin : l[j] ∈ lets t := by rw [hx]; exact h1 _ (List.getElem_mem h)
        refine We.w ((place_step ht hl hin (by omega)).mono ?_)
        rintro f ρ' ⟨rfl, rfl⟩
        exact ⟨by omega, _, _, _, _, _, by rw [List.length_append, ha]; rfl, rfl⟩
      · have hjl : j = l1.length := by omega
        have hx : l[j] = c := by
          have q : l[j]? = (l1 ++ c :: l2)[j]? := by rw [e]
          rw [hjl, List.getElem?_append_right (Nat.le_refl _), Nat.sub_self] at q
          rw [← hjl, List.getElem?_eq_getElem hj] at q
          simpa using q
        rw [hx]
        have n1 := notin_row hc
        refine We.x (x := unkX c) (ρ' := [some (tabD t), some (.str (T l)), some (.node true (.dct (keysT t)) (valsT t)), some (.node true .lst acc), some (.int (j : Int)), some (sg c), x6, x7]) ?_ ⟨[tabD t, .str (T l)], ?_, rfl, rfl⟩
        · unfold Rp.b_places_of_1
          generalize opDIn true = DI at *
          generalize tabD t = TD at *
          have sp : (sg c).plain = true := rfl
          show Pm.seq _ _ [some TD, some (.str (T l)), some (.node true (.dct (keysT t)) (valsT t)), some (.node true .lst acc), some (.int (j : Int)), some (sg c), x6, x7] = .exc ⟨"UnknownOperator", [("letter", sg c)]⟩ _
          generalize sg c = SG at *
          simp [mkF, reFrz, seq, Pm.ite, rtn, mov, asg, drp, sNx, bnd, Pm.bin, Pm.un, app, aCons, aNil, idx, loc, con, Pm.ret, peek1, peeks, itemOf, on2I, iAdd, iSub, iGt, iGe, iLt, iLe, iDiv, iMod, use1, useL, gI, gN, tst, andT, orT, notT, andE, orE, notE, ifE, ixN, D.frz, D.plain, plainL, argsBack, opLen, opAbs, opInt1, opNeg, disp, cap, callF, takes, puts, selA, sel, aApp, par, gT, gsC, gs0, appF, opDivmod, frzL, plainL, raise1, n1, sp]
        · simp [argsBack, reFrz, tp, D.plain]
    · rintro ρ ⟨hj1, _⟩
      exfalso
      rw [List.length_map, List.length_zipIdx, e, List.length_append, List.length_cons] at hj1
      omega
  rcases hz with ⟨_, _, _, h⟩ | ⟨x, as, ex, rfl, rfl⟩
  · exact h.elim
  · exact ex
theorem setP_exc {j : Nat} {n f : Str} {g : FSem} {fe : M EV} {ρ ρ' : Pm.Env} {i : Nat} {d d' : D} {x : XD} {fs : List Str} {xs : List D} (hf : fe ρ = .ok (.ref i) ρ) (h : ρ.getD j none = some (.node true (.ins n fs) xs)) (nf : f ∉ fs) (hj : j ≠ i) (hi : ρ.getD i none = some d) (hd : d.plain = true) (hg : g [.node true (.ins n fs) xs, d] = .exc x [d', d]) (he : ρ' = ρ.set j (some d')) :
    setP j n f g fe ρ = .exc x ρ' := by
  have hi2 : (ρ.set j none).getD i none = some d := by
    rw [List.getD_eq_getElem?_getD, List.getElem?_set_ne hj, ← List.getD_eq_getElem?_getD]
    exact hi
  have hA : setPA j n f fe ρ = .ok [.ref j, .ref i] ρ := by
    unfold setPA
    simp only [hf, h]
    rw [if_pos ⟨trivial, nf⟩]
  have np : (D.node true (.ins n fs) xs).plain = false := by simp [D.plain]
  unfold setP
  simp only [drp, callF, bnd, hA, takes, h, np, hi2, hd, hg, puts, if_true, Bool.false_eq_true, if_false]
  rw [he, List.set_set]
theorem tset_bad {t : List RowT} {l l1 l2 : List Nat} {c : Nat} (ht : Rws t) (hl : l.length ≤ 1000) (e : l = l1 ++ c :: l2) (h1 : ∀ x ∈ l1, x ∈ lets t) (hc : c ∉ lets t) : x_Repeated__table__set [rep1 l, tabD t] = .exc (unkX c) [rep1 l, tabD t] := by
  have tp := tabD_plain t
  have e1 := places_bad ht hl e h1 hc
  have f1 : fldE "Repeated" "pattern" (loc 0) [some (rep1 l), some (tabD t)] = .ok (.val (.str (T l))) [some (rep1 l), some (tabD t)] := fld_of (o := true) (fs := ["pattern"]) (xs := [.str (T l)]) rfl rfl rfl
  have h1 : frzE (callF x_places_of (aCons (loc 1) (aCons (fldE "Repeated" "pattern" (loc 0)) aNil))) [some (rep1 l), some (tabD t)] = .exc (unkX c) [some (rep1 l), some (tabD t)] := by
    generalize rep1 l = R at *
    generalize tabD t = TD at *
    generalize unkX c = UX at *
    generalize x_places_of = XP at *
    generalize fldE "Repeated" "pattern" (loc 0) = F1 at *
    simp [frzE, mkF, reFrz, seq, Pm.ite, rtn, mov, asg, drp, sNx, bnd, Pm.bin, Pm.un, app, aCons, aNil, idx, loc, con, Pm.ret, peek1, peeks, itemOf, on2I, iAdd, iSub, iGt, iGe, iLt, iLe, iDiv, iMod, use1, useL, gI, gN, tst, andT, orT, notT, andE, orE, notE, ifE, ixN, D.frz, D.plain, plainL, argsBack, opLen, opAbs, opInt1, opNeg, disp, cap, callF, takes, puts, selA, sel, aApp, par, gT, gsC, gs0, appF, opDivmod, frzL, plainL, f1, e1, tp]
  have hz : Wz x_Repeated__table__set [rep1 l, tabD t] (fun _ _ => False) fun x as => x = unkX c ∧ as = [rep1 l, tabD t] := by
    unfold x_Repeated__table__set
    refine wz_mkF ?_
    unfold Rp.b_Repeated__table__set
    show We _ [some (rep1 l), some (tabD t)] _ _
    refine we_exc (x := unkX c) (ρ1 := [some (rep1 l), some (tabD t)]) ?_ ⟨[rep1 l, tabD t], ?_, rfl, rfl⟩
    · simp only [setA, bnd, h1]
    · simp [argsBack, reFrz, tp]
  rcases hz with ⟨_, _, _, h⟩ | ⟨x, as, ex, rfl, rfl⟩
  · exact h.elim
  · exact ex
theorem times_bad {t : List RowT} {l : List Nat} {B : Nat} {v : D} (pv : v.plain = true) (fv : Fi B v) (hb : btwB 1 1000000000000000000000000000000 v = false) : x_Repeated__times__set [rep3 t l, v] = .exc (badX v) [rep3 t l, v] := by
  have e1 := between_ok 1 1000000000000000000000000000000 pv fv
  rw [hb] at e1
  have f1 : chk "Repeated" "MOST_TIMES" (loc 0) [some (rep3 t l), some v] = .ok (.ref 0) [some (rep3 t l), some v] := chk_of (o := true) (fs := ["pattern", "places", "origin"]) (xs := [.str (T l), .node false .lst (placesD false t l), tabD t]) rfl (by decide +kernel)
  have pl : (rep3 t l).plain = false := rfl
  have hz : Wz x_Repeated__times__set [rep3 t l, v] (fun _ _ => False) fun x as => x = badX v ∧ as = [rep3 t l, v] := by
    unfold x_Repeated__times__set
    refine wz_mkF ?_
    unfold Rp.b_Repeated__times__set
    show We _ [some (rep3 t l), some v] _ _
    refine we_exc (x := badX v) (ρ1 := [some (rep3 t l), some v]) ?_ ⟨[rep3 t l, v], ?_, rfl, rfl⟩
    · generalize rep3 t l = R at *
      generalize chk "Repeated" "MOST_TIMES" (loc 0) = F1 at *
      generalize Pg.x_is_between = XB at *
      generalize (1000000000000000000000000000000 : Int) = MM at *
      simp [raise1, conS, mkF, reFrz, seq, Pm.ite, rtn, mov, asg, drp, sNx, bnd, Pm.bin, Pm.un, app, aCons, aNil, idx, loc, con, Pm.ret, peek1, peeks, itemOf, on2I, iAdd, iSub, iGt, iGe, iLt, iLe, iDiv, iMod, use1, useL, gI, gN, tst, andT, orT, notT, andE, orE, notE, ifE, ixN, D.frz, D.plain, plainL, argsBack, opLen, opAbs, opInt1, opNeg, disp, cap, callF, takes, puts, selA, sel, aApp, par, gT, gsC, gs0, appF, opDivmod, frzL, plainL, f1, e1, pl, pv]
    · simp [argsBack, reFrz, pl, pv]
  rcases hz with ⟨_, _, _, h⟩ | ⟨x, as, ex, rfl, rfl⟩
  · exact h.elim
  · exact ex
theorem init_bad1 {t : List RowT} {l l1 l2 : List Nat} {c : Nat} {v : D} (ht : Rws t) (hl : l.length ≤ 1000) (e : l = l1 ++ c :: l2) (h1 : ∀ x ∈ l1, x ∈ lets t) (hc : c ∉ lets t) (pv : v.plain = true) :
    x_Repeated____init__ [.node true (.ins "Repeated" []) [], tabD t, .str (T l), v] = .exc (unkX c) [rep1 l, tabD t, .str (T l), v] := by
  have tp := tabD_plain t
  have hz : Wz x_Repeated____init__ [.node true (.ins "Repeated" []) [], tabD t, .str (T l), v] (fun _ _ => False) fun x as => x = unkX c ∧ as = [rep1 l, tabD t, .str (T l), v] := by
    unfold x_Repeated____init__
    refine wz_mkF ?_
    unfold Rp.b_Repeated____init__
    show We _ [some (.node true (.ins "Repeated" []) []), some (tabD t), some (.str (T l)), some v] _ _
    refine we_ok (setA_new (fs := []) (xs := []) (fe := loc 2) (ev := .ref 2) (d := .str (T l)) rfl rfl rfl (by decide) rfl (by decide)) ?_
    refine we_exc (x := unkX c) (ρ1 := [some (rep1 l), some (tabD t), some (.str (T l)), some v]) (setP_exc (d := tabD t) (d' := rep1 l) (fs := ["pattern"]) (xs := [.str (T l)]) (ρ := [some (rep1 l), some (tabD t), some (.str (T l)), some v]) rfl rfl (by decide +kernel) (by decide) rfl tp (tset_bad ht hl e h1 hc) rfl) ⟨[rep1 l, tabD t, .str (T l), v], ?_, rfl, rfl⟩
    simp [argsBack, reFrz, tp, D.plain, pv]
  rcases hz with ⟨_, _, _, h⟩ | ⟨x, as, ex, rfl, rfl⟩
  · exact h.elim
  · exact ex
theorem init_bad2 {t : List RowT} {l : List Nat} {B : Nat} {v : D} (ht : Rws t) (hl : l.length ≤ 1000) (hin : ∀ c ∈ l, c ∈ lets t) (pv : v.plain = true) (fv : Fi B v) (hb : btwB 1 1000000000000000000000000000000 v = false) :
    x_Repeated____init__ [.node true (.ins "Repeated" []) [], tabD t, .str (T l), v] = .exc (badX v) [rep3 t l, tabD t, .str (T l), v] := by
  have tp := tabD_plain t
  have hz : Wz x_Repeated____init__ [.node true (.ins "Repeated" []) [], tabD t, .str (T l), v] (fun _ _ => False) fun x as => x = badX v ∧ as = [rep3 t l, tabD t, .str (T l), v] := by
    unfold x_Repeated____init__
    refine wz_mkF ?_
    unfold Rp.b_Repeated____init__
    show We _ [some (.node true (.ins "Repeated" []) []), some (tabD t), some (.str (T l)), some v] _ _
    refine we_ok (setA_new (fs := []) (xs := []) (fe := loc 2) (ev := .ref 2) (d := .str (T l)) rfl rfl rfl (by decide) rfl (by decide)) ?_
    refine we_ok (setP_ok (d := tabD t) (d' := rep3 t l) (fs := ["pattern"]) (xs := [.str (T l)]) (ρ := [some (rep1 l), some (tabD t), some (.str (T l)), some v]) (ρ' := [some (rep3 t l), some (tabD t), some (.str (T l)), some v]) rfl rfl (by decide +kernel) (by decide) rfl tp (tset_ok ht hl hin) rfl) ?_
    refine We.x (x := badX v) (ρ' := [some (rep3 t l), some (tabD t), some (.str (T l)), some v]) (setP_exc (d := v) (d' := rep3 t l) (fs := ["pattern", "places", "origin"]) (xs := [.str (T l), .node false .lst (placesD false t l), tabD t]) (ρ := [some (rep3 t l), some (tabD t), some (.str (T l)), some v]) rfl rfl (by decide +kernel) (by decide) rfl pv (times_bad pv fv hb) rfl) ⟨[rep3 t l, tabD t, .str (T l), v], ?_, rfl, rfl⟩
    simp [argsBack, reFrz, tp, D.plain, pv, rep3]
  rcases hz with ⟨_, _, _, h⟩ | ⟨x, as, ex, rfl, rfl⟩
  · exact h.elim
  · exact ex
end Pk52
namespace Pk52
open PySem PySem.Spec PyProof.Rows L2 Pm
open Pg (sg rowD tabD abc_T tabD_plain tabD_frz dr divS ABC get_sg ix_nat cnt_T take_T tab_src Fi btwB between_ok)
open Sc (Rws RowT)
open Rp
theorem h_ok (d : D) : H__law_heard (.val d) = some .non := rfl
theorem h_unk (c : Nat) : H__law_heard (.exc (unkX c)) = some (.node false .tup [.str "letter", sg c]) := by
  have hq : q__law_heard [none, some (excD (unkX c))] = .ok (.rt (.node false .tup [.str "letter", sg c])) [none, some (excD (unkX c))] := by
    have x1 : xis (lkT [("InvalidTimes", false), ("UnknownOperator", true)]) (loc 1) [none, some (excD (unkX c))] = .ok (.val (.bl true)) [none, some (excD (unkX c))] := rfl
    have x2 : xis (lkT [("InvalidTimes", true), ("UnknownOperator", false)]) (loc 1) [none, some (excD (unkX c))] = .ok (.val (.bl false)) [none, some (excD (unkX c))] := rfl
    have x3 : xget ["UnknownOperator"] "letter" (loc 1) [none, some (excD (unkX c))] = .ok (.val (sg c)) [none, some (excD (unkX c))] := rfl
    have o1 : opInt [.bl true] = some (.int 1) := rfl
    have sp : (sg c).plain = true := rfl
    have sf : (sg c).frz = sg c := rfl
    have i1 : atI [D.str ("odd" : String), .node false .tup [.str ("letter" : String), sg c]] 1 = some (.node false .tup [.str ("letter" : String), sg c]) := rfl
    unfold q__law_heard
    generalize excD (unkX c) = EX at *
    generalize xis (lkT [("InvalidTimes", false), ("UnknownOperator", true)]) (loc 1) = XI at *
    generalize xis (lkT [("InvalidTimes", true), ("UnknownOperator", false)]) (loc 1) = XJ at *
    generalize xget ["UnknownOperator"] "letter" (loc 1) = XG at *
    generalize opInt = OI at *
    generalize sg c = SG at *
    simp [mkF, reFrz, seq, Pm.ite, rtn, mov, asg, drp, sNx, bnd, Pm.bin, Pm.un, app, aCons, aNil, idx, loc, con, Pm.ret, peek1, peeks, itemOf, on2I, iAdd, iSub, iGt, iGe, iLt, iLe, iDiv, iMod, use1, useL, gI, gN, tst, andT, orT, notT, andE, orE, notE, ifE, ixN, D.frz, D.plain, plainL, argsBack, opLen, opAbs, opInt1, opNeg, disp, cap, callF, takes, puts, selA, sel, aApp, par, gT, gsC, gs0, appF, opDivmod, frzL, plainL, x1, x2, x3, o1, i1, sp, sf]
  have l1 : lkT [("InvalidTimes", true), ("UnknownOperator", true)] (unkX c).cls = some true := rfl
  show excH 2 1 (lkT [("InvalidTimes", true), ("UnknownOperator", true)]) q__law_heard r__law_heard (unkX c) = _
  unfold excH
  rw [l1]
  show (match q__law_heard [none, some (excD (unkX c))] with
    | .ok .nx ρ2 => endH r__law_heard (ρ2.set 1 none)
    | .ok (.rt d) _ => some d
    | _ => none) = _
  rw [hq]
theorem h_bad {v : D} (pv : v.plain = true) : H__law_heard (.exc (badX v)) = some (.node false .tup [.str "times", v]) := by
  have fv := D.frz_of_plain _ pv
  have hq : q__law_heard [none, some (excD (badX v))] = .ok (.rt (.node false .tup [.str "times", v])) [none, some (excD (badX v))] := by
    have x1 : xis (lkT [("InvalidTimes", false), ("UnknownOperator", true)]) (loc 1) [none, some (excD (badX v))] = .ok (.val (.bl false)) [none, some (excD (badX v))] := rfl
    have x2 : xis (lkT [("InvalidTimes", true), ("UnknownOperator", false)]) (loc 1) [none, some (excD (badX v))] = .ok (.val (.bl true)) [none, some (excD (badX v))] := rfl
    have x4 : xit (lkT [("InvalidTimes", false), ("UnknownOperator", true)]) (loc 1) [none, some (excD (badX v))] = .ok (.val (.bl false)) [none, some (excD (badX v))] := rfl
    have x3 : xget ["InvalidTimes"] "value" (loc 1) [none, some (excD (badX v))] = .ok (.val v) [none, some (excD (badX v))] := by
      show (if v.plain = true then Res.ok (EV.val v) [none, some (excD (badX v))] else .stuck) = _
      rw [if_pos pv]
    have o1 : opInt [.bl true] = some (.int 1) := rfl
    have i1 : atI [D.str ("odd" : String), .node false .tup [.str ("times" : String), v]] 1 = some (.node false .tup [.str ("times" : String), v]) := rfl
    unfold q__law_heard
    generalize excD (badX v) = EX at *
    generalize xis (lkT [("InvalidTimes", false), ("UnknownOperator", true)]) (loc 1) = XI at *
    generalize xis (lkT [("InvalidTimes", true), ("UnknownOperator", false)]) (loc 1) = XJ at *
    generalize xit (lkT [("InvalidTimes", false), ("UnknownOperator", true)]) (loc 1) = XK at *
    generalize xget ["InvalidTimes"] "value" (loc 1) = XG at *
    generalize opInt = OI at *
    simp [mkF, reFrz, seq, Pm.ite, rtn, mov, asg, drp, sNx, bnd, Pm.bin, Pm.un, app, aCons, aNil, idx, loc, con, Pm.ret, peek1, peeks, itemOf, on2I, iAdd, iSub, iGt, iGe, iLt, iLe, iDiv, iMod, use1, useL, gI, gN, tst, andT, orT, notT, andE, orE, notE, ifE, ixN, D.frz, D.plain, plainL, argsBack, opLen, opAbs, opInt1, opNeg, disp, cap, callF, takes, puts, selA, sel, aApp, par, gT, gsC, gs0, appF, opDivmod, frzL, plainL, x1, x2, x3, x4, o1, i1, pv, fv]
  have l1 : lkT [("InvalidTimes", true), ("UnknownOperator", true)] (badX v).cls = some true := rfl
  show excH 2 1 (lkT [("InvalidTimes", true), ("UnknownOperator", true)]) q__law_heard r__law_heard (badX v) = _
  unfold excH
  rw [l1]
  show (match q__law_heard [none, some (excD (badX v))] with
    | .ok .nx ρ2 => endH r__law_heard (ρ2.set 1 none)
    | .ok (.rt d) _ => some d
    | _ => none) = _
  rw [hq]
/-- what the constructor comes to, heard -/
def dueD (t : List RowT) (l : List Nat) (v : D) : D := match l.find? fun c => decide (c ∉ lets t) with
  | some c => .node false .tup [.str "letter", sg c]
  | none => if btwB 1 1000000000000000000000000000000 v = true then .non else .node false .tup [.str "times", v]
theorem find_split {l : List Nat} {p : Nat → Bool} {c : Nat} (h : l.find? p = some c) : ∃ l1 l2, l = l1 ++ c :: l2 ∧ (∀ x ∈ l1, p x = false) ∧ p c = true := by
  induction l with
  | nil => cases h
  | cons x l ih =>
    rw [List.find?_cons] at h
    cases e : p x with
    | true =>
      rw [e] at h
      cases h
      exact ⟨[], l, rfl, fun x hx => (by cases hx), e⟩
    | false =>
      rw [e] at h
      obtain ⟨l1, l2, e1, e2, e3⟩ := ih h
      exact ⟨x :: l1, l2, by rw [e1]; rfl, fun y hy => by
        rcases List.mem_cons.mp hy with rfl | hy
        · exact e
        · exact e2 y hy, e3⟩
/-- a constructor's call, heard -/
theorem made_heard {t : List RowT} {l : List Nat} {B : Nat} {v : D} {fs : M (List EV)} {es : List EV} {ρ : Pm.Env} (ht : Rws t) (hl : l.length ≤ 1000) (pv : v.plain = true) (fv : Fi B v) (hfs : fs ρ = .ok es ρ) (htk : takes ρ es = some ([tabD t, .str (T l), v], ρ)) (hpt : ∀ a b c, puts es [tabD t, .str (T l), v] [a, b, c] ρ = ρ) :
    lamC H__law_heard (makeC "Repeated" S_Repeated____init__ fs) ρ = .ok (.val (dueD t l v)) ρ := by
  rw [e_init]
  unfold dueD
  cases hf : l.find? fun c => decide (c ∉ lets t) with
  | some c =>
    obtain ⟨l1, l2, e, h1, h2⟩ := find_split hf
    have ib := init_bad1 (v := v) ht hl e (fun x hx => by have := h1 x hx; simpa using this) (by simpa using h2) pv
    have hh := h_unk c
    simp only [lamC, bnd, makeC, hfs, htk, ib, hpt, hh]
  | none =>
    have hin : ∀ c ∈ l, c ∈ lets t := fun c hc => by
      have := List.find?_eq_none.mp hf c hc
      simpa using this
    cases hb : btwB 1 1000000000000000000000000000000 v with
    | false =>
      have ib := init_bad2 ht hl hin pv fv hb
      have hh := h_bad pv
      simp only [lamC, bnd, makeC, hfs, htk, ib, hpt, hh]
      rfl
    | true =>
      obtain ⟨n, rfl, n0, n1⟩ : ∃ n : Nat, v = .int (n : Int) ∧ 1 ≤ n ∧ n ≤ 10 ^ 30 := by
        cases v with
        | int i =>
          have hb : (decide ((1 : Int) ≤ i) && decide (i ≤ 1000000000000000000000000000000)) = true := hb
          rw [Bool.and_eq_true, decide_eq_true_eq, decide_eq_true_eq] at hb
          have h10 : (10 : Nat) ^ 30 = 1000000000000000000000000000000 := by decide
          exact ⟨i.toNat, by rw [Int.toNat_of_nonneg (by omega)], by omega, by omega⟩
        | _ => cases hb
      have io := init_ok ht hl hin n0 n1
      have hh := h_ok (repD true t l n)
      simp only [lamC, bnd, makeC, hfs, htk, io, hpt, use1, hh]
      rfl
theorem once_is {t : List RowT} {l : List Nat} (ht : Rws t) (hl : l.length ≤ 1000) {fs : M (List EV)} {es : List EV} {ρ : Pm.Env} (hfs : fs ρ = .ok es ρ) (htk : takes ρ es = some ([tabD t, .str (T l)], ρ)) (hpt : ∀ a b, puts es [tabD t, .str (T l)] [a, b] ρ = ρ) :
    lamC H__law_heard (callF T_Repeated__once fs) ρ = .ok (.val (dueD t l (.int 1))) ρ := by
  have tp := tabD_plain t
  unfold dueD
  have T_is : T_Repeated__once = mkF 2 2 [] (rtn (makeC "Repeated" S_Repeated____init__ (aCons (loc 0) (aCons (loc 1) (aCons (con (.int 1)) aNil))))) := rfl
  have a1 : (aCons (loc 0) (aCons (loc 1) (aCons (con (.int 1)) aNil))) [some (tabD t), some (.str (T l))] = .ok [.ref 0, .ref 1, .val (.int 1)] [some (tabD t), some (.str (T l))] := rfl
  have a2 : takes [some (tabD t), some (.str (T l))] [.ref 0, .ref 1, .val (.int 1)] = some ([tabD t, .str (T l), .int 1], [some (tabD t), some (.str (T l))]) := by
    simp [takes, tp, D.plain]
  have a3 : ∀ a b c, puts [.ref 0, .ref 1, .val (.int 1)] [tabD t, .str (T l), .int 1] [a, b, c] [some (tabD t), some (.str (T l))] = [some (tabD t), some (.str (T l))] := fun a b c => by
    simp [puts, tp, D.plain]
  have fv : Fi 10 (.int 1) := ⟨by decide, by decide⟩
  have key : ∀ r : FR, (∃ d, r = .ret d [tabD t, .str (T l)] ∧ H__law_heard (.val d) = some .non) ∨ (∃ x d, r = .exc x [tabD t, .str (T l)] ∧ H__law_heard (.exc x) = some d) → True := fun _ _ => trivial
  cases hf : l.find? fun c => decide (c ∉ lets t) with
  | some c =>
    obtain ⟨l1, l2, e, h1, h2⟩ := find_split hf
    have ib := init_bad1 (v := .int 1) ht hl e (fun x hx => by have := h1 x hx; simpa using this) (by simpa using h2) rfl
    rw [← e_init] at ib
    have hh := h_unk c
    have hT : T_Repeated__once [tabD t, .str (T l)] = .exc (unkX c) [tabD t, .str (T l)] := by
      rw [T_is]
      generalize S_Repeated____init__ = SI at *
      generalize unkX c = UX at *
      generalize tabD t = TD at *
      generalize T l = TL at *
      simp [mkF, reFrz, rtn, bnd, makeC, a1, a2, ib, a3, argsBack, tp, D.plain]
    simp only [lamC, bnd, callF, hfs, htk, hT, hpt, hh]
  | none =>
    have hin : ∀ c ∈ l, c ∈ lets t := fun c hc => by
      have := List.find?_eq_none.mp hf c hc
      simpa using this
    have hb : btwB 1 1000000000000000000000000000000 (.int 1) = true := rfl
    have io := init_ok (n := 1) ht hl hin (by decide) (by decide)
    rw [← e_init] at io
    have hh := h_ok (repD true t l 1)
    have io : S_Repeated____init__ [.node true (.ins "Repeated" []) [], tabD t, .str (T l), .int 1] = .ret .non [repD true t l 1, tabD t, .str (T l), .int 1] := io
    have hT : T_Repeated__once [tabD t, .str (T l)] = .ret (repD true t l 1) [tabD t, .str (T l)] := by
      rw [T_is]
      generalize S_Repeated____init__ = SI at *
      generalize repD true t l 1 = RD at *
      generalize tabD t = TD at *
      generalize T l = TL at *
      simp [mkF, reFrz, rtn, bnd, makeC, a1, a2, io, a3, argsBack, tp, D.plain, use1, Pm.ret]
    simp only [lamC, bnd, callF, hfs, htk, hT, hpt, use1, hh]
    rfl
end Pk52
namespace Pk52
open PySem PySem.Spec PyProof.Rows L2 Pm
open Pg (sg rowD tabD abc_T tabD_plain tabD_frz dr divS ABC get_sg ix_nat cnt_T take_T tab_src Fi btwB between_ok)
open Sc (Rws RowT)
open Rp
theorem ixn {n k : Nat} (h : k < n) : ixN n (k : Int) = some k := by
  unfold ixN
  rw [if_pos (by omega), if_pos (by omega), Int.toNat_natCast]
theorem item_at {ρ : Pm.Env} {b : Bool} {kd : Kd} {xs : List D} {d : D} {i k : Nat} (h : ρ.getD i none = some (.node b kd xs)) (hk : xs[k]? = some d) (hp : d.plain = true) (hkd : kd = .lst ∨ kd = .tup) : itemOf (.ref i) (k : Int) ρ = .ok (.val d) ρ := by
  have hl := (List.getElem?_eq_some_iff.mp hk).1
  have e := ixn hl
  unfold itemOf
  rcases hkd with rfl | rfl <;> simp only [h, e, hk, hp, if_true]
theorem lets_comp {t : List RowT} {x1 x2 x3 x4 : Option D} (hl : t.length ≤ 1000) : c_oldue_1 [some (tabD t), x1, x2, x3, x4, none] = .ok (.val (.lst true ((lets t).map sg))) [some (tabD t), x1, x2, x3, x4, none] := by
  unfold c_oldue_1
  have h := comp_map (own := [5]) (g := gN 5) (c := yesT) (e := idx (aCons (loc 5) (aCons (con (.int 0)) aNil))) (ρ := [some (tabD t), x1, x2, x3, x4, none]) (fun d => match d with | .node _ _ (x :: _) => x | d => d) (tab_src (i := 0) rfl rfl) rfl rfl (by rw [List.length_map]; show _ ≤ 1000000; omega) fun d hd => ?_
  · rw [h, List.map_map]
    unfold lets
    rw [List.map_map]
    rfl
  · obtain ⟨r, hr, rfl⟩ := List.mem_map.mp hd
    refine ⟨[some (tabD t), x1, x2, x3, x4, some (rowD r)], rfl, Wp.of (a := true) rfl ⟨rfl, Wp.of (a := .val (sg r.1)) (ρ' := [some (tabD t), x1, x2, x3, x4, some (rowD r)]) ?_ ⟨_, rfl, rfl⟩⟩⟩
    generalize tabD t = TD at *
    simp [mkF, reFrz, seq, Pm.ite, rtn, mov, asg, drp, sNx, bnd, Pm.bin, Pm.un, app, aCons, aNil, idx, loc, con, Pm.ret, peek1, peeks, itemOf, on2I, iAdd, iSub, iGt, iGe, iLt, iLe, iDiv, iMod, use1, useL, gI, gN, tst, andT, orT, notT, andE, orE, notE, ifE, ixN, D.frz, D.plain, plainL, argsBack, opLen, opAbs, opInt1, opNeg, disp, cap, callF, takes, puts, selA, sel, aApp, par, gT, gsC, gs0, appF, opDivmod, frzL, plainL, rowD]
theorem notin_let (o : Bool) (c : Nat) (ms : List Nat) : opNotIn [sg c, .node o .lst (ms.map sg)] = some (.bl (decide (c ∉ ms))) := by
  have h1 : ∀ l : List Nat, fltL (l.map sg) = some (l.map fun c => V.str (T [c])) := fun l => by
    induction l with
    | nil => rfl
    | cons c l ih => rw [List.map_cons, fltL, ih]; rfl
  show opInQ true [sg c, .node o .lst (ms.map sg)] = _
  unfold opInQ
  have h2 : flt (sg c) = some (V.str (T [c])) := rfl
  simp only [h2, h1]
  congr 2
  rw [if_pos trivial]
  have : inV (V.str (T [c])) (ms.map fun c => V.str (T [c])) = decide (c ∈ ms) := by
    have e2 : (ms.any fun m => decide (m = c)) = decide (c ∈ ms) := by
      by_cases h : c ∈ ms
      · rw [decide_eq_true h, List.any_eq_true]
        exact ⟨c, h, by simp⟩
      · rw [decide_eq_false h, List.any_eq_false]
        intro m hm
        simp only [decide_eq_true_eq]
        exact fun e => h (e ▸ hm)
    unfold inV
    rw [List.any_map, ← e2]
    congr 1
    funext m
    show (T [m] == T [c]) = decide (m = c)
    rw [T_eq]
    by_cases h : m = c
    · subst h; simp
    · simp [h]
  rw [this]
  by_cases h : c ∈ ms <;> simp [h]
theorem unk_comp {t : List RowT} {l : List Nat} {x2 : Option D} (ht : t.length ≤ 1000) (hl : l.length ≤ 1000) : c_oldue_2 [some (tabD t), some (.str (T l)), x2, none, none, none] = .ok (.val (.lst true ((l.filter fun c => decide (c ∉ lets t)).map sg))) [some (tabD t), some (.str (T l)), x2, none, none, none] := by
  unfold c_oldue_2
  have hs : srcA (loc 1) [some (tabD t), some (.str (T l)), x2, none, none, none] = .ok (l.map sg) [some (tabD t), some (.str (T l)), x2, none, none, none] := Pg.src_T (j := 1) rfl rfl rfl
  rw [comp_fm (fun d => match d with | .str x => if decide (∀ c ∈ lets t, T [c] ≠ x) = true then some d else none | _ => none) hs rfl rfl (by rw [List.length_map]; show _ ≤ 1000000; omega) fun d hd => ?_]
  · congr 3
    rw [List.filterMap_map]
    clear hl hs
    induction l with
    | nil => rfl
    | cons c l ih =>
      rw [List.filterMap_cons, ih]
      have e : ((fun d => match d with | D.str x => if decide (∀ c ∈ lets t, T [c] ≠ x) = true then some d else none | _ => none) ∘ sg) c = if decide (∀ m ∈ lets t, T [m] ≠ T [c]) = true then some (sg c) else none := rfl
      have e2 : decide (∀ m ∈ lets t, T [m] ≠ T [c]) = decide (c ∉ lets t) := by
        by_cases h : c ∈ lets t
        · have a : decide (c ∉ lets t) = false := decide_eq_false fun q => q h
          rw [a]
          exact decide_eq_false fun q => q c h rfl
        · have a : decide (c ∉ lets t) = true := decide_eq_true h
          rw [a]
          exact decide_eq_true fun m hm q => by
            have := T_inj q
            cases this
            exact h hm
      rw [e, e2]
      by_cases h : decide (c ∉ lets t) = true
      · rw [if_pos h, List.filter_cons_of_pos (p := fun c => decide (c ∉ lets t)) h]
        rfl
      · rw [if_neg h, List.filter_cons_of_neg (p := fun c => decide (c ∉ lets t)) h]
  · obtain ⟨c, hc, rfl⟩ := List.mem_map.mp hd
    have lc := lets_comp (t := t) (x1 := some (.str (T l))) (x2 := x2) (x3 := none) (x4 := some (sg c)) ht
    have ni := notin_let true c (lets t)
    have e2 : decide (∀ m ∈ lets t, T [m] ≠ T [c]) = decide (c ∉ lets t) := by
      by_cases h : c ∈ lets t
      · have a : decide (c ∉ lets t) = false := decide_eq_false fun q => q h
        rw [a]
        exact decide_eq_false fun q => q c h rfl
      · have a : decide (c ∉ lets t) = true := decide_eq_true h
        rw [a]
        exact decide_eq_true fun m hm q => by
          have := T_inj q
          cases this
          exact h hm
    refine ⟨[some (tabD t), some (.str (T l)), x2, none, some (sg c), none], rfl, Wp.of (a := decide (c ∉ lets t)) (ρ' := [some (tabD t), some (.str (T l)), x2, none, some (sg c), none]) ?_ ⟨fun h => ?_, fun h => ?_⟩⟩
    · generalize decide (c ∉ lets t) = BB at *
      generalize (lets t).map sg = LM at *
      generalize tabD t = TD at *
      generalize sg c = SG at *
      generalize opNotIn = ON at *
      generalize c_oldue_1 = CC at *
      simp [mkF, reFrz, seq, Pm.ite, rtn, mov, asg, drp, sNx, bnd, Pm.bin, Pm.un, app, aCons, aNil, idx, loc, con, Pm.ret, peek1, peeks, itemOf, on2I, iAdd, iSub, iGt, iGe, iLt, iLe, iDiv, iMod, use1, useL, gI, gN, tst, andT, orT, notT, andE, orE, notE, ifE, ixN, D.frz, D.plain, plainL, argsBack, opLen, opAbs, opInt1, opNeg, disp, cap, callF, takes, puts, selA, sel, aApp, par, gT, gsC, gs0, appF, opDivmod, frzL, plainL, lc, ni]
    · refine Wp.of (a := .ref 4) (ρ' := [some (tabD t), some (.str (T l)), x2, none, some (sg c), none]) rfl ⟨sg c, _, rfl, ?_, rfl⟩
      show (if decide (∀ m ∈ lets t, T [m] ≠ T [c]) = true then some (sg c) else none) = _
      rw [e2, if_pos h]
    · refine ⟨?_, rfl⟩
      show (if decide (∀ m ∈ lets t, T [m] ≠ T [c]) = true then some (sg c) else none) = _
      rw [e2, if_neg (by rw [h]; decide)]
/-- whether a number is one of repetitions -/
theorem num_test {B : Nat} {v : D} {x0 x1 x3 x4 x5 : Option D} (pv : v.plain = true) (fv : Fi B v) :
    (orT (tst (app opIsi (aCons (loc 2) (aCons (con (.op (.ty "bool"))) aNil)))) (orT (notT (tst (app opIsi (aCons (loc 2) (aCons (con (.op (.ty "int"))) aNil))))) (notT (tst (chI cLt cLe (con (.int 0)) (loc 2) (Pm.bin (on2I iPow) (con (.int 10)) (con (.int 30)))))))) [x0, x1, some v, x3, x4, x5] = .ok (!btwB 1 1000000000000000000000000000000 v) [x0, x1, some v, x3, x4, x5] := by
  have t1 := isi_int fv.ty
  have t2 := isi_bl fv.ty
  have pw : iPow 10 30 = some (.int 1000000000000000000000000000000) := rfl
  cases v with
  | node o k xs =>
    have ts : isWhl (.node o k xs) = false := rfl
    have ub : isBl (.node o k xs) = false := rfl
    have tb : btwB 1 1000000000000000000000000000000 (.node o k xs) = false := rfl
    rw [ts] at t1
    rw [ub] at t2
    rw [tb]
    clear fv
    generalize D.node o k xs = NX at *
    generalize opIsi = OI at *
    simp [mkF, reFrz, seq, Pm.ite, rtn, mov, asg, drp, sNx, bnd, Pm.bin, Pm.un, app, aCons, aNil, idx, loc, con, Pm.ret, peek1, peeks, itemOf, on2I, iAdd, iSub, iGt, iGe, iLt, iLe, iDiv, iMod, use1, useL, gI, gN, tst, andT, orT, notT, andE, orE, notE, ifE, ixN, D.frz, D.plain, plainL, argsBack, opLen, opAbs, opInt1, opNeg, disp, cap, callF, takes, puts, selA, sel, aApp, par, gT, gsC, gs0, appF, opDivmod, frzL, plainL, t1, t2]
  | int n =>
    have ub : btwB 1 1000000000000000000000000000000 (.int n) = (decide (1 ≤ n) && decide (n ≤ 1000000000000000000000000000000)) := rfl
    rw [ub]
    have ts : isWhl (.int n) = true := rfl
    have tb : isBl (.int n) = false := rfl
    rw [ts] at t1
    rw [tb] at t2
    clear fv
    generalize opIsi = OI at *
    generalize iPow = IP at *
    generalize (1000000000000000000000000000000 : Int) = MM at *
    by_cases h : 0 < n
    · have h' : 1 ≤ n := by omega
      by_cases h2 : n ≤ MM <;> simp [mkF, reFrz, seq, Pm.ite, rtn, mov, asg, drp, sNx, bnd, Pm.bin, Pm.un, app, aCons, aNil, idx, loc, con, Pm.ret, peek1, peeks, itemOf, on2I, iAdd, iSub, iGt, iGe, iLt, iLe, iDiv, iMod, use1, useL, gI, gN, tst, andT, orT, notT, andE, orE, notE, ifE, ixN, D.frz, D.plain, plainL, argsBack, opLen, opAbs, opInt1, opNeg, disp, cap, callF, takes, puts, selA, sel, aApp, par, gT, gsC, gs0, appF, opDivmod, frzL, plainL, t1, t2, pw, chI, cLe, cLt, h, h', h2]
    · have h' : ¬ 1 ≤ n := by omega
      simp [mkF, reFrz, seq, Pm.ite, rtn, mov, asg, drp, sNx, bnd, Pm.bin, Pm.un, app, aCons, aNil, idx, loc, con, Pm.ret, peek1, peeks, itemOf, on2I, iAdd, iSub, iGt, iGe, iLt, iLe, iDiv, iMod, use1, useL, gI, gN, tst, andT, orT, notT, andE, orE, notE, ifE, ixN, D.frz, D.plain, plainL, argsBack, opLen, opAbs, opInt1, opNeg, disp, cap, callF, takes, puts, selA, sel, aApp, par, gT, gsC, gs0, appF, opDivmod, frzL, plainL, t1, t2, pw, chI, cLe, cLt, h, h']
  | bl b =>
    have tb : btwB 1 1000000000000000000000000000000 (.bl b) = false := rfl
    have ts : isBl (.bl b) = true := rfl
    rw [ts] at t2
    rw [tb]
    clear fv t1
    generalize opIsi = OI at *
    simp [mkF, reFrz, seq, Pm.ite, rtn, mov, asg, drp, sNx, bnd, Pm.bin, Pm.un, app, aCons, aNil, idx, loc, con, Pm.ret, peek1, peeks, itemOf, on2I, iAdd, iSub, iGt, iGe, iLt, iLe, iDiv, iMod, use1, useL, gI, gN, tst, andT, orT, notT, andE, orE, notE, ifE, ixN, D.frz, D.plain, plainL, argsBack, opLen, opAbs, opInt1, opNeg, disp, cap, callF, takes, puts, selA, sel, aApp, par, gT, gsC, gs0, appF, opDivmod, frzL, plainL, t2]
  | _ =>
    rw [show btwB 1 1000000000000000000000000000000 _ = false from rfl]
    rw [show isWhl _ = false from rfl] at t1
    rw [show isBl _ = false from rfl] at t2
    clear fv
    generalize opIsi = OI at *
    simp [mkF, reFrz, seq, Pm.ite, rtn, mov, asg, drp, sNx, bnd, Pm.bin, Pm.un, app, aCons, aNil, idx, loc, con, Pm.ret, peek1, peeks, itemOf, on2I, iAdd, iSub, iGt, iGe, iLt, iLe, iDiv, iMod, use1, useL, gI, gN, tst, andT, orT, notT, andE, orE, notE, ifE, ixN, D.frz, D.plain, plainL, argsBack, opLen, opAbs, opInt1, opNeg, disp, cap, callF, takes, puts, selA, sel, aApp, par, gT, gsC, gs0, appF, opDivmod, frzL, plainL, t1, t2]
theorem due_ok {t : List RowT} {l : List Nat} {B : Nat} {v : D} (ht : t.length ≤ 1000) (hl : l.length ≤ 1000) (ha : ∀ c ∈ l, c < 128) (pv : v.plain = true) (fv : Fi B v) : S__law_due [tabD t, .str (T l), v] = .ret (dueD t l v) [tabD t, .str (T l), v] := by
  have tp := tabD_plain t
  have uc := unk_comp (t := t) (l := l) (x2 := some v) ht hl
  have ne := ne_nil true true (xs := (l.filter fun c => decide (c ∉ lets t)).map sg) (fun x hx => by
    obtain ⟨c, hc, rfl⟩ := List.mem_map.mp hx
    have := ha c (List.mem_filter.mp hc).1
    show PyData.strOk (T [c]) = true
    exact Pg.strOk_T fun x hx => by
      obtain rfl := List.mem_singleton.mp hx
      omega)
  have hw : Wf S__law_due [tabD t, .str (T l), v] fun d as => d = dueD t l v ∧ as = [tabD t, .str (T l), v] := by
    unfold S__law_due
    refine wf_mkF ?_
    rw [bq_ldue]
    show Wp _ [some (tabD t), some (.str (T l)), some v, none, none, none] _
    refine wp_seq fun K k1 k2 k3 k4 => Wp.of (asg_val uc (by simp)) (k1 _ ?_)
    clear k1 k2 k3 k4 K
    show Wp _ [some (tabD t), some (.str (T l)), some v, some (.lst true ((l.filter fun c => decide (c ∉ lets t)).map sg)), none, none] _
    unfold dueD
    have hh : (l.filter fun c => decide (c ∉ lets t)).head? = l.find? fun c => decide (c ∉ lets t) := List.head?_filter ..
    cases hL : l.filter fun c => decide (c ∉ lets t) with
    | cons c r =>
      rw [hL] at hh ne
      rw [← hh]
      refine wp_seq fun K k1 k2 k3 k4 => ?_
      have e2 : decide ((c :: r).map sg ≠ []) = true := by simp
      rw [e2] at ne
      have it : itemOf (.ref 3) 0 [some (tabD t), some (.str (T l)), some v, some (.lst true ((c :: r).map sg)), none, none] = .ok (.val (sg c)) [some (tabD t), some (.str (T l)), some v, some (.lst true ((c :: r).map sg)), none, none] := item_at (i := 3) (k := 0) rfl rfl rfl (.inl rfl)
      have sp : (sg c).plain = true := rfl
      have sf : (sg c).frz = sg c := rfl
      refine Wp.of (a := .rt (.node false .tup [.str ("letter" : String), sg c])) (ρ' := [some (tabD t), some (.str (T l)), some v, some (.lst true ((c :: r).map sg)), none, none]) ?_ (k2 _ _ ⟨[tabD t, .str (T l), v], by simp [argsBack, reFrz, tp, pv, D.plain], rfl, rfl⟩)
      clear k1 k2 k3 k4
      generalize (c :: r).map sg = LM at *
      generalize tabD t = TD at *
      generalize sg c = SG at *
      generalize opNe = ON at *
      simp [mkF, reFrz, seq, Pm.ite, rtn, mov, asg, drp, sNx, bnd, Pm.bin, Pm.un, app, aCons, aNil, idx, loc, con, Pm.ret, peek1, peeks, on2I, iAdd, iSub, iGt, iGe, iLt, iLe, iDiv, iMod, use1, useL, gN, tst, andT, orT, notT, andE, orE, notE, ifE, ixN, D.frz, D.plain, plainL, argsBack, opLen, opAbs, opInt1, opNeg, disp, cap, callF, takes, puts, selA, sel, aApp, par, gT, gsC, gs0, appF, opDivmod, frzL, plainL, ne, it, sp, sf]
    | nil =>
      rw [hL] at hh ne
      rw [← hh]
      refine wp_seq fun K k1 k2 k3 k4 => ?_
      have e2 : decide (([] : List Nat).map sg ≠ []) = false := by simp
      rw [e2] at ne
      refine Wp.of (a := .nx) (ρ' := [some (tabD t), some (.str (T l)), some v, some (.lst true (([] : List Nat).map sg)), none, none]) ?_ (k1 _ ?_)
      · clear k1 k2 k3 k4
        generalize ([] : List Nat).map sg = LM at *
        generalize tabD t = TD at *
        generalize opNe = ON at *
        simp [mkF, reFrz, seq, Pm.ite, rtn, mov, asg, drp, sNx, bnd, Pm.bin, Pm.un, app, aCons, aNil, idx, loc, con, Pm.ret, peek1, peeks, on2I, iAdd, iSub, iGt, iGe, iLt, iLe, iDiv, iMod, use1, useL, gN, tst, andT, orT, notT, andE, orE, notE, ifE, ixN, D.frz, D.plain, plainL, argsBack, opLen, opAbs, opInt1, opNeg, disp, cap, callF, takes, puts, selA, sel, aApp, par, gT, gsC, gs0, appF, opDivmod, frzL, plainL, ne]
      clear k1 k2 k3 k4 K
      refine wp_seq fun K k1 k2 k3 k4 => ?_
      have nt := num_test (x0 := some (tabD t)) (x1 := some (.str (T l))) (x3 := some (.lst true (([] : List Nat).map sg))) (x4 := none) (x5 := none) pv fv
      refine wp_ite (Wp.of nt ⟨fun h => ?_, fun h => ?_⟩)
      · have hb : btwB 1 1000000000000000000000000000000 v = false := by simpa using h
        have fz := D.frz_of_plain _ pv
        show Wp _ _ _
        refine Wp.of (a := .rt (.node false .tup [.str ("times" : String), v])) (ρ' := [some (tabD t), some (.str (T l)), some v, some (.lst true (([] : List Nat).map sg)), none, none]) ?_ (k2 _ _ ⟨[tabD t, .str (T l), v], by simp [argsBack, reFrz, tp, pv, D.plain], by simp only [List.head?_nil]; rw [if_neg (by rw [hb]; decide)], rfl⟩)
        generalize ([] : List Nat).map sg = LM at *
        generalize tabD t = TD at *
        simp [mkF, reFrz, seq, Pm.ite, rtn, mov, asg, drp, sNx, bnd, Pm.bin, Pm.un, app, aCons, aNil, idx, loc, con, Pm.ret, peek1, peeks, itemOf, on2I, iAdd, iSub, iGt, iGe, iLt, iLe, iDiv, iMod, use1, useL, gI, gN, tst, andT, orT, notT, andE, orE, notE, ifE, ixN, D.frz, D.plain, plainL, argsBack, opLen, opAbs, opInt1, opNeg, disp, cap, callF, takes, puts, selA, sel, aApp, par, gT, gsC, gs0, appF, opDivmod, frzL, plainL, pv, fz]
      · have hb : btwB 1 1000000000000000000000000000000 v = true := by simpa using h
        refine Wp.of (a := Fl.nx) (ρ' := [some (tabD t), some (.str (T l)), some v, some (.lst true (([] : List Nat).map sg)), none, none]) rfl (k1 _ ?_)
        clear k1 k2 k3 k4 K
        refine wp_end fun K k1 k2 k3 k4 => Wp.of (a := Fl.rt .non) (ρ' := [some (tabD t), some (.str (T l)), some v, some (.lst true (([] : List Nat).map sg)), none, none]) rfl (k2 _ _ ⟨[tabD t, .str (T l), v], by simp [argsBack, reFrz, tp, pv, D.plain], by simp only [List.head?_nil]; rw [if_pos hb], rfl⟩)
  obtain ⟨d, as, e, rfl, rfl⟩ := hw
  exact e
def V16 : List D := [.int 0, .int (-1), .bl true, .bl false, .non, .str ("" : String), .str ("1" : String), .node false .tup [.int 1], .node false .lst [.int 1], .node false (.dct []) [], .int 1000000000000000000000000000001, .int 100000000000000000000000000000000000000000000000000000000000, .int 1, .int 1000000000000000000000000000000, .int 7, .int 1000000000000]
abbrev B59 : Nat := 100000000000000000000000000000000000000000000000000000000000
theorem V16_ok : ∀ v ∈ V16, v.plain = true ∧ okD B59 v = true ∧ wtD v ≤ 10 ∧ dpD v ≤ 3 := by decide +kernel
theorem dis_is {ρ : Pm.Env} : d_olaw_1 ρ = .ok (.val (.lst true [.int 0, .int (-1), .bl true, .bl false, .non, .str ("" : String), .str ("1" : String), .node false .tup [.int 1], .node true .lst [.int 1], .node true (.dct []) [], .int 1000000000000000000000000000001, .int 100000000000000000000000000000000000000000000000000000000000, .int 1, .int 1000000000000000000000000000000, .int 7, .int 1000000000000])) ρ := rfl
theorem pick_v {k : Nat} (hk : k < 16) : ∃ v ∈ V16, ∃ y, ∀ (x0 x1 x2 x3 x4 x5 x7 x8 : Option D), itemOf (.ref 6) (k : Int) [x0, x1, x2, x3, x4, x5, some (.lst true [.int 0, .int (-1), .bl true, .bl false, .non, .str ("" : String), .str ("1" : String), .node false .tup [.int 1], .node true .lst [.int 1], .node true (.dct []) [], .int 1000000000000000000000000000001, .int 100000000000000000000000000000000000000000000000000000000000, .int 1, .int 1000000000000000000000000000000, .int 7, .int 1000000000000]), x7, x8] = .ok (.val v) [x0, x1, x2, x3, x4, x5, y, x7, x8] := by
  match k, hk with
  | 0, _ => exact ⟨.int 0, by simp [V16], _, fun _ _ _ _ _ _ _ _ => rfl⟩
  | 1, _ => exact ⟨.int (-1), by simp [V16], _, fun _ _ _ _ _ _ _ _ => rfl⟩
  | 2, _ => exact ⟨.bl true, by simp [V16], _, fun _ _ _ _ _ _ _ _ => rfl⟩
  | 3, _ => exact ⟨.bl false, by simp [V16], _, fun _ _ _ _ _ _ _ _ => rfl⟩
  | 4, _ => exact ⟨.non, by simp [V16], _, fun _ _ _ _ _ _ _ _ => rfl⟩
  | 5, _ => exact ⟨.str ("" : String), by simp [V16], _, fun _ _ _ _ _ _ _ _ => rfl⟩
  | 6, _ => exact ⟨.str ("1" : String), by simp [V16], _, fun _ _ _ _ _ _ _ _ => rfl⟩
  | 7, _ => exact ⟨.node false .tup [.int 1], by simp [V16], _, fun _ _ _ _ _ _ _ _ => rfl⟩
  | 8, _ => exact ⟨.node false .lst [.int 1], by simp [V16], _, fun _ _ _ _ _ _ _ _ => rfl⟩
  | 9, _ => exact ⟨.node false (.dct []) [], by simp [V16], _, fun _ _ _ _ _ _ _ _ => rfl⟩
  | 10, _ => exact ⟨.int 1000000000000000000000000000001, by simp [V16], _, fun _ _ _ _ _ _ _ _ => rfl⟩
  | 11, _ => exact ⟨.int 100000000000000000000000000000000000000000000000000000000000, by simp [V16], _, fun _ _ _ _ _ _ _ _ => rfl⟩
  | 12, _ => exact ⟨.int 1, by simp [V16], _, fun _ _ _ _ _ _ _ _ => rfl⟩
  | 13, _ => exact ⟨.int 1000000000000000000000000000000, by simp [V16], _, fun _ _ _ _ _ _ _ _ => rfl⟩
  | 14, _ => exact ⟨.int 7, by simp [V16], _, fun _ _ _ _ _ _ _ _ => rfl⟩
  | 15, _ => exact ⟨.int 1000000000000, by simp [V16], _, fun _ _ _ _ _ _ _ _ => rfl⟩
  | k + 16, h => exact absurd h (by omega)
theorem nn (s : Str) : opNe [.str s, .str s] = some (.bl false) := by rw [ne_ss]; simp
theorem lets_rng {t : List RowT} (ht : Rws t) {c : Nat} (hc : c ∈ lets t) : 97 ≤ c ∧ c ≤ 122 := by
  obtain ⟨r, hr, rfl⟩ := List.mem_map.mp hc
  exact ht.let1 r hr
theorem three_T {r : Int} (h0 : 0 ≤ r) (h1 : r < 3) : ∃ q : List Nat, atI [D.str ("q" : String), .str ("xq" : String), .str ("zqx" : String)] r = some (.str (T q)) ∧ q.length ≤ 3 ∧ ∀ c ∈ q, 97 ≤ c ∧ c ≤ 122 := by
  have : r = 0 ∨ r = 1 ∨ r = 2 := by omega
  rcases this with rfl | rfl | rfl
  · exact ⟨[113], rfl, by decide, by decide⟩
  · exact ⟨[120, 113], rfl, by decide, by decide⟩
  · exact ⟨[122, 113, 120], rfl, by decide, by decide⟩
/-- what stands in a due thing is shown -/
theorem repr_due {t : List RowT} {l : List Nat} {v : D} (hl : ∀ c ∈ l, 97 ≤ c ∧ c ≤ 122) (hv : okD B59 v = true ∧ wtD v ≤ 10 ∧ dpD v ≤ 3) : ∃ s, opReprC [dueD t l v] = some (.str s) := by
  unfold dueD
  cases hf : l.find? fun c => decide (c ∉ lets t) with
  | some c =>
    have hc := hl c (List.mem_of_find?_eq_some hf)
    have h3 : c < 128 := by omega
    refine reprC_ok (B := B59) (by decide) ?_ ?_ ?_
    · have e : okD B59 (.str ("letter" : String)) = true := by decide +kernel
      have e2 : okD B59 (sg c) = true := by simp [sg, okD, T, h3]
      simp only [okD, okL, Bool.and_true, Bool.and_eq_true]
      exact ⟨by simpa [okD] using e, by simpa [okD, sg] using e2⟩
    · simp [dpD, dpL, sg]
    · have e : (("letter" : String) : Str).cps.size = 6 := rfl
      simp only [wtD, wtL, sg, Pm.T_size, e, List.length_cons, List.length_nil]
      omega
  | none =>
    simp only
    by_cases hb : btwB 1 1000000000000000000000000000000 v = true
    · rw [if_pos hb]
      exact reprC_ok (B := B59) (by decide) rfl (by simp [dpD]) (by simp [wtD])
    · rw [if_neg hb]
      refine reprC_ok (B := B59) (by decide) ?_ ?_ ?_
      · have e : okD B59 (.str ("times" : String)) = true := by decide +kernel
        simp only [okD, okL, Bool.and_true, Bool.and_eq_true]
        exact ⟨by simpa [okD] using e, hv.1⟩
      · have := hv.2.2
        simp only [dpD, dpL]
        omega
      · have := hv.2.1
        have e : (("times" : String) : Str).cps.size = 5 := rfl
        simp only [wtD, wtL, e]
        omega
theorem due_plain {t : List RowT} {l : List Nat} {v : D} (pv : v.plain = true) : (dueD t l v).plain = true := by
  unfold dueD
  split
  · rfl
  · split
    · rfl
    · simp [D.plain, plainL, pv]
theorem repr_all {t : List RowT} {m : List Nat} {v : D} (ht : Rws t) (hm : ∀ c ∈ m, 97 ≤ c ∧ c ≤ 122) (hl : m.length ≤ 43) (hv : okD B59 v = true ∧ wtD v ≤ 10 ∧ dpD v ≤ 3) : ∃ s, opReprC [.node false .tup [tabD t, .str (T m), v]] = some (.str s) := by
  have o1 : okL B59 (t.map rowD) = true := okL_all.mpr fun x hx => by
    obtain ⟨r, hr, rfl⟩ := List.mem_map.mp hx
    have h1 := ht.let1 r hr
    have h2 := ht.num r hr
    have h3 : r.1 < 128 := by omega
    have h4 : r.2.1.natAbs ≤ B59 := by simp only [B59]; omega
    have h5 : r.2.2.natAbs ≤ B59 := by simp only [B59]; omega
    simp [rowD, D.tup, okD, okL, T, h3, h4, h5]
  have o2 : (T m).cps.toList.all (fun c => decide (c < 128)) = true := by
    rw [List.all_eq_true]
    intro c hc
    have hc : c ∈ m := by simpa [T] using hc
    have := hm c hc
    exact decide_eq_true (by omega)
  have w1 := wtL_le (c := 20) (xs := t.map rowD) fun x hx => by
    obtain ⟨r, hr, rfl⟩ := List.mem_map.mp hx
    simp [rowD, D.tup, wtD, wtL, Pm.T_size]
  rw [List.length_map] at w1
  have p1 : dpL (t.map rowD) ≤ 1 := dpL_le.mpr fun x hx => by
    obtain ⟨r, hr, rfl⟩ := List.mem_map.mp hx
    simp [rowD, D.tup, dpD, dpL]
  have h6 := ht.n6
  refine reprC_ok (B := B59) (by decide) ?_ ?_ ?_
  · simp only [tabD, D.tup, okD, okL, Bool.and_true, Bool.and_eq_true]
    exact ⟨o1, o2, hv.1⟩
  · have := hv.2.2
    simp only [tabD, D.tup, dpD, dpL]
    omega
  · have := hv.2.1
    simp only [tabD, D.tup, wtD, wtL, Pm.T_size]
    omega
abbrev L16 : List D := [.int 0, .int (-1), .bl true, .bl false, .non, .str ("" : String), .str ("1" : String), .node false .tup [.int 1], .node true .lst [.int 1], .node true (.dct []) [], .int 1000000000000000000000000000001, .int 100000000000000000000000000000000000000000000000000000000000, .int 1, .int 1000000000000000000000000000000, .int 7, .int 1000000000000]
theorem turn_ok {ns : List Int} {a : Int} {z : List D} {SC x2 x3 x4 x5 x6 x7 x8 : Option D} (hl : ns.length ≤ 63) (hp : Pen ns a (.node true .lst z)) (ha : a + 3000 ≤ 1000000) {Q : Fl → Pm.Env → Prop}
    (hQ : ∀ (z' : List D) (x3 x4 x5 x6 x7 x8 : Option D), Pen ns (a + 2000) (.node true .lst z') → Q .nx [SC, some (.node true .lst z'), x2, x3, x4, x5, x6, x7, x8]) :
    Wp b_olaw_1 [SC, some (.node true .lst z), x2, x3, x4, x5, x6, x7, x8] Q := by
  obtain ⟨z1, t, l, e1, ht, hl1, hl2, hin, p1⟩ := block_ok hS (wide := 40) hl hp (by omega) (by decide) (by decide)
  rw [← e_block] at e1
  obtain ⟨k, z2, e2, k0, k1, p2⟩ := dr hS (m := ((l.length + 1 : Nat) : Int)) hl p1 (by omega) (by omega) (divS (by omega) (by omega))
  obtain ⟨w, z3, e3, w0, w1, p3⟩ := dr hS (m := 2) hl p2 (by omega) (by decide) (by decide)
  have tp := tabD_plain t
  have tl : t.length ≤ 1000 := by have := ht.n6; omega
  have l1 : opLen [.str (T l)] = some (.int (l.length : Int)) := by
    show (if (T l).length ≤ 1000000 then some (D.int ((T l).length : Int)) else none) = _
    rw [T_len, if_pos (by omega)]
  have ad : hAdd [.int (l.length : Int), .int 1] = some (.int ((l.length + 1 : Nat) : Int)) := by
    rw [hAdd_ii]
    rfl
  unfold b_olaw_1
  have s1 : Wp (asg (callF S__law_block (aCons (loc 1) (aCons (con (.int 40)) aNil))) (gT (gsC (gN 3) (gsC (gN 4) gs0)) 2)) [SC, some (.node true .lst z), x2, x3, x4, x5, x6, x7, x8] fun f ρ => f = .nx ∧ ρ = [SC, some (.node true .lst z1), x2, some (tabD t), some (.str (T l)), x5, x6, x7, x8] := by
    have e1 : S__law_block [.node true .lst z, .int 40] = .ret (.node false .tup [tabD t, .str (T l)]) [.node true .lst z1, .int 40] := e1
    have tf := tabD_frz t
    clear hQ e2 e3
    generalize tabD t = TD at *
    generalize S__law_block = SB at *
    simp [Wp, mkF, reFrz, seq, Pm.ite, rtn, mov, asg, drp, sNx, bnd, Pm.bin, Pm.un, app, aCons, aNil, idx, loc, con, Pm.ret, peek1, peeks, itemOf, on2I, iAdd, iSub, iGt, iGe, iLt, iLe, iDiv, iMod, use1, useL, gI, gN, tst, andT, orT, notT, andE, orE, notE, ifE, ixN, D.frz, D.plain, plainL, argsBack, opLen, opAbs, opInt1, opNeg, disp, cap, callF, takes, puts, selA, sel, aApp, par, gT, gsC, gs0, appF, opDivmod, frzL, plainL, e1, tp, tf]
  refine wp_seq fun K k1 k2 k3 k4 => s1.mono fun f ρ ⟨q1, q2⟩ => ?_
  subst q1 q2
  refine k1 _ ?_
  clear k1 k2 k3 k4 K s1
  have s1 : Wp (asg (callF S__law_draw (aCons (loc 1) (aCons (Pm.bin hAdd (app opLen (aCons (loc 4) aNil)) (con (.int 1))) aNil))) (gN 5)) [SC, some (.node true .lst z1), x2, some (tabD t), some (.str (T l)), x5, x6, x7, x8] fun f ρ => f = .nx ∧ ρ = [SC, some (.node true .lst z2), x2, some (tabD t), some (.str (T l)), some (.int k), x6, x7, x8] := by
    clear hQ e1 e3
    generalize ((l.length + 1 : Nat) : Int) = L1 at *
    generalize (l.length : Int) = LL at *
    generalize tabD t = TD at *
    generalize S__law_draw = SD at *
    generalize opLen = OL at *
    generalize hAdd = HA at *
    simp [Wp, mkF, reFrz, seq, Pm.ite, rtn, mov, asg, drp, sNx, bnd, Pm.bin, Pm.un, app, aCons, aNil, idx, loc, con, Pm.ret, peek1, peeks, itemOf, on2I, iAdd, iSub, iGt, iGe, iLt, iLe, iDiv, iMod, use1, useL, gI, gN, tst, andT, orT, notT, andE, orE, notE, ifE, ixN, D.frz, D.plain, plainL, argsBack, opLen, opAbs, opInt1, opNeg, disp, cap, callF, takes, puts, selA, sel, aApp, par, gT, gsC, gs0, appF, opDivmod, frzL, plainL, l1, ad, e2]
  refine wp_seq fun K k1 k2 k3 k4 => s1.mono fun f ρ ⟨q1, q2⟩ => ?_
  subst q1 q2
  refine k1 _ ?_
  clear k1 k2 k3 k4 K s1
  have s1 : ∃ (m : List Nat) (z5 : List D), m.length ≤ 1000 ∧ (∀ c ∈ m, 97 ≤ c ∧ c ≤ 122) ∧ m.length ≤ 43 ∧ Pen ns (a + 1010) (.node true .lst z5) ∧ Wp (Pm.ite (tst (Pm.bin opEq (callF S__law_draw (aCons (loc 1) (aCons (con (.int 2)) aNil))) (con (.int 0)))) (asg (cut (Pm.bin hAdd (Pm.bin hAdd (cut (loc 4) none (some (loc 5))) (idx (aCons (disp true .lst (aCons (con (.str "q")) (aCons (con (.str "xq")) (aCons (con (.str "zqx")) aNil)))) (aCons (callF S__law_draw (aCons (loc 1) (aCons (con (.int 3)) aNil))) aNil)))) (cut (loc 4) (some (loc 5)) none)) none (some (con (.int 40)))) (gN 4)) sNx) [SC, some (.node true .lst z2), x2, some (tabD t), some (.str (T l)), some (.int k), x6, x7, x8] fun f ρ => f = .nx ∧ ρ = [SC, some (.node true .lst z5), x2, some (tabD t), some (.str (T m)), some (.int k), x6, x7, x8] := by
    have eq : opEq [.int w, .int 0] = some (.bl (w == 0)) := eq_int' w 0
    have rng : ∀ c ∈ l, 97 ≤ c ∧ c ≤ 122 := fun c hc => lets_rng ht (hin c hc)
    cases hw : w == 0 with
    | true =>
      obtain ⟨r, z4, e4, r0, r1, p4⟩ := dr hS (m := 3) hl p3 (by omega) (by decide) (by decide)
      obtain ⟨q, hq, q1, q2⟩ := three_T r0 r1
      obtain ⟨i, rfl⟩ := Int.eq_ofNat_of_zero_le k0
      rw [hw] at eq
      have t1 := Pg.take_T (l := l) (by show _ ≤ 1000000; omega) i
      have t2 := Pg.drop_T (l := l) (by show _ ≤ 1000000; omega) i
      have a1 := add_T (a := l.take i) (b := q) (by rw [List.length_take]; show _ ≤ 1000000; omega)
      have a2 := add_T (a := l.take i ++ q) (b := l.drop i) (by rw [List.length_append, List.length_take, List.length_drop]; show _ ≤ 1000000; omega)
      have t3 := Pg.take_T (l := l.take i ++ q ++ l.drop i) (by rw [List.length_append, List.length_append, List.length_take, List.length_drop]; show _ ≤ 1000000; omega) 40
      refine ⟨(l.take i ++ q ++ l.drop i).take 40, z4, by rw [List.length_take]; omega, fun c hc => ?_, by rw [List.length_take]; omega, p4.mono (by omega), ?_⟩
      · have hc := List.mem_of_mem_take hc
        rcases List.mem_append.mp hc with hc | hc
        · rcases List.mem_append.mp hc with hc | hc
          · exact rng c (List.mem_of_mem_take hc)
          · exact q2 c hc
        · exact rng c (List.mem_of_mem_drop hc)
      · have t3 : gCut none (some 40) (.str (T (l.take i ++ q ++ l.drop i))) = some (.str (T ((l.take i ++ q ++ l.drop i).take 40))) := t3
        clear hQ e1 e2 hin rng
        generalize T ((l.take i ++ q ++ l.drop i).take 40) = T5 at *
        generalize T (l.take i ++ q ++ l.drop i) = T4 at *
        generalize T (l.take i ++ q) = T3 at *
        generalize T (l.take i) = T2 at *
        generalize T (l.drop i) = T1 at *
        generalize T q = TQ at *
        generalize T l = TL at *
        generalize (i : Int) = II at *
        generalize tabD t = TD at *
        generalize S__law_draw = SD at *
        generalize hAdd = HA at *
        generalize opEq = OE at *
        simp [Wp, mkF, reFrz, seq, Pm.ite, rtn, mov, asg, drp, sNx, bnd, Pm.bin, Pm.un, app, aCons, aNil, idx, loc, con, Pm.ret, peek1, peeks, itemOf, on2I, iAdd, iSub, iGt, iGe, iLt, iLe, iDiv, iMod, use1, useL, gI, gN, tst, andT, orT, notT, andE, orE, notE, ifE, ixN, D.frz, D.plain, plainL, argsBack, opLen, opAbs, opInt1, opNeg, disp, cap, callF, takes, puts, selA, sel, aApp, par, gT, gsC, gs0, appF, opDivmod, frzL, plainL, cut, e3, eq, t1, e4, hq, t2, a1, a2, t3]
    | false =>
      rw [hw] at eq
      refine ⟨l, z3, by omega, rng, by omega, p3.mono (by omega), ?_⟩
      clear hQ e1 e2
      generalize T l = TL at *
      generalize tabD t = TD at *
      generalize S__law_draw = SD at *
      generalize opEq = OE at *
      simp [Wp, mkF, reFrz, seq, Pm.ite, rtn, mov, asg, drp, sNx, bnd, Pm.bin, Pm.un, app, aCons, aNil, idx, loc, con, Pm.ret, peek1, peeks, itemOf, on2I, iAdd, iSub, iGt, iGe, iLt, iLe, iDiv, iMod, use1, useL, gI, gN, tst, andT, orT, notT, andE, orE, notE, ifE, ixN, D.frz, D.plain, plainL, argsBack, opLen, opAbs, opInt1, opNeg, disp, cap, callF, takes, puts, selA, sel, aApp, par, gT, gsC, gs0, appF, opDivmod, frzL, plainL, e3, eq]
  obtain ⟨m, z5, hm1, hm2, hm3, p5, s1⟩ := s1
  refine wp_seq fun K k1 k2 k3 k4 => s1.mono fun f ρ ⟨q1, q2⟩ => ?_
  subst q1 q2
  refine k1 _ ?_
  clear k1 k2 k3 k4 K s1
  clear e1 e2 e3 l1 ad p1 p2 p3
  obtain ⟨j, z6, e6, j0, j1, p6⟩ := dr hS (m := 16) hl p5 (by omega) (by decide) (by decide)
  obtain ⟨i, rfl⟩ := Int.eq_ofNat_of_zero_le j0
  obtain ⟨v, hv, y, pv⟩ := pick_v (k := i) (by omega)
  obtain ⟨vp, v1, v2, v3⟩ := V16_ok v hv
  have fv : Fi B59 v := ⟨v1, by omega⟩
  refine wp_seq fun K k1 k2 k3 k4 => Wp.of (asg_val dis_is (by simp)) (k1 _ ?_)
  clear k1 k2 k3 k4 K
  show Wp _ [SC, some (.node true .lst z5), x2, some (tabD t), some (.str (T m)), some (.int k), some (.lst true L16), x7, x8] _
  have s1 : Wp (asg (idx (aCons (loc 6) (aCons (callF S__law_draw (aCons (loc 1) (aCons (con (.int 16)) aNil))) aNil))) (gN 7)) [SC, some (.node true .lst z5), x2, some (tabD t), some (.str (T m)), some (.int k), some (.lst true L16), x7, x8] fun f ρ => f = .nx ∧ ρ = [SC, some (.node true .lst z6), x2, some (tabD t), some (.str (T m)), some (.int k), y, some v, x8] := by
    have pv := pv SC (some (.node true .lst z6)) x2 (some (tabD t)) (some (.str (T m))) (some (.int k)) x7 x8
    clear hQ
    generalize D.lst true L16 = LL at *
    generalize (i : Int) = II at *
    generalize tabD t = TD at *
    generalize T m = TM at *
    generalize S__law_draw = SD at *
    simp [Wp, mkF, reFrz, seq, Pm.ite, rtn, mov, asg, drp, sNx, bnd, Pm.bin, Pm.un, app, aCons, aNil, idx, loc, con, Pm.ret, peek1, peeks, on2I, iAdd, iSub, iGt, iGe, iLt, iLe, iDiv, iMod, use1, useL, gN, tst, andT, orT, notT, andE, orE, notE, ifE, ixN, D.frz, D.plain, plainL, argsBack, opLen, opAbs, opInt1, opNeg, disp, cap, callF, takes, puts, selA, sel, aApp, par, gT, gsC, gs0, appF, opDivmod, frzL, plainL, e6, pv, gI]
  refine wp_seq fun K k1 k2 k3 k4 => s1.mono fun f ρ ⟨q1, q2⟩ => ?_
  subst q1 q2
  refine k1 _ ?_
  clear k1 k2 k3 k4 K s1
  clear e6 pv
  have hr := repr_all ht hm2 hm3 ⟨v1, v2, v3⟩
  obtain ⟨s, hr⟩ := hr
  obtain ⟨s1, r1⟩ := repr_due (t := t) (l := m) (v := v) hm2 ⟨v1, v2, v3⟩
  obtain ⟨s2, r2⟩ := repr_due (t := t) (l := m) (v := .int 1) hm2 ⟨by decide +kernel, by decide +kernel, by decide +kernel⟩
  have f1 : Fi B59 (.int 1) := ⟨by decide +kernel, by decide +kernel⟩
  have d1 := due_ok (t := t) (l := m) tl hm1 (fun c hc => by have := hm2 c hc; omega) vp fv
  have d2 := due_ok (t := t) (l := m) (v := .int 1) tl hm1 (fun c hc => by have := hm2 c hc; omega) rfl f1
  have n0 := nn s
  have n1 := nn s1
  have n2 := nn s2
  have q1 := due_plain (t := t) (l := m) vp
  have q2 := due_plain (t := t) (l := m) (v := .int 1) rfl
  have vf := D.frz_of_plain _ vp
  have tf := tabD_frz t
  have h1 : ∀ x8, lamC H__law_heard (makeC "Repeated" S_Repeated____init__ (aCons (loc 3) (aCons (loc 4) (aCons (loc 7) aNil)))) [SC, some (.node true .lst z6), x2, some (tabD t), some (.str (T m)), some (.int k), y, some v, x8] = .ok (.val (dueD t m v)) [SC, some (.node true .lst z6), x2, some (tabD t), some (.str (T m)), some (.int k), y, some v, x8] := fun x8 =>
    made_heard (es := [.ref 3, .ref 4, .ref 7]) ht hm1 vp fv rfl (by simp [takes, tp, vp, D.plain]) fun a b c => by simp [puts, tp, vp, D.plain]
  have h2 : ∀ x8, lamC H__law_heard (callF T_Repeated__once (aCons (loc 3) (aCons (loc 4) aNil))) [SC, some (.node true .lst z6), x2, some (tabD t), some (.str (T m)), some (.int k), y, some v, x8] = .ok (.val (dueD t m (.int 1))) [SC, some (.node true .lst z6), x2, some (tabD t), some (.str (T m)), some (.int k), y, some v, x8] := fun x8 =>
    once_is (es := [.ref 3, .ref 4]) ht hm1 rfl (by simp [takes, tp, D.plain]) fun a b => by simp [puts, tp, D.plain]
  have fin := fun x8 => hQ z6 (some (tabD t)) (some (.str (T m))) (some (.int k)) y (some v) x8 (p6.mono (by omega))
  clear hQ
  generalize dueD t m v = DV at *
  generalize dueD t m (.int 1) = D1 at *
  generalize tabD t = TD at *
  generalize T m = TM at *
  generalize lamC H__law_heard (makeC "Repeated" S_Repeated____init__ (aCons (loc 3) (aCons (loc 4) (aCons (loc 7) aNil)))) = H1 at *
  generalize lamC H__law_heard (callF T_Repeated__once (aCons (loc 3) (aCons (loc 4) aNil))) = H2 at *
  generalize S__law_due = SDU at *
  generalize opReprC = OR at *
  generalize opNe = ON at *
  have hr2 := hr
  refine wp_seq fun K k1 k2 k3 k4 => ?_
  simp [Wp, mkF, reFrz, seq, Pm.ite, rtn, mov, asg, drp, sNx, bnd, Pm.bin, Pm.un, app, aCons, aNil, idx, loc, con, Pm.ret, peek1, peeks, itemOf, on2I, iAdd, iSub, iGt, iGe, iLt, iLe, iDiv, iMod, use1, useL, gI, gN, tst, andT, orT, notT, andE, orE, notE, ifE, ixN, D.frz, D.plain, plainL, argsBack, opLen, opAbs, opInt1, opNeg, disp, cap, callF, takes, puts, selA, sel, aApp, par, gT, gsC, gs0, appF, opDivmod, frzL, plainL, hr, tp, tf, vp, vf]
  refine k1 _ ?_
  clear k1 k2 k3 k4 K
  refine wp_seq fun K k1 k2 k3 k4 => ?_
  simp [Wp, mkF, reFrz, seq, Pm.ite, rtn, mov, asg, drp, sNx, bnd, Pm.bin, Pm.un, app, aCons, aNil, idx, loc, con, Pm.ret, peek1, peeks, itemOf, on2I, iAdd, iSub, iGt, iGe, iLt, iLe, iDiv, iMod, use1, useL, gI, gN, tst, andT, orT, notT, andE, orE, notE, ifE, ixN, D.frz, D.plain, plainL, argsBack, opLen, opAbs, opInt1, opNeg, disp, cap, callF, takes, puts, selA, sel, aApp, par, gT, gsC, gs0, appF, opDivmod, frzL, plainL, h1, r1, d1, n1, tp, vp]
  refine k1 _ ?_
  clear k1 k2 k3 k4 K
  refine wp_seq fun K k1 k2 k3 k4 => ?_
  simp [Wp, mkF, reFrz, seq, Pm.ite, rtn, mov, asg, drp, sNx, bnd, Pm.bin, Pm.un, app, aCons, aNil, idx, loc, con, Pm.ret, peek1, peeks, itemOf, on2I, iAdd, iSub, iGt, iGe, iLt, iLe, iDiv, iMod, use1, useL, gI, gN, tst, andT, orT, notT, andE, orE, notE, ifE, ixN, D.frz, D.plain, plainL, argsBack, opLen, opAbs, opInt1, opNeg, disp, cap, callF, takes, puts, selA, sel, aApp, par, gT, gsC, gs0, appF, opDivmod, frzL, plainL, h2, r2, d2, n2, tp]
  refine k1 _ ?_
  clear k1 k2 k3 k4 K
  refine wp_end fun K k1 k2 k3 k4 => ?_
  simp [Wp, mkF, reFrz, seq, Pm.ite, rtn, mov, asg, drp, sNx, bnd, Pm.bin, Pm.un, app, aCons, aNil, idx, loc, con, Pm.ret, peek1, peeks, itemOf, on2I, iAdd, iSub, iGt, iGe, iLt, iLe, iDiv, iMod, use1, useL, gI, gN, tst, andT, orT, notT, andE, orE, notE, ifE, ixN, D.frz, D.plain, plainL, argsBack, opLen, opAbs, opInt1, opNeg, disp, cap, callF, takes, puts, selA, sel, aApp, par, gT, gsC, gs0, appF, opDivmod, frzL, plainL, hr, n0, tp, tf, vp, vf]
  exact k1 _ (fin _)
theorem law_ok (ns : List Int) (hl : ns.length ≤ 63) : ∃ as, S_law [.scr (ns.map D.int)] = .ret (.bl true) as := by
  obtain ⟨d0, ep, p0⟩ := pen_ok hl
  obtain ⟨z0, rfl⟩ := p0.owned
  have hw : Wf S_law [.scr (ns.map D.int)] fun d as => d = .bl true := by
    unfold S_law
    refine wf_mkF ?_
    rw [bq_law]
    show Wp _ [some (.scr (ns.map D.int)), none, none, none, none, none, none, none, none] _
    have pl := plain_ints ns
    refine wp_seq fun K k1 k2 k3 k4 => ?_
    simp [Wp, mkF, reFrz, seq, Pm.ite, rtn, mov, asg, drp, sNx, bnd, Pm.bin, Pm.un, app, aCons, aNil, idx, loc, con, Pm.ret, peek1, peeks, itemOf, on2I, iAdd, iSub, iGt, iGe, iLt, iLe, iDiv, iMod, use1, useL, gI, gN, tst, andT, orT, notT, andE, orE, notE, ifE, ixN, D.frz, D.plain, plainL, argsBack, opLen, opAbs, opInt1, opNeg, disp, cap, callF, takes, puts, selA, sel, aApp, par, gT, gsC, gs0, appF, opDivmod, frzL, plainL, e_pen, ep, pl]
    refine k1 _ ?_
    clear k1 k2 k3 k4 K
    refine wp_seq fun K0 j1 j2 j3 j4 => ?_
    have hsrc : srcR1 (aCons (con (.int 6)) aNil) [some (.scr (ns.map D.int)), some (.node true .lst z0), none, none, none, none, none, none, none] = .ok (rangeD 0 6) [some (.scr (ns.map D.int)), some (.node true .lst z0), none, none, none, none, none, none, none] := src_r1 (es := [.val (.int 6)]) (n := 6) rfl rfl (by decide)
    refine wp_for hsrc (fun j ρ => ∃ (z : List D) (x2 x3 x4 x5 x6 x7 x8 : Option D), ρ = [some (.scr (ns.map D.int)), some (.node true .lst z), x2, x3, x4, x5, x6, x7, x8] ∧ Pen ns (0 + 2000 * j) (.node true .lst z)) ⟨z0, none, none, none, none, none, none, none, rfl, p0.mono (by omega)⟩ ?_ ?_
    · rintro j d ρ hd ⟨z, x2, x3, x4, x5, x6, x7, x8, rfl, hp⟩
      obtain ⟨hj, rfl⟩ := range_get hd
      refine ⟨_, rfl, ?_⟩
      exact turn_ok hl hp (by omega) fun z' x3 x4 x5 x6 x7 x8 p' => ⟨z', _, x3, x4, x5, x6, x7, x8, rfl, p'.mono (by omega)⟩
    · rintro ρ ⟨z, x2, x3, x4, x5, x6, x7, x8, rfl, -⟩
      refine j1 _ ?_
      clear j1 j2 j3 j4 K0 hsrc
      refine wp_end fun K k1 k2 k3 k4 => ?_
      simp [Wp, mkF, reFrz, seq, Pm.ite, rtn, mov, asg, drp, sNx, bnd, Pm.bin, Pm.un, app, aCons, aNil, idx, loc, con, Pm.ret, peek1, peeks, itemOf, on2I, iAdd, iSub, iGt, iGe, iLt, iLe, iDiv, iMod, use1, useL, gI, gN, tst, andT, orT, notT, andE, orE, notE, ifE, ixN, D.frz, D.plain, plainL, argsBack, opLen, opAbs, opInt1, opNeg, disp, cap, callF, takes, puts, selA, sel, aApp, par, gT, gsC, gs0, appF, opDivmod, frzL, plainL]
      exact k2 _ _ ⟨[.scr (ns.map D.int)], by simp [argsBack, reFrz, D.plain, pl], rfl⟩
  obtain ⟨d, as, e, rfl⟩ := hw
  exact ⟨as, e⟩
end Pk52
open PySem PySem.W PyProof.Rows
set_option maxHeartbeats 0 in
theorem PySem.Challenge.cw_wearbinds_k52_blocks_that_are_refused_holds : PySem.Challenge.rw_wearbinds_k52_blocks_that_are_refused.Holds := by
  w_on; o_law; k_head; (case hw => w_witness2)
  k_fill
  refine Pm.walkT (l := PySem.Challenge.rw_wearbinds_k52_blocks_that_are_refused) (n := 63) (k := 12) (x := "_law_script") (g := Pk52.S_law) rfl (by decide) rfl ⟨rfl, by decide, by decide⟩ (by intro w h Y; first | exact PySem.W.kIn_of Y | exact PySem.W.km_in_of Y) (fun w => by kernel_rfl) ?F Pk52.law_ok
  case F =>
    intro w mg fa h KX G hmg
    refine' Pk52.all_mk KX G hmg ?aK_Place ?pg_Place ?hd_Place ?po_Place ?sa_Place ?mk_Place ?kc_Place ?aK_Repeated ?pg_Repeated ?hd_Repeated ?po_Repeated ?sa_Repeated ?mk_Repeated ?kc_Repeated ?nf_Place_first_strength ?nf_Place_first_use ?nf_Place_loss ?nf_Place_mark ?nf_Place_uses ?nf_Repeated_origin ?nf_Repeated_pattern ?nf_Repeated_places ?nf_Repeated_repetitions ?ca_Repeated_MOST_TIMES ?cg_Repeated_MOST_TIMES ?a0 ?l0 ?c0 ?k0 ?a1 ?l1 ?c1 ?k1 ?a2 ?l2 ?c2 ?k2 ?a3 ?l3 ?c3 ?k3 ?a4 ?l4 ?c4 ?k4 ?a5 ?l5 ?c5 ?k5 ?a6 ?l6 ?c6 ?k6 ?a7 ?l7 ?c7 ?k7 ?a8 ?l8 ?c8 ?k8 ?a9 ?i9 ?l9 ?c9 ?k9 ?a10 ?l10 ?c10 ?k10 ?a11 ?r11 ?g11 ?w11 ?l11 ?c11 ?k11 ?a12 ?l12 ?c12 ?k12 ?a13 ?l13 ?c13 ?k13 ?a14 ?r14 ?g14 ?w14 ?l14 ?c14 ?k14 ?a15 ?i15 ?l15 ?c15 ?k15 ?a16 ?r16 ?g16 ?w16 ?i16 ?l16 ?c16 ?k16 ?a17 ?l17 ?c17 ?k17 ?t17 ?z_KeyError ?z_LookupError ?z_ValueError ?z_abs ?z_bool ?z_enumerate ?z_int ?z_isinstance ?z_len ?z_list ?z_range ?z_repr ?z_sorted ?z_tuple ?aC_InvalidTable ?ga_InvalidTable ?gg_InvalidTable ?eC_InvalidTable ?hC_InvalidTable ?ca_InvalidTable ?mo_InvalidTable ?tC_InvalidTable ?aC_InvalidTimes ?ga_InvalidTimes ?gg_InvalidTimes ?eC_InvalidTimes ?hC_InvalidTimes ?ca_InvalidTimes ?mo_InvalidTimes ?tC_InvalidTimes ?aC_UnknownOperator ?ga_UnknownOperator ?gg_UnknownOperator ?eC_UnknownOperator ?hC_UnknownOperator ?ca_UnknownOperator ?mo_UnknownOperator ?tC_UnknownOperator ?aC_WearError ?ga_WearError ?gg_WearError ?eC_WearError ?hC_WearError ?ca_WearError ?mo_WearError ?tC_WearError ?spX ?tkX ?xL_InvalidTimes ?sa_InvalidTimes ?kC_InvalidTimes ?no_InvalidTimes ?iC_InvalidTimes ?tI_InvalidTimes ?il_InvalidTimes ?ic_InvalidTimes ?ik_InvalidTimes ?xL_UnknownOperator ?sa_UnknownOperator ?kC_UnknownOperator ?no_UnknownOperator ?iC_UnknownOperator ?tI_UnknownOperator ?il_UnknownOperator ?ic_UnknownOperator ?ik_UnknownOperator ?s_InvalidTimes_UnknownOperator ?s_InvalidTimes_WearError ?s_UnknownOperator_UnknownOperator ?s_UnknownOperator_WearError ?nb_InvalidTimes_value ?nb_UnknownOperator_letter ?kt_InvalidTimes_InvalidTable ?kt_InvalidTimes_InvalidTimes ?kt_InvalidTimes_KeyError ?kt_InvalidTimes_LookupError ?kt_InvalidTimes_UnknownOperator ?kt_InvalidTimes_ValueError ?kt_UnknownOperator_InvalidTable ?kt_UnknownOperator_InvalidTimes ?kt_UnknownOperator_KeyError ?kt_UnknownOperator_LookupError ?kt_UnknownOperator_UnknownOperator ?kt_UnknownOperator_ValueError ?kn_InvalidTimes ?kn_KeyError ?kn_UnknownOperator ?kn_ValueError
    (case aK_Place => k_is); (case pg_Place => k_is); (case hd_Place => k_is); (case po_Place => k_is); (case sa_Place => k_is); (case mk_Place => k_is); (case kc_Place => k_is); (case aK_Repeated => k_is); (case pg_Repeated => k_is); (case hd_Repeated => k_is); (case po_Repeated => k_is); (case sa_Repeated => k_is); (case mk_Repeated => k_is); (case kc_Repeated => k_is); (case nf_Place_first_strength => k_is); (case nf_Place_first_use => k_is); (case nf_Place_loss => k_is); (case nf_Place_mark => k_is); (case nf_Place_uses => k_is); (case nf_Repeated_origin => k_is); (case nf_Repeated_pattern => k_is); (case nf_Repeated_places => k_is); (case nf_Repeated_repetitions => k_is); (case ca_Repeated_MOST_TIMES => k_is); (case cg_Repeated_MOST_TIMES => k_is); (case a0 => k_is); (case l0 => k_is); (case c0 => k_is); (case k0 => k_is); (case a1 => k_is); (case l1 => k_is); (case c1 => k_is); (case k1 => k_is); (case a2 => k_is); (case l2 => k_is); (case c2 => k_is); (case k2 => k_is); (case a3 => k_is); (case l3 => k_is); (case c3 => k_is); (case k3 => k_is); (case a4 => k_is); (case l4 => k_is); (case c4 => k_is); (case k4 => k_is); (case a5 => k_is); (case l5 => k_is); (case c5 => k_is); (case k5 => k_is); (case a6 => k_is); (case l6 => k_is); (case c6 => k_is); (case k6 => k_is); (case a7 => k_is); (case l7 => k_is); (case c7 => k_is); (case k7 => k_is); (case a8 => k_is); (case l8 => k_is); (case c8 => k_is); (case k8 => k_is); (case a9 => k_is); (case i9 => k_is); (case l9 => k_is); (case c9 => k_is); (case k9 => k_is); (case a10 => k_is); (case l10 => k_is); (case c10 => k_is); (case k10 => k_is); (case a11 => k_is); (case r11 => k_is); (case g11 => k_is); (case w11 => k_is); (case l11 => k_is); (case c11 => k_is); (case k11 => k_is); (case a12 => k_is); (case l12 => k_is); (case c12 => k_is); (case k12 => k_is); (case a13 => k_is); (case l13 => k_is); (case c13 => k_is); (case k13 => k_is); (case a14 => k_is); (case r14 => k_is); (case g14 => k_is); (case w14 => k_is); (case l14 => k_is); (case c14 => k_is); (case k14 => k_is); (case a15 => k_is); (case i15 => k_is); (case l15 => k_is); (case c15 => k_is); (case k15 => k_is); (case a16 => k_is); (case r16 => k_is); (case g16 => k_is); (case w16 => k_is); (case i16 => k_is); (case l16 => k_is); (case c16 => k_is); (case k16 => k_is); (case a17 => k_is); (case l17 => k_is); (case c17 => k_is); (case k17 => k_is); (case t17 => kernel_rfl); (case z_KeyError => k_is); (case z_LookupError => k_is); (case z_ValueError => k_is); (case z_abs => k_is); (case z_bool => k_is); (case z_enumerate => k_is); (case z_int => k_is); (case z_isinstance => k_is); (case z_len => k_is); (case z_list => k_is); (case z_range => k_is); (case z_repr => k_is); (case z_sorted => k_is); (case z_tuple => k_is); (case aC_InvalidTable => first | k_is | rfl); (case ga_InvalidTable => first | k_is | rfl); (case gg_InvalidTable => first | k_is | rfl); (case eC_InvalidTable => first | k_is | rfl); (case hC_InvalidTable => first | k_is | rfl); (case ca_InvalidTable => first | k_is | rfl); (case mo_InvalidTable => first | k_is | rfl); (case tC_InvalidTable => first | k_is | rfl); (case aC_InvalidTimes => first | k_is | rfl); (case ga_InvalidTimes => first | k_is | rfl); (case gg_InvalidTimes => first | k_is | rfl); (case eC_InvalidTimes => first | k_is | rfl); (case hC_InvalidTimes => first | k_is | rfl); (case ca_InvalidTimes => first | k_is | rfl); (case mo_InvalidTimes => first | k_is | rfl); (case tC_InvalidTimes => first | k_is | rfl); (case aC_UnknownOperator => first | k_is | rfl); (case ga_UnknownOperator => first | k_is | rfl); (case gg_UnknownOperator => first | k_is | rfl); (case eC_UnknownOperator => first | k_is | rfl); (case hC_UnknownOperator => first | k_is | rfl); (case ca_UnknownOperator => first | k_is | rfl); (case mo_UnknownOperator => first | k_is | rfl); (case tC_UnknownOperator => first | k_is | rfl); (case aC_WearError => first | k_is | rfl); (case ga_WearError => first | k_is | rfl); (case gg_WearError => first | k_is | rfl); (case eC_WearError => first | k_is | rfl); (case hC_WearError => first | k_is | rfl); (case ca_WearError => first | k_is | rfl); (case mo_WearError => first | k_is | rfl); (case tC_WearError => first | k_is | rfl); (case spX => first | k_is | rfl); (case tkX => first | k_is | rfl); (case xL_InvalidTimes => first | k_is | rfl); (case sa_InvalidTimes => first | k_is | rfl); (case kC_InvalidTimes => first | k_is | rfl); (case no_InvalidTimes => first | k_is | rfl); (case iC_InvalidTimes => first | k_is | rfl); (case tI_InvalidTimes => first | k_is | rfl); (case il_InvalidTimes => first | k_is | rfl); (case ic_InvalidTimes => first | k_is | rfl); (case ik_InvalidTimes => first | k_is | rfl); (case xL_UnknownOperator => first | k_is | rfl); (case sa_UnknownOperator => first | k_is | rfl); (case kC_UnknownOperator => first | k_is | rfl); (case no_UnknownOperator => first | k_is | rfl); (case iC_UnknownOperator => first | k_is | rfl); (case tI_UnknownOperator => first | k_is | rfl); (case il_UnknownOperator => first | k_is | rfl); (case ic_UnknownOperator => first | k_is | rfl); (case ik_UnknownOperator => first | k_is | rfl); (case s_InvalidTimes_UnknownOperator => first | k_is | rfl); (case s_InvalidTimes_WearError => first | k_is | rfl); (case s_UnknownOperator_UnknownOperator => first | k_is | rfl); (case s_UnknownOperator_WearError => first | k_is | rfl); (case nb_InvalidTimes_value => first | k_is | rfl); (case nb_UnknownOperator_letter => first | k_is | rfl); (case kt_InvalidTimes_InvalidTable => kit_is); (case kt_InvalidTimes_InvalidTimes => kit_is); (case kt_InvalidTimes_KeyError => kit_is); (case kt_InvalidTimes_LookupError => kit_is); (case kt_InvalidTimes_UnknownOperator => kit_is); (case kt_InvalidTimes_ValueError => kit_is); (case kt_UnknownOperator_InvalidTable => kit_is); (case kt_UnknownOperator_InvalidTimes => kit_is); (case kt_UnknownOperator_KeyError => kit_is); (case kt_UnknownOperator_LookupError => kit_is); (case kt_UnknownOperator_UnknownOperator => kit_is); (case kt_UnknownOperator_ValueError => kit_is); (case kn_InvalidTimes => kit_is); (case kn_KeyError => kit_is); (case kn_UnknownOperator => kit_is); (case kn_ValueError => kit_is)

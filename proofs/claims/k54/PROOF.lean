import PyProof.Rows.All
import Wide.All
import OpenK.AllK
import Wide.FinOn
import HandS.ForMost
import HandS.Exc
import HandS.ExcOwn
import HandS.Wide
import HandS.IsInst
import HandS.TupAny
import HandS.SortInts
import HandS.Zip
import HandS.Flow
import HandS.Style
import HandS.Star
import HandS.Set
import HandS.SetFor
import HandS.Strs
import HandS.Replace
import HandS.ReplaceLit
import HandS.Iter
import HandS.Text
import HandS.Lambda
import KE.KNest
import PyProof.EqKinds
import PyProof.FactsAll.dict_1
import HandS.ReplaceList
import HandS.TupMul
import HandS.Conv
import PyProof.ListStr
import PyProof.EqAt
import PyProof.TupleCall
import HandS.ExcInit
import PyProof.ExcBaseAll.OverflowError
import PyProof.ExcBaseAll.IndexError
import PyProof.ExcBaseAll.LookupError
import PyProof.ExcBaseAll.ValueError
import HandS.Words
import HandS.ExcValue
import HandS.ExcField
import KE.KExcIs
import HandS.More
import HandS.Zip0
import PyProof.EnumMake
import PyProof.Draws
import HandS.FStr
import HandS.ExcIs
import KE.IntTextLaws
import HandS.EndTab
import KE.KNestM
import KE.KTupSum
import HandS.TupLe
import HandS.DictTup
import HandS.SortRule
import HandS.TryOnly
import HandS.DictComp
import HandS.Property
import OpenK.KMore
import KE.IntTextText
import HandS.ClsMeth
import KE.KMinKey
import KE.DataMinMax
import KE.DataMinKey
import HandS.Defaults
import PySem.Challenge.RW_wearbinds_k54_whole_blocks_that_lose_ali
set_option Elab.async false
set_option linter.all false
set_option maxRecDepth 100000
namespace Pm
open PySem PySem.Spec PyProof.Rows L2
abbrev Sl := List (Option V)
/-- no table of code objects -/
def NT (o : HO) : Prop := ∀ ps, o ≠ .tbl ps
theorem nt_lst {ys : List V} : NT (.lst ys) := fun _ e => nomatch e
theorem nt_tup {ys : List V} : NT (.tup ys) := fun _ e => nomatch e
theorem nt_frz {o : Obj} {u : HO} : NT (.frz o u) := fun _ e => nomatch e
theorem nt_dK {es : List (Key × V)} : NT (.dK es) := fun _ e => nomatch e
theorem nt_xd {es : List (Str × V)} : NT (.xd es) := fun _ e => nomatch e
theorem nt_ins {C dx : Addr} {fs : List (Str × V)} : NT (.ins C dx fs) := fun _ e => nomatch e
theorem nt_ext {p : Heap → Prop} : NT (.ext p) := fun _ e => by cases e
/-- what may be owned -/
def NW (o : HO) : Prop := NT o ∧ ∀ φ, o ≠ .ext φ
theorem nt_or (o : HO) : (∃ ps, o = .tbl ps) ∨ NT o := by
  by_cases h : ∃ ps, o = .tbl ps
  · exact .inl h
  · exact .inr fun ps e => h ⟨ps, e⟩
/-- all that is known stays, tables apart -/
structure Sam (Z H : Hp) : Prop where
  get : ∀ a o, Z a = some o → NT o → H a = some o
theorem _root_.L2.Same.sam {Z H : Hp} (h : L2.Same Z H) : Sam Z H := ⟨fun a o e _ => h a o e⟩
instance {Z H : Hp} : Coe (L2.Same Z H) (Sam Z H) := ⟨L2.Same.sam⟩
theorem Sam.refl (Z : Hp) : Sam Z Z := ⟨fun _ _ e _ => e⟩
theorem Sam.trans {Z Z1 Z2 : Hp} (a : Sam Z Z1) (b : Sam Z1 Z2) : Sam Z Z2 := ⟨fun x o e n => b.get x o (a.get x o e n) n⟩
theorem Sam.seq {K : PySem.W.Frag} {H H' : Hp} {a : Addr} {xs : List V} (e : Sam H H') (h : SqL K H a xs) : SqL K H' a xs := by
  rcases h with (h | ⟨o, h⟩) | h
  · exact .inl (.inl (e.get _ _ h nt_lst))
  · exact .inl (.inr ⟨o, e.get _ _ h nt_frz⟩)
  · exact .inr h
/-- the kind of a compound thing -/
inductive Kd where
  | tup | lst | scr | dct (ks : List Key) | obj (C : Str) (fs : List Str) | ins (C : Str) (fs : List Str)
  deriving DecidableEq
/-- data: an owned node (true) may be changed in place, a frozen one is shared and stays -/
inductive D where
  | non | bl (b : Bool) | int (i : Int) | str (x : Str) | op (v : V)
  | node (o : Bool) (k : Kd) (xs : List D)
abbrev D.tup (xs : List D) : D := .node false .tup xs
abbrev D.lst (o : Bool) (xs : List D) : D := .node o .lst xs
abbrev D.scr (xs : List D) : D := .node false .scr xs
abbrev D.dct (o : Bool) (ks : List Key) (xs : List D) : D := .node o (.dct ks) xs
mutual
def D.plain : D → Bool
  | .node _ .tup xs => plainL xs
  | .node o _ xs => !o && plainL xs
  | _ => true
def plainL : List D → Bool
  | [] => true
  | d :: ds => d.plain && plainL ds
end
mutual
def D.frz : D → D
  | .node o .tup xs => .node o .tup (frzL xs)
  | .node _ k xs => .node false k (frzL xs)
  | d => d
def frzL : List D → List D
  | [] => []
  | d :: ds => d.frz :: frzL ds
end
theorem frzL_map : ∀ ds : List D, frzL ds = ds.map D.frz
  | [] => rfl
  | d :: ds => by rw [frzL, frzL_map ds, List.map_cons]
theorem plainL_all : ∀ ds : List D, plainL ds = ds.all D.plain
  | [] => rfl
  | d :: ds => by rw [plainL, plainL_all ds, List.all_cons]
mutual
theorem D.frz_of_plain : ∀ d : D, d.plain = true → d.frz = d
  | .non, _ => rfl
  | .bl _, _ => rfl
  | .int _, _ => rfl
  | .str _, _ => rfl
  | .op _, _ => rfl
  | .node o .tup xs, h => by
    rw [D.plain] at h
    rw [D.frz, frzL_of_plain xs h]
  | .node o .lst xs, h => by
    rw [D.plain, Bool.and_eq_true, Bool.not_eq_true'] at h
    · rw [D.frz, frzL_of_plain xs h.2, h.1]; simp
    · simp
  | .node o .scr xs, h => by
    rw [D.plain, Bool.and_eq_true, Bool.not_eq_true'] at h
    · rw [D.frz, frzL_of_plain xs h.2, h.1]; simp
    · simp
  | .node o (.dct _) xs, h => by
    rw [D.plain, Bool.and_eq_true, Bool.not_eq_true'] at h
    · rw [D.frz, frzL_of_plain xs h.2, h.1]; simp
    · simp
  | .node o (.obj _ _) xs, h => by
    rw [D.plain, Bool.and_eq_true, Bool.not_eq_true'] at h
    · rw [D.frz, frzL_of_plain xs h.2, h.1]; simp
    · simp
  | .node o (.ins _ _) xs, h => by
    rw [D.plain, Bool.and_eq_true, Bool.not_eq_true'] at h
    · rw [D.frz, frzL_of_plain xs h.2, h.1]; simp
    · simp
theorem frzL_of_plain : ∀ ds : List D, plainL ds = true → frzL ds = ds
  | [], _ => rfl
  | d :: ds, h => by
    rw [plainL, Bool.and_eq_true] at h
    rw [frzL, D.frz_of_plain d h.1, frzL_of_plain ds h.2]
end
mutual
theorem D.plain_frz : ∀ d : D, d.frz.plain = true
  | .non => rfl
  | .bl _ => rfl
  | .int _ => rfl
  | .str _ => rfl
  | .op _ => rfl
  | .node o .tup xs => by rw [D.frz, D.plain, plainL_frz xs]
  | .node o .lst xs => by simp [D.frz, D.plain, plainL_frz xs]
  | .node o .scr xs => by simp [D.frz, D.plain, plainL_frz xs]
  | .node o (.dct _) xs => by simp [D.frz, D.plain, plainL_frz xs]
  | .node o (.obj _ _) xs => by simp [D.frz, D.plain, plainL_frz xs]
  | .node o (.ins _ _) xs => by simp [D.frz, D.plain, plainL_frz xs]
theorem plainL_frz : ∀ ds : List D, plainL (frzL ds) = true
  | [] => rfl
  | d :: ds => by
    rw [frzL, plainL, D.plain_frz d, plainL_frz ds]
    rfl
end
abbrev Fp := Addr → Prop
abbrev Fp0 : Fp := fun _ => False
/-- the class of a name of the module -/
def reg (K : PySem.W.Frag) (n : Str) : Option Addr := match PySem.W.nsIn K PySem.mainGlobals n with
  | some (some (.ref C)) => some C
  | _ => none
theorem reg_of {K : PySem.W.Frag} {n : Str} {C : Addr} (h : PySem.W.nsIn K PySem.mainGlobals n = some (some (.ref C))) : reg K n = some C := by
  unfold reg
  rw [h]
/-- a thing at its address, as tracked -/
def Cell (K : PySem.W.Frag) (H : Hp) (a : Addr) (ys : List V) : Kd → Prop
  | .tup => H a = some (.tup ys)
  | .lst => H a = some (.lst ys)
  | .scr => False
  | .dct ks => ks.length = ys.length ∧ H a = some (.dK (ks.zip ys))
  | .obj _ _ => False
  | .ins n fs => ∃ C dx : Addr, reg K n = some C ∧ fs.length = ys.length ∧ H a = some (.ins C dx (fs.zip ys))
/-- at a: an exception of the class at C, its dict at dd -/
def XoP (a C : Addr) (dd : Option Addr) : Heap → Prop := fun h => ∃ (oe : Obj) (vs : Array Value), h.get? a = some oe ∧ oe.cls = .ref C ∧ oe.dict = dd ∧ oe.data = .fields vs
/-- an exception that was caught: its class by name, its fields -/
def ObjAt (K : PySem.W.Frag) (Z : Hp) (a : Addr) (ys : List V) (n : Str) (fs : List Str) : Prop :=
  ∃ (C : Addr) (dd : Option Addr), reg K n = some C ∧ Z a = some (.ext (XoP a C dd)) ∧ ((dd = none ∧ fs = [] ∧ ys = []) ∨ ∃ d, dd = some d ∧ fs.length = ys.length ∧ Z d = some (.xd (fs.zip ys)))
/-- it has no dict of its own -/
def DN (K : PySem.W.Frag) (Z : Hp) (a : Addr) : Prop := (∃ o u, o.dict = none ∧ Z a = some (.frz o u)) ∨ ∃ o, K.lookup a = some o ∧ o.dict = none
theorem DN.sam {K : PySem.W.Frag} {Z Z' : Hp} {a : Addr} (h : DN K Z a) (e : Sam Z Z') : DN K Z' a := by
  rcases h with ⟨o, u, h1, h2⟩ | h
  · exact .inl ⟨o, u, h1, e.get _ _ h2 nt_frz⟩
  · exact .inr h
theorem DN.same {K : PySem.W.Frag} {Z Z' : Hp} {a : Addr} (h : DN K Z a) (e : L2.Same Z Z') : DN K Z' a := h.sam e.sam
/-- a frozen thing as it is read -/
def Frd (K : PySem.W.Frag) (Z : Hp) (a : Addr) (ys : List V) : Kd → Prop
  | .tup => SqT K Z a ys
  | .scr => SqL K Z a ys
  | .obj n fs => ObjAt K Z a ys n fs
  | k => Cell K Z a ys k
mutual
def Rep (K : PySem.W.Frag) (Z H : Hp) : D → V → Fp → Prop
  | .non, v, _ => v = .non
  | .bl b, v, _ => v = .bl b
  | .int i, v, _ => v = .int i
  | .str x, v, _ => v = .str x
  | .op u, v, _ => v = u
  | .node false k ds, v, S => ∃ a ys, v = .ref a ∧ Frd K Z a ys k ∧ RepL K Z H ds ys S
  | .node true .tup ds, v, S => ∃ a ys, v = .ref a ∧ (SqT K Z a ys ∧ DN K Z a) ∧ RepL K Z H ds ys S
  | .node true k ds, v, S => ∃ a ys S', v = .ref a ∧ Cell K H a ys k ∧ S a ∧ ¬ S' a ∧ (∀ b, S' b → S b) ∧ RepL K Z H ds ys S'
def RepL (K : PySem.W.Frag) (Z H : Hp) : List D → List V → Fp → Prop
  | [], [], _ => True
  | d :: ds, v :: vs, S => ∃ S1 S2 : Fp, (∀ a, S1 a → S a) ∧ (∀ a, S2 a → S a) ∧ (∀ a, S1 a → S2 a → False) ∧ Rep K Z H d v S1 ∧ RepL K Z H ds vs S2
  | _, _, _ => False
end
section
variable {K : PySem.W.Frag} {Z Z' H H' : Hp} {S S' : Fp}
theorem Cell.sam {a : Addr} {ys : List V} {k : Kd} (h : Cell K H a ys k) (e : ∀ o, H a = some o → NT o → H' a = some o) : Cell K H' a ys k := by
  cases k with
  | tup => exact e _ h nt_tup
  | lst => exact e _ h nt_lst
  | scr => exact h
  | dct ks => exact ⟨h.1, e _ h.2 nt_dK⟩
  | obj C fs => exact h
  | ins n fs => obtain ⟨C, dx, h1, h2, h3⟩ := h; exact ⟨C, dx, h1, h2, e _ h3 nt_ins⟩
theorem SqT.sam {a : Addr} {ys : List V} (h : SqT K Z a ys) (e : Sam Z Z') : SqT K Z' a ys := by
  rcases h with (h | ⟨o, h⟩) | h
  · exact .inl (.inl (e.get _ _ h nt_tup))
  · exact .inl (.inr ⟨o, e.get _ _ h nt_frz⟩)
  · exact .inr h
theorem Frd.sam {a : Addr} {ys : List V} {k : Kd} (h : Frd K Z a ys k) (e : Sam Z Z') : Frd K Z' a ys k := by
  cases k with
  | tup => exact SqT.sam h e
  | lst => exact e.get _ _ h nt_lst
  | scr => exact Sam.seq e h
  | dct ks => exact ⟨h.1, e.get _ _ h.2 nt_dK⟩
  | obj n fs =>
    obtain ⟨C, dd, h1, h2, h3⟩ := h
    refine ⟨C, dd, h1, e.get _ _ h2 nt_ext, ?_⟩
    rcases h3 with h3 | ⟨d, r1, r2, r3⟩
    · exact .inl h3
    · exact .inr ⟨d, r1, r2, e.get _ _ r3 nt_xd⟩
  | ins n fs => obtain ⟨C, dx, h1, h2, h3⟩ := h; exact ⟨C, dx, h1, h2, e.get _ _ h3 nt_ins⟩
theorem Cell.same {a : Addr} {ys : List V} {k : Kd} (h : Cell K H a ys k) (e : ∀ o, H a = some o → H' a = some o) : Cell K H' a ys k := by
  cases k with
  | tup => exact e _ h
  | lst => exact e _ h
  | scr => exact h
  | dct ks => exact ⟨h.1, e _ h.2⟩
  | obj C fs => exact h
  | ins n fs => obtain ⟨C, dx, h1, h2, h3⟩ := h; exact ⟨C, dx, h1, h2, e _ h3⟩
theorem SqT.same {a : Addr} {ys : List V} (h : SqT K Z a ys) (e : Same Z Z') : SqT K Z' a ys := by
  rcases h with (h | ⟨o, h⟩) | h
  · exact .inl (.inl (e _ _ h))
  · exact .inl (.inr ⟨o, e _ _ h⟩)
  · exact .inr h
theorem Frd.same {a : Addr} {ys : List V} {k : Kd} (h : Frd K Z a ys k) (e : Same Z Z') : Frd K Z' a ys k := by
  cases k with
  | tup => exact SqT.same h e
  | lst => exact e _ _ h
  | scr => exact Same.seq e h
  | dct ks => exact ⟨h.1, e _ _ h.2⟩
  | obj n fs =>
    obtain ⟨C, dd, h1, h2, h3⟩ := h
    refine ⟨C, dd, h1, e _ _ h2, ?_⟩
    rcases h3 with h3 | ⟨d, r1, r2, r3⟩
    · exact .inl h3
    · exact .inr ⟨d, r1, r2, e _ _ r3⟩
  | ins n fs => obtain ⟨C, dx, h1, h2, h3⟩ := h; exact ⟨C, dx, h1, h2, e _ _ h3⟩
theorem rep_own {k : Kd} {ds : List D} {v : V} (hk : k ≠ .tup) : Rep K Z H (.node true k ds) v S = (∃ a ys S', v = .ref a ∧ Cell K H a ys k ∧ S a ∧ ¬ S' a ∧ (∀ b, S' b → S b) ∧ RepL K Z H ds ys S') := by
  cases k <;> first | exact absurd rfl hk | rfl
theorem plain_own {k : Kd} {ds : List D} (hk : k ≠ .tup) : D.plain (.node true k ds) = false := by
  cases k <;> first | exact absurd rfl hk | rfl
theorem plain_shr {k : Kd} {ds : List D} : D.plain (.node false k ds) = plainL ds := by
  cases k <;> simp [D.plain]
theorem frz_own {o : Bool} {k : Kd} {ds : List D} (hk : k ≠ .tup) : D.frz (.node o k ds) = .node false k (frzL ds) := by
  cases k <;> first | exact absurd rfl hk | rfl
theorem frz_shr {k : Kd} {ds : List D} : D.frz (.node false k ds) = .node false k (frzL ds) := by
  cases k <;> rfl
theorem Cell.frd {a : Addr} {ys : List V} {k : Kd} (h : Cell K Z a ys k) : Frd K Z a ys k := by
  cases k with
  | tup => exact SqT.of h
  | lst => exact h
  | scr => exact h.elim
  | dct ks => exact h
  | obj C fs => exact h.elim
  | ins n fs => exact h
mutual
/-- the data stay where what they lean on stays -/
theorem Rep.mv : ∀ {d : D} {v : V} {S S' : Fp}, Rep K Z H d v S → Same Z Z' → (∀ a o, S a → H a = some o → NT o → H' a = some o) → (∀ a, S a → S' a) → Rep K Z' H' d v S'
  | .non, _, _, _, h, _, _, _ => h
  | .bl _, _, _, _, h, _, _, _ => h
  | .int _, _, _, _, h, _, _, _ => h
  | .str _, _, _, _, h, _, _, _ => h
  | .op _, _, _, _, h, _, _, _ => h
  | .node false k ds, v, S, S', h, z, k1, m => by
    obtain ⟨a, ys, e, c, r⟩ := h
    exact ⟨a, ys, e, c.same z, RepL.mv r z k1 m⟩
  | .node true k ds, v, S, S', h, z, k1, m => by
    by_cases hk : k = .tup
    · subst hk
      obtain ⟨a, ys, e, c, r⟩ := h
      exact ⟨a, ys, e, ⟨Pm.SqT.same c.1 z, c.2.same z⟩, RepL.mv r z k1 m⟩
    rw [rep_own hk] at h ⊢
    obtain ⟨a, ys, T, e, c, sa, na, sub, r⟩ := h
    exact ⟨a, ys, T, e, c.sam fun o q => k1 a o sa q, m a sa, na, fun b hb => m b (sub b hb), RepL.mv r z (fun b o hb => k1 b o (sub b hb)) fun _ x => x⟩
theorem RepL.mv : ∀ {ds : List D} {vs : List V} {S S' : Fp}, RepL K Z H ds vs S → Same Z Z' → (∀ a o, S a → H a = some o → NT o → H' a = some o) → (∀ a, S a → S' a) → RepL K Z' H' ds vs S'
  | [], [], _, _, _, _, _, _ => trivial
  | [], _ :: _, _, _, h, _, _, _ => h.elim
  | _ :: _, [], _, _, h, _, _, _ => h.elim
  | d :: ds, v :: vs, S, S', h, z, k1, m => by
    obtain ⟨S1, S2, s1, s2, dj, r, q⟩ := h
    exact ⟨S1, S2, fun b hb => m b (s1 b hb), fun b hb => m b (s2 b hb), dj, Rep.mv r z (fun b o hb => k1 b o (s1 b hb)) fun _ x => x, RepL.mv q z (fun b o hb => k1 b o (s2 b hb)) fun _ x => x⟩
end
theorem Rep.move {d : D} {v : V} {S S' : Fp} (h : Rep K Z H d v S) (z : Same Z Z') (k : ∀ a o, S a → H a = some o → H' a = some o) (m : ∀ a, S a → S' a) : Rep K Z' H' d v S' := Rep.mv h z (fun a o s e _ => k a o s e) m
theorem RepL.move {ds : List D} {vs : List V} {S S' : Fp} (h : RepL K Z H ds vs S) (z : Same Z Z') (k : ∀ a o, S a → H a = some o → H' a = some o) (m : ∀ a, S a → S' a) : RepL K Z' H' ds vs S' := RepL.mv h z (fun a o s e _ => k a o s e) m
mutual
theorem Rep.plain : ∀ {d : D} {v : V} {S : Fp}, Rep K Z H d v S → d.plain = true → Rep K Z H' d v Fp0
  | .non, _, _, h, _ => h
  | .bl _, _, _, h, _ => h
  | .int _, _, _, h, _ => h
  | .str _, _, _, h, _ => h
  | .op _, _, _, h, _ => h
  | .node false k ds, v, S, h, p => by
    obtain ⟨a, ys, e, c, r⟩ := h
    rw [plain_shr] at p
    exact ⟨a, ys, e, c, RepL.plain r p⟩
  | .node true k ds, v, S, h, p => by
    by_cases hk : k = .tup
    · subst hk
      obtain ⟨a, ys, e, c, r⟩ := h
      rw [D.plain] at p
      exact ⟨a, ys, e, c, RepL.plain r p⟩
    rw [plain_own hk] at p
    exact absurd p (by decide)
theorem RepL.plain : ∀ {ds : List D} {vs : List V} {S : Fp}, RepL K Z H ds vs S → plainL ds = true → RepL K Z H' ds vs Fp0
  | [], [], _, _, _ => trivial
  | [], _ :: _, _, h, _ => h.elim
  | _ :: _, [], _, h, _ => h.elim
  | d :: ds, v :: vs, S, h, p => by
    obtain ⟨S1, S2, s1, s2, dj, r, q⟩ := h
    rw [plainL, Bool.and_eq_true] at p
    exact ⟨Fp0, Fp0, fun _ x => x, fun _ x => x, fun _ x _ => x, Rep.plain r p.1, RepL.plain q p.2⟩
end
/-- Z with what stands at S -/
noncomputable def thaw (Z H : Hp) (S : Fp) : Hp := fun a => open Classical in if S a then H a else Z a
theorem thaw_in {a : Addr} (h : S a) : thaw Z H S a = H a := by unfold thaw; rw [if_pos h]
theorem thaw_out {a : Addr} (h : ¬ S a) : thaw Z H S a = Z a := by unfold thaw; rw [if_neg h]
theorem thaw_same (sep : ∀ a, S a → Z a = none) : Same Z (thaw Z H S) := fun a o e => by
  by_cases h : S a
  · rw [sep a h] at e; cases e
  · rw [thaw_out h]; exact e
theorem thaw_le (s : Sam Z H) : Sam (thaw Z H S) H := ⟨fun a o e n => by
  by_cases h : S a
  · rw [thaw_in h] at e; exact e
  · rw [thaw_out h] at e; exact s.get _ _ e n⟩
mutual
theorem Rep.frz : ∀ {d : D} {v : V} {T : Fp}, Rep K Z H d v T → (∀ a, S a → Z a = none) → (∀ a, T a → S a) → Rep K (thaw Z H S) H' d.frz v Fp0
  | .non, _, _, h, _, _ => h
  | .bl _, _, _, h, _, _ => h
  | .int _, _, _, h, _, _ => h
  | .str _, _, _, h, _, _ => h
  | .op _, _, _, h, _, _ => h
  | .node false k ds, v, T, h, sep, m => by
    obtain ⟨a, ys, e, c, r⟩ := h
    rw [frz_shr]
    exact ⟨a, ys, e, c.same (thaw_same sep), RepL.frz r sep m⟩
  | .node true k ds, v, T, h, sep, m => by
    by_cases hk : k = .tup
    · subst hk
      obtain ⟨a, ys, e, c, r⟩ := h
      rw [D.frz]
      exact ⟨a, ys, e, ⟨Pm.SqT.same c.1 (thaw_same sep), c.2.same (thaw_same sep)⟩, RepL.frz r sep m⟩
    rw [rep_own hk] at h
    rw [frz_own hk]
    obtain ⟨a, ys, T', e, c, sa, na, sub, r⟩ := h
    exact ⟨a, ys, e, (c.same fun o q => by rw [thaw_in (m a sa)]; exact q).frd, RepL.frz r sep fun b hb => m b (sub b hb)⟩
theorem RepL.frz : ∀ {ds : List D} {vs : List V} {T : Fp}, RepL K Z H ds vs T → (∀ a, S a → Z a = none) → (∀ a, T a → S a) → RepL K (thaw Z H S) H' (frzL ds) vs Fp0
  | [], [], _, _, _, _ => trivial
  | [], _ :: _, _, h, _, _ => h.elim
  | _ :: _, [], _, h, _, _ => h.elim
  | d :: ds, v :: vs, T, h, sep, m => by
    obtain ⟨S1, S2, s1, s2, dj, r, q⟩ := h
    exact ⟨Fp0, Fp0, fun _ x => x, fun _ x => x, fun _ x _ => x, Rep.frz r sep fun b hb => m b (s1 b hb), RepL.frz q sep fun b hb => m b (s2 b hb)⟩
end
theorem rep_frd {b : Bool} {k : Kd} {ds : List D} {v : V} (h : Rep K Z H (D.frz (.node b k ds)) v S) : ∃ a ys, v = .ref a ∧ Frd K Z a ys k ∧ RepL K Z H (frzL ds) ys S := by
  by_cases hk : k = .tup
  · subst hk
    cases b with
    | false => exact h
    | true =>
      obtain ⟨a, ys, e, c, r⟩ := h
      exact ⟨a, ys, e, c.1, r⟩
  · rw [frz_own hk] at h
    exact h
/-- a tuple, no matter what is known of it -/
theorem rep_wk {b : Bool} {ds : List D} {v : V} (h : Rep K Z H (.node b .tup ds) v S) : Rep K Z H (.tup ds) v S := by
  cases b with
  | false => exact h
  | true =>
    obtain ⟨a, ys, e, c, r⟩ := h
    exact ⟨a, ys, e, c.1, r⟩
theorem rep_ref {b : Bool} {k : Kd} {ds : List D} {v : V} (h : Rep K Z H (.node b k ds) v S) : ∃ a, v = .ref a := by
  cases b with
  | false => obtain ⟨a, _, e, _⟩ := h; exact ⟨a, e⟩
  | true =>
    by_cases hk : k = .tup
    · subst hk
      obtain ⟨a, _, e, _⟩ := h; exact ⟨a, e⟩
    · rw [rep_own hk] at h
      obtain ⟨a, _, _, e, _⟩ := h; exact ⟨a, e⟩
theorem RepL.length : ∀ {ds : List D} {vs : List V} {S : Fp}, RepL K Z H ds vs S → ds.length = vs.length
  | [], [], _, _ => rfl
  | [], _ :: _, _, h => h.elim
  | _ :: _, [], _, h => h.elim
  | _ :: ds, _ :: vs, _, ⟨_, _, _, _, _, _, q⟩ => by rw [List.length_cons, List.length_cons, RepL.length q]
theorem RepL.get : ∀ {ds : List D} {vs : List V} {S : Fp} {i : Nat} {d : D}, RepL K Z H ds vs S → ds[i]? = some d → ∃ v, vs[i]? = some v ∧ Rep K Z H d v S
  | [], _, _, _, _, _, e => by simp at e
  | _ :: _, [], _, _, _, h, _ => h.elim
  | d :: ds, v :: vs, S, 0, d', h, e => by
    obtain ⟨S1, S2, s1, s2, dj, r, q⟩ := h
    simp only [List.getElem?_cons_zero, Option.some.injEq] at e
    subst e
    exact ⟨v, rfl, Rep.move r (Same.refl Z) (fun _ _ _ x => x) s1⟩
  | d :: ds, v :: vs, S, i + 1, d', h, e => by
    obtain ⟨S1, S2, s1, s2, dj, r, q⟩ := h
    simp only [List.getElem?_cons_succ] at e
    obtain ⟨u, hu, ru⟩ := RepL.get q e
    exact ⟨u, by simpa using hu, Rep.move ru (Same.refl Z) (fun _ _ _ x => x) s2⟩
theorem RepL.none_of {ds : List D} {vs : List V} {i : Nat} (h : RepL K Z H ds vs S) (e : ds[i]? = none) : vs[i]? = none := by
  rw [List.getElem?_eq_none_iff] at e ⊢
  rw [← h.length]; exact e
theorem RepL.append : ∀ {ds es : List D} {vs ws : List V} {S1 S2 T : Fp}, RepL K Z H ds vs S1 → RepL K Z H es ws S2 → (∀ a, S1 a → T a) → (∀ a, S2 a → T a) → (∀ a, S1 a → S2 a → False) → RepL K Z H (ds ++ es) (vs ++ ws) T
  | [], es, [], ws, S1, S2, T, _, h2, _, m2, _ => RepL.move h2 (Same.refl Z) (fun _ _ _ x => x) m2
  | [], _, _ :: _, _, _, _, _, h, _, _, _, _ => h.elim
  | _ :: _, _, [], _, _, _, _, h, _, _, _, _ => h.elim
  | d :: ds, es, v :: vs, ws, S1, S2, T, h, h2, m1, m2, dj => by
    obtain ⟨T1, T2, t1, t2, tj, r, q⟩ := h
    refine ⟨T1, fun a => T2 a ∨ S2 a, fun a x => m1 a (t1 a x), fun a x => x.elim (fun y => m1 a (t2 a y)) (m2 a), fun a x y => y.elim (tj a x) (dj a (t1 a x)), r, ?_⟩
    exact RepL.append (T := fun a => T2 a ∨ S2 a) q h2 (fun a x => Or.inl x) (fun a x => Or.inr x) fun a x y => dj a (t2 a x) y
/-- one item taken out of its place (an int stands there), the rest apart from it -/
theorem RepL.take : ∀ {ds : List D} {vs : List V} {S : Fp} {i : Nat} {d : D}, RepL K Z H ds vs S → ds[i]? = some d →
    ∃ v, ∃ S1 S2 : Fp, vs[i]? = some v ∧ (∀ a, S1 a → S a) ∧ (∀ a, S2 a → S a) ∧ (∀ a, S1 a → S2 a → False) ∧ Rep K Z H d v S1 ∧
      ∀ (Z' H' : Hp) (e : D) (w : V) (T1 T : Fp), Same Z Z' → (∀ a o, S2 a → H a = some o → H' a = some o) → Rep K Z' H' e w T1 → (∀ a, T1 a → T a) → (∀ a, S2 a → T a) → (∀ a, T1 a → S2 a → False) → RepL K Z' H' (ds.set i e) (vs.set i w) T
  | [], _, _, _, _, _, e => by simp at e
  | _ :: _, [], _, _, _, h, _ => h.elim
  | d :: ds, v :: vs, S, 0, d', h, e => by
    obtain ⟨S1, S2, s1, s2, dj, r, q⟩ := h
    simp only [List.getElem?_cons_zero, Option.some.injEq] at e
    subst e
    exact ⟨v, S1, S2, rfl, s1, s2, dj, r, fun Z' H' e w T1 T z k r' m1 m2 dj' => ⟨T1, S2, m1, m2, dj', r', RepL.move q z k fun _ x => x⟩⟩
  | d :: ds, v :: vs, S, i + 1, d', h, e => by
    obtain ⟨S1, S2, s1, s2, dj, r, q⟩ := h
    simp only [List.getElem?_cons_succ] at e
    obtain ⟨u, U1, U2, hu, u1, u2, uj, ru, f⟩ := RepL.take q e
    refine ⟨u, U1, fun a => S1 a ∨ U2 a, by simpa using hu, fun a x => s2 a (u1 a x), fun a x => x.elim (s1 a) fun y => s2 a (u2 a y), fun a x y => y.elim (fun z => dj a z (u1 a x)) (uj a x), ru, ?_⟩
    intro Z' H' e w T1 T z k r' m1 m2 dj'
    refine ⟨S1, fun a => T1 a ∨ U2 a, fun a x => m2 a (.inl x), fun a x => x.elim (m1 a) fun y => m2 a (.inr y), fun a x y => y.elim (fun t => dj' a t (.inl x)) fun t => dj a x (u2 a t), Rep.move r z (fun a o x => k a o (.inl x)) fun _ x => x, ?_⟩
    exact f Z' H' e w T1 _ z (fun a o x => k a o (.inr x)) r' (fun a x => .inl x) (fun a x => .inr x) fun a x y => dj' a x (.inr y)
end
/-- the mark that a table of code objects of the name q stands somewhere -/
def mark (q : Str) : HO := .tbl #[.str q 0]
/-- the names of the module that K tells -/
def topNames (K : PySem.W.Frag) : List Str := match K.lookup mainGlobals with
  | some ⟨_, _, .dict es _, _⟩ => es.toList.filterMap fun e => match e.key with
    | .str s _ => some s
    | _ => none
  | _ => []
/-- defs with their code objects and the tables of these -/
def tabsK (K : PySem.W.Frag) : List (Str × Addr × Addr) := (topNames K).filterMap fun x => (PySem.W.tabIn K x).map fun cp => (x, cp.1, cp.2)
def lamName (x : Str) : Str := (x ++ ".<locals>.") ++ "<lambda>"
/-- the tables are marked -/
def Marks (K : PySem.W.Frag) (Z : Hp) : Prop := ∀ t ∈ tabsK K, Z t.2.2 = some (mark (lamName t.1))
theorem Marks.same {K : PySem.W.Frag} {Z Z' : Hp} (m : Marks K Z) (s : Same Z Z') : Marks K Z' := fun t ht => s _ _ (m t ht)
abbrev Env := List (Option D)
def EnvR (K : PySem.W.Frag) (Z H : Hp) : Env → Sl → Fp → Prop
  | [], [], _ => Marks K Z
  | none :: ρ, _ :: σ, S => EnvR K Z H ρ σ S
  | some d :: ρ, some v :: σ, S => ∃ S1 S2 : Fp, (∀ a, S1 a → S a) ∧ (∀ a, S2 a → S a) ∧ (∀ a, S1 a → S2 a → False) ∧ Rep K Z H d v S1 ∧ EnvR K Z H ρ σ S2
  | _, _, _ => False
section
variable {K : PySem.W.Frag} {Z Z' H H' : Hp} {S S' : Fp}
theorem EnvR.marks : ∀ {ρ : Env} {σ : Sl} {S : Fp}, EnvR K Z H ρ σ S → Marks K Z
  | [], [], _, h => h
  | [], _ :: _, _, h => h.elim
  | none :: _, [], _, h => h.elim
  | some _ :: _, [], _, h => h.elim
  | none :: ρ, _ :: σ, S, h => EnvR.marks (ρ := ρ) (σ := σ) h
  | some _ :: ρ, none :: σ, S, h => h.elim
  | some _ :: ρ, some _ :: σ, S, ⟨_, _, _, _, _, _, q⟩ => q.marks
theorem EnvR.length : ∀ {ρ : Env} {σ : Sl} {S : Fp}, EnvR K Z H ρ σ S → ρ.length = σ.length
  | [], [], _, _ => rfl
  | [], _ :: _, _, h => h.elim
  | none :: _, [], _, h => h.elim
  | some _ :: _, [], _, h => h.elim
  | none :: ρ, _ :: σ, S, h => by rw [List.length_cons, List.length_cons, EnvR.length (ρ := ρ) (σ := σ) h]
  | some _ :: ρ, none :: σ, S, h => h.elim
  | some _ :: ρ, some _ :: σ, S, ⟨_, _, _, _, _, _, q⟩ => by rw [List.length_cons, List.length_cons, EnvR.length q]
theorem EnvR.mv : ∀ {ρ : Env} {σ : Sl} {S S' : Fp}, EnvR K Z H ρ σ S → Same Z Z' → (∀ a o, S a → H a = some o → NT o → H' a = some o) → (∀ a, S a → S' a) → EnvR K Z' H' ρ σ S'
  | [], [], _, _, h, z, _, _ => h.same z
  | [], _ :: _, _, _, h, _, _, _ => h.elim
  | none :: _, [], _, _, h, _, _, _ => h.elim
  | some _ :: _, [], _, _, h, _, _, _ => h.elim
  | none :: ρ, _ :: σ, S, S', h, z, k, m => EnvR.mv (ρ := ρ) (σ := σ) h z k m
  | some _ :: _, none :: _, _, _, h, _, _, _ => h.elim
  | some d :: ρ, some v :: σ, S, S', h, z, k, m => by
    obtain ⟨S1, S2, s1, s2, dj, r, q⟩ := h
    exact ⟨S1, S2, fun b hb => m b (s1 b hb), fun b hb => m b (s2 b hb), dj, Rep.mv r z (fun b o hb => k b o (s1 b hb)) fun _ x => x, EnvR.mv q z (fun b o hb => k b o (s2 b hb)) fun _ x => x⟩
theorem EnvR.move {ρ : Env} {σ : Sl} {S S' : Fp} (h : EnvR K Z H ρ σ S) (z : Same Z Z') (k : ∀ a o, S a → H a = some o → H' a = some o) (m : ∀ a, S a → S' a) : EnvR K Z' H' ρ σ S' := EnvR.mv h z (fun a o s e _ => k a o s e) m
/-- a slot is taken -/
theorem EnvR.take : ∀ {ρ : Env} {σ : Sl} {S : Fp} {i : Nat} {d : D}, EnvR K Z H ρ σ S → ρ[i]? = some (some d) →
    ∃ v, ∃ S1 S2 : Fp, σ[i]? = some (some v) ∧ (∀ a, S1 a → S a) ∧ (∀ a, S2 a → S a) ∧ (∀ a, S1 a → S2 a → False) ∧ Rep K Z H d v S1 ∧ EnvR K Z H (ρ.set i none) σ S2
  | [], _, _, _, _, _, e => by simp at e
  | none :: _, [], _, _, _, h, _ => h.elim
  | some _ :: _, [], _, _, _, h, _ => h.elim
  | none :: ρ, y :: σ, S, 0, d, h, e => by simp at e
  | none :: ρ, y :: σ, S, i + 1, d, h, e => by
    simp only [List.getElem?_cons_succ] at e
    obtain ⟨v, S1, S2, hv, s1, s2, dj, r, q⟩ := EnvR.take (ρ := ρ) (σ := σ) h e
    exact ⟨v, S1, S2, by simpa using hv, s1, s2, dj, r, q⟩
  | some _ :: _, none :: _, _, _, _, h, _ => h.elim
  | some d' :: ρ, some v :: σ, S, 0, d, h, e => by
    obtain ⟨S1, S2, s1, s2, dj, r, q⟩ := h
    simp only [List.getElem?_cons_zero, Option.some.injEq] at e
    subst e
    exact ⟨v, S1, S2, rfl, s1, s2, dj, r, q⟩
  | some d' :: ρ, some v' :: σ, S, i + 1, d, h, e => by
    obtain ⟨T1, T2, t1, t2, tj, tr, tq⟩ := h
    simp only [List.getElem?_cons_succ] at e
    obtain ⟨v, S1, S2, hv, s1, s2, dj, r, q⟩ := EnvR.take tq e
    refine ⟨v, S1, fun a => T1 a ∨ S2 a, by simpa using hv, fun a x => t2 a (s1 a x), fun a x => x.elim (t1 a) fun y => t2 a (s2 a y), fun a x y => y.elim (fun z => tj a z (s1 a x)) (dj a x), r, ?_⟩
    exact ⟨T1, S2, fun a x => .inl x, fun a x => .inr x, fun a x y => tj a x (s2 a y), tr, q⟩
/-- a slot is filled -/
theorem EnvR.put : ∀ {ρ : Env} {σ : Sl} {S1 S2 S : Fp} {i : Nat} {d : D} {v : V}, EnvR K Z H (ρ.set i none) σ S2 → i < ρ.length → Rep K Z H d v S1 → (∀ a, S1 a → S a) → (∀ a, S2 a → S a) → (∀ a, S1 a → S2 a → False) →
    EnvR K Z H (ρ.set i (some d)) (σ.set i (some v)) S
  | [], _, _, _, _, _, _, _, _, l, _, _, _, _ => by simp at l
  | _ :: _, [], _, _, _, 0, _, _, h, _, _, _, _, _ => h.elim
  | none :: _, [], _, _, _, _ + 1, _, _, h, _, _, _, _, _ => h.elim
  | some _ :: _, [], _, _, _, _ + 1, _, _, h, _, _, _, _, _ => h.elim
  | x :: ρ, y :: σ, S1, S2, S, 0, d, v, h, _, r, m1, m2, dj => ⟨S1, S2, m1, m2, dj, r, h⟩
  | none :: ρ, y :: σ, S1, S2, S, i + 1, d, v, h, l, r, m1, m2, dj => EnvR.put (ρ := ρ) (σ := σ) h (by simpa using l) r m1 m2 dj
  | some _ :: _, none :: _, _, _, _, _ + 1, _, _, h, _, _, _, _, _ => h.elim
  | some d' :: ρ, some v' :: σ, S1, S2, S, i + 1, d, v, h, l, r, m1, m2, dj => by
    obtain ⟨T1, T2, t1, t2, tj, tr, tq⟩ := h
    refine ⟨T1, fun a => S1 a ∨ T2 a, fun a x => m2 a (t1 a x), fun a x => x.elim (m1 a) fun y => m2 a (t2 a y), fun a x y => y.elim (fun z => dj a z (t1 a x)) (tj a x), tr, ?_⟩
    exact EnvR.put tq (by simpa using l) r (fun a x => .inl x) (fun a x => .inr x) fun a x y => dj a x (t2 a y)
/-- a slot forgotten -/
theorem EnvR.drop : ∀ {ρ : Env} {σ : Sl} {S : Fp} (i : Nat), EnvR K Z H ρ σ S → EnvR K Z H (ρ.set i none) σ S
  | [], [], _, _, h => h
  | [], _ :: _, _, _, h => h.elim
  | none :: _, [], _, _, h => h.elim
  | some _ :: _, [], _, _, h => h.elim
  | none :: ρ, _ :: σ, S, 0, h => h
  | none :: ρ, _ :: σ, S, i + 1, h => EnvR.drop (ρ := ρ) (σ := σ) i h
  | some _ :: _, none :: _, _, _, h => h.elim
  | some d :: ρ, some v :: σ, S, 0, ⟨S1, S2, s1, s2, dj, r, q⟩ => EnvR.move q (Same.refl Z) (fun _ _ _ x => x) s2
  | some d :: ρ, some v :: σ, S, i + 1, ⟨S1, S2, s1, s2, dj, r, q⟩ => ⟨S1, S2, s1, s2, dj, r, EnvR.drop i q⟩
/-- what stands in a slot that is not known does not matter -/
theorem EnvR.any : ∀ {ρ : Env} {σ : Sl} {S : Fp} {i : Nat} (y : Option V), EnvR K Z H ρ σ S → ρ[i]? = some none → EnvR K Z H ρ (σ.set i y) S
  | [], _, _, _, _, _, e => by simp at e
  | none :: _, [], _, _, _, h, _ => h.elim
  | some _ :: _, [], _, _, _, h, _ => h.elim
  | none :: ρ, _ :: σ, S, 0, y, h, _ => h
  | none :: ρ, _ :: σ, S, i + 1, y, h, e => EnvR.any (ρ := ρ) (σ := σ) (i := i) y h (by simpa using e)
  | some _ :: _, none :: _, _, _, _, h, _ => h.elim
  | some d :: ρ, some v :: σ, S, 0, y, h, e => by simp at e
  | some d :: ρ, some v :: σ, S, i + 1, y, ⟨S1, S2, s1, s2, dj, r, q⟩, e => ⟨S1, S2, s1, s2, dj, r, EnvR.any y q (by simpa using e)⟩
end
/-- the tables that Z marks are tables in H; each code object that they tell bears its name -/
def Tb (Z H : Hp) : Prop := ∃ L : List (Addr × Str), (∀ P ps, Z P = some (.tbl ps) → ∃ q, HO.tbl ps = mark q ∧ (P, q) ∈ L) ∧ ∀ p ∈ L, Z p.1 = some (mark p.2) ∧ LamX.TabS H p.1 p.2
structure Wd (Z H : Hp) (S : Fp) : Prop where
  same : Sam Z H
  sep : ∀ a, S a → Z a = none
  own : ∀ a, S a → ∃ o, H a = some o ∧ NW o
  tabs : Tb Z H
theorem Wd.dom {Z H : Hp} {S : Fp} (w : Wd Z H S) (a : Addr) (x : S a) : H a ≠ none := by
  obtain ⟨o, e, _⟩ := w.own a x
  rw [e]
  exact fun q => nomatch q
/-- nothing but a table may stand there -/
def Fre (H : Hp) (a : Addr) : Prop := ∀ o, H a = some o → ¬ NT o
theorem Fre.of {H : Hp} {a : Addr} (n : H a = none) : Fre H a := fun o e => by rw [n] at e; cases e
theorem Wd.live {Z H : Hp} {S : Fp} (w : Wd Z H S) (a : Addr) (x : S a) : ¬ Fre H a := fun f => by
  obtain ⟨o, e, n⟩ := w.own a x
  exact f o e n.1
structure Step (Z H : Hp) (S : Fp) (Z' H' : Hp) (S' : Fp) : Prop where
  wd : Wd Z' H' S'
  zz : Same Z Z'
  fr : ∀ a o, ¬ S a → H a = some o → NT o → H' a = some o
  new : ∀ a, S' a → S a ∨ Fre H a
  znew : ∀ a o, Z' a = some o → Z a = some o ∨ S a ∨ Fre H a
section
variable {Z Z1 Z2 H H1 H2 : Hp} {S S1 S2 T : Fp}
theorem Step.free (a : Step Z H S Z1 H1 S1) {x : Addr} (n : ¬ S x) (e : Fre H1 x) : Fre H x := fun o q t => e o (a.fr x o n q t) t
theorem Tb.isT {P : Addr} {ps : Array Value} (t : Tb Z H) (e : Z P = some (.tbl ps)) : ∃ ps', H P = some (.tbl ps') := by
  obtain ⟨L, h1, h2⟩ := t
  obtain ⟨q, _, m⟩ := h1 P ps e
  obtain ⟨_, ps', e2, _⟩ := h2 _ m
  exact ⟨ps', e2⟩
theorem Tb.ext (t : Tb Z H) (z1 : ∀ P ps, Z1 P = some (.tbl ps) → Z P = some (.tbl ps)) (z2 : Same Z Z1) (k : ∀ b o, H b = some o → ((∃ ps, o = .tbl ps) ∨ ∃ φ, o = .ext φ) → H1 b = some o) : Tb Z1 H1 := by
  obtain ⟨L, h1, h2⟩ := t
  refine ⟨L, fun P ps e => h1 P ps (z1 P ps e), fun p hp => ?_⟩
  obtain ⟨e1, ps, e2, e3, e4⟩ := h2 p hp
  refine ⟨z2 _ _ e1, ps, k _ _ e2 (.inl ⟨ps, rfl⟩), e3, fun pos cv hc => ?_⟩
  obtain ⟨c, r1, r2⟩ := e4 pos cv hc
  exact ⟨c, r1, k _ _ r2 (.inr ⟨_, rfl⟩)⟩
theorem Step.refl (w : Wd Z H S) : Step Z H S Z H S := ⟨w, Same.refl Z, fun _ _ _ e _ => e, fun _ x => .inl x, fun _ _ e => .inl e⟩
theorem Step.trans (a : Step Z H S Z1 H1 S1) (b : Step Z1 H1 S1 Z2 H2 S2) : Step Z H S Z2 H2 S2 where
  wd := b.wd
  zz := a.zz.trans b.zz
  fr := fun x o n e t => b.fr x o (fun q => (a.new x q).elim n fun z => z o e t) (a.fr x o n e t) t
  new := fun x q => by
    rcases b.new x q with h | h
    · exact a.new x h
    · by_cases hs : S x
      · exact .inl hs
      · exact .inr (a.free hs h)
  znew := fun x o q => by
    rcases b.znew x o q with h | h | h
    · exact a.znew x o h
    · rcases a.new x h with h | h
      · exact .inr (.inl h)
      · exact .inr (.inr h)
    · by_cases hs : S x
      · exact .inr (.inl hs)
      · exact .inr (.inr (a.free hs h))
theorem Wd.less (w : Wd Z H S) (m : ∀ a, S1 a → S a) : Wd Z H S1 := ⟨w.same, fun a x => w.sep a (m a x), fun a x => w.own a (m a x), w.tabs⟩
/-- a part of what is owned is put aside -/
theorem Step.less (a : Step Z H S Z1 H1 S1) (m : ∀ a, S2 a → S1 a) : Step Z H S Z1 H1 S2 := ⟨a.wd.less m, a.zz, a.fr, fun x q => a.new x (m x q), a.znew⟩
/-- a step of a part is a step of the whole: T is put aside -/
theorem Step.frame (a : Step Z H S Z1 H1 S1) (w : Wd Z H (fun x => S x ∨ T x)) (dj : ∀ x, S x → T x → False) : Step Z H (fun x => S x ∨ T x) Z1 H1 (fun x => S1 x ∨ T x) where
  wd := ⟨a.wd.same, fun x q => q.elim (a.wd.sep x) fun t => by
      cases e : Z1 x with
      | none => rfl
      | some o =>
        rcases a.znew x o e with h | h | h
        · rw [w.sep x (.inr t)] at h; cases h
        · exact (dj x h t).elim
        · exact (w.live x (.inr t) h).elim, fun x q => q.elim (a.wd.own x) fun t => by
      obtain ⟨o, e, n⟩ := w.own x (.inr t)
      exact ⟨o, a.fr x o (fun h => dj x h t) e n.1, n⟩, a.wd.tabs⟩
  zz := a.zz
  fr := fun x o n e => a.fr x o (fun q => n (.inl q)) e
  new := fun x q => q.elim (fun h => (a.new x h).elim (fun z => .inl (.inl z)) .inr) fun t => .inl (.inr t)
  znew := fun x o e => (a.znew x o e).elim .inl fun h => h.elim (fun z => .inr (.inl (.inl z))) fun z => .inr (.inr z)
theorem Step.apart (a : Step Z H S Z1 H1 S1) (w : ∀ x, T x → ¬ Fre H x) (dj : ∀ x, S x → T x → False) : ∀ x, S1 x → T x → False := fun x q t => (a.new x q).elim (fun h => dj x h t) fun h => w x t h
/-- what is put aside stays -/
theorem Step.stay {K : PySem.W.Frag} {d : D} {v : V} (a : Step Z H S Z1 H1 S1) (dj : ∀ x, S x → T x → False) (r : Rep K Z H d v T) : Rep K Z1 H1 d v T := r.mv a.zz (fun x o t e n => a.fr x o (fun h => dj x h t) e n) fun _ x => x
theorem Step.stayL {K : PySem.W.Frag} {ds : List D} {vs : List V} (a : Step Z H S Z1 H1 S1) (dj : ∀ x, S x → T x → False) (r : RepL K Z H ds vs T) : RepL K Z1 H1 ds vs T := r.mv a.zz (fun x o t e n => a.fr x o (fun h => dj x h t) e n) fun _ x => x
theorem Step.stayE {K : PySem.W.Frag} {ρ : Env} {σ : Sl} (a : Step Z H S Z1 H1 S1) (dj : ∀ x, S x → T x → False) (r : EnvR K Z H ρ σ T) : EnvR K Z1 H1 ρ σ T := r.mv a.zz (fun x o t e n => a.fr x o (fun h => dj x h t) e n) fun _ x => x
/-- a new object, owned -/
theorem Step.alloc {p : Addr} {o : HO} (w : Wd Z H S) (n : H p = none) (hn : NW o := by constructor <;> (intro ps e; cases e)) : Step Z H S Z (upd H p o) (fun a => S a ∨ a = p) where
  wd := ⟨⟨fun a u e t => by rw [upd_ne (ne_of_none (w.same.get a u e t) n)]; exact w.same.get a u e t⟩, fun a q => q.elim (w.sep a) fun e => by
      subst e
      cases e : Z a with
      | none => rfl
      | some u =>
        rcases nt_or u with ⟨ps, rfl⟩ | t
        · obtain ⟨ps', h1⟩ := w.tabs.isT e
          rw [n] at h1
          cases h1
        · exact absurd ((w.same.get a u e t).symm.trans n) (fun z => nomatch z), fun a q => by
      by_cases h : a = p
      · subst h; exact ⟨o, upd_same, hn⟩
      · obtain ⟨u, e, t⟩ := w.own a (q.resolve_right h)
        exact ⟨u, by rw [upd_ne h]; exact e, t⟩, w.tabs.ext (fun _ _ e => e) (Same.refl Z) fun b u e _ => by rw [upd_ne (ne_of_none e n)]; exact e⟩
  zz := Same.refl Z
  fr := fun a u _ e _ => by rw [upd_ne (ne_of_none e n)]; exact e
  new := fun a q => q.elim .inl fun h => by subst h; exact .inr (Fre.of n)
  znew := fun _ _ e => .inl e
theorem Wd.zfree {p : Addr} (w : Wd Z H S) (n : H p = none) : Z p = none := by
  cases e : Z p with
  | none => rfl
  | some u =>
    rcases nt_or u with ⟨ps, rfl⟩ | t
    · obtain ⟨ps', h1⟩ := w.tabs.isT e
      rw [n] at h1
      cases h1
    · exact absurd ((w.same.get p u e t).symm.trans n) (fun z => nomatch z)
/-- a new object, frozen -/
theorem Step.allocZ {p : Addr} {o : HO} (w : Wd Z H S) (n : H p = none) (hn : NT o := by intro ps e; cases e) : Step Z H S (upd Z p o) (upd H p o) S := by
  have nz : Z p = none := w.zfree n
  exact {
    wd := ⟨⟨fun a u e t => by
      by_cases h : a = p
      · subst h; rw [upd_same] at e ⊢; exact e
      · rw [upd_ne h] at e ⊢; exact w.same.get a u e t⟩, fun a s => by
      have h : a ≠ p := fun h => by subst h; exact w.dom _ s n
      rw [upd_ne h]; exact w.sep a s, fun a s => by
      have h : a ≠ p := fun h => by subst h; exact w.dom _ s n
      rw [upd_ne h]; exact w.own a s, w.tabs.ext (fun P ps e => by
      by_cases h : P = p
      · subst h; rw [upd_same] at e; cases e; exact absurd rfl (hn ps)
      · rw [upd_ne h] at e; exact e) (fun a u e => by rw [upd_ne (ne_of_none e nz)]; exact e) fun b u e _ => by rw [upd_ne (ne_of_none e n)]; exact e⟩
    zz := fun a u e => by rw [upd_ne (ne_of_none e nz)]; exact e
    fr := fun a u _ e _ => by rw [upd_ne (ne_of_none e n)]; exact e
    new := fun a q => .inl q
    znew := fun a u e => by
      by_cases h : a = p
      · subst h; exact .inr (.inr (Fre.of n))
      · rw [upd_ne h] at e; exact .inl e }
/-- an owned object is written -/
theorem Step.write {p : Addr} {o : HO} (w : Wd Z H S) (s : S p) (hn : NW o := by constructor <;> (intro ps e; cases e)) : Step Z H S Z (upd H p o) S where
  wd := ⟨⟨fun a u e t => by
      have h : a ≠ p := fun h => by subst h; rw [w.sep _ s] at e; cases e
      rw [upd_ne h]; exact w.same.get a u e t⟩, w.sep, fun a s' => by
      by_cases h : a = p
      · subst h; exact ⟨o, upd_same, hn⟩
      · rw [upd_ne h]; exact w.own a s', w.tabs.ext (fun _ _ e => e) (Same.refl Z) fun b u e hu => by
      have h : b ≠ p := fun h => by
        subst h
        obtain ⟨o', e', n1, n2⟩ := w.own b s
        rw [e] at e'
        cases e'
        rcases hu with ⟨ps, rfl⟩ | ⟨φ, rfl⟩
        · exact n1 ps rfl
        · exact n2 φ rfl
      rw [upd_ne h]; exact e⟩
  zz := Same.refl Z
  fr := fun a u n e _ => by rw [upd_ne fun h => n (by subst h; exact s)]; exact e
  new := fun a q => .inl q
  znew := fun _ _ e => .inl e
/-- a part is frozen -/
theorem Step.freeze (w : Wd Z H S) (m : ∀ a, T a → S a) (m2 : ∀ a, S1 a → S a) (dj : ∀ a, S1 a → T a → False) : Step Z H S (thaw Z H T) H S1 where
  wd := ⟨thaw_le w.same, fun a s => by rw [thaw_out fun t => dj a s t]; exact w.sep a (m2 a s), fun a s => w.own a (m2 a s), w.tabs.ext (fun P ps e => by
      by_cases h : T P
      · rw [thaw_in h] at e
        obtain ⟨o, e2, n⟩ := w.own P (m P h)
        rw [e] at e2
        cases e2
        exact absurd rfl (n.1 ps)
      · rw [thaw_out h] at e; exact e) (thaw_same fun a t => w.sep a (m a t)) fun _ _ e _ => e⟩
  zz := thaw_same fun a t => w.sep a (m a t)
  fr := fun _ _ _ e _ => e
  new := fun a s => .inl (m2 a s)
  znew := fun a o e => by
    by_cases h : T a
    · exact .inr (.inl (m a h))
    · rw [thaw_out h] at e; exact .inl e
end
end Pm
namespace Pm
open PySem PySem.Spec PyProof.Rows L2
structure XD where
  cls : Str
  fs : List (Str × D)
inductive Res (α : Type) where
  | stuck | ok (a : α) (ρ : Env) | exc (x : XD) (ρ : Env)
abbrev M (α : Type) := Env → Res α
/-- what an expression gives: data of its own, or what stands in a slot -/
inductive EV where
  | val (d : D) | ref (i : Nat)
inductive Fl where
  | nx | bk | ct | rt (d : D)
def ret {α : Type} (a : α) : M α := fun ρ => .ok a ρ
def bnd {α β : Type} (m : M α) (f : α → M β) : M β := fun ρ => match m ρ with
  | .stuck => .stuck
  | .ok a ρ' => f a ρ'
  | .exc x ρ' => .exc x ρ'
def peek1 (ρ : Env) : EV → Option D
  | .val d => some d
  | .ref i => ρ.getD i none
def peeks (ρ : Env) : List EV → Option (List D)
  | [] => some []
  | e :: es => match peek1 ρ e, peeks ρ es with
    | some d, some ds => some (d :: ds)
    | _, _ => none
/-- to take what an expression gave for keeps -/
def use1 : EV → M D
  | .val d => fun ρ => .ok d ρ
  | .ref i => fun ρ => match ρ.getD i none with
    | some d => .ok d.frz (ρ.set i (some d.frz))
    | none => .stuck
def useL : List EV → M (List D)
  | [] => ret []
  | e :: es => bnd (use1 e) fun d => bnd (useL es) fun ds => ret (d :: ds)
section
variable (K : PySem.W.Frag) (mg : Str → Option Value)
def EVR (Z H : Hp) (σ : Sl) : EV → V → Fp → Prop
  | .val d, v, S => Rep K Z H d v S
  | .ref i, v, _ => σ[i]? = some (some v)
def EVsR (Z H : Hp) (σ : Sl) : List EV → List V → Fp → Prop
  | [], [], _ => True
  | e :: es, v :: vs, S => ∃ S1 S2 : Fp, (∀ a, S1 a → S a) ∧ (∀ a, S2 a → S a) ∧ (∀ a, S1 a → S2 a → False) ∧ EVR K Z H σ e v S1 ∧ EVsR Z H σ es vs S2
  | _, _, _ => False
def ExcR (Z : Hp) (x : XD) (cls : Value) (dd : Option Addr) : Prop :=
  ∃ C, mg x.cls = some (.ref C) ∧ reg K x.cls = some C ∧ cls = .ref C ∧ ((dd = none ∧ x.fs = []) ∨ ∃ d vs, dd = some d ∧ Z d = some (.xd ((x.fs.map (·.1)).zip vs)) ∧ RepL K Z Z (x.fs.map (·.2)) vs Fp0)
/-- what is asked of an exception -/
def XOut (W : WX) (Z H : Hp) (S : Fp) (σ : Sl) (x : XD) (ρ' : Env) : Prop :=
  ∀ cls dd Z' H' S', Step Z H S Z' H' S' → EnvR K Z' H' ρ' σ S' → ExcR K mg Z' x cls dd → W cls dd σ H'
def OutA (W : WX) (Z H : Hp) (S : Fp) (σ : Sl) (Q : List V → Hp → Prop) : Res (List EV) → Prop
  | .stuck => False
  | .ok es ρ' => ∀ vs Z' H' S' Sd, Step Z H S Z' H' (fun a => S' a ∨ Sd a) → (∀ a, S' a → Sd a → False) → EnvR K Z' H' ρ' σ S' → EVsR K Z' H' σ es vs Sd → Q vs H'
  | .exc x ρ' => XOut K mg W Z H S σ x ρ'
def OutE (W : WX) (Z H : Hp) (S : Fp) (σ : Sl) (Q : VK) : Res EV → Prop
  | .stuck => False
  | .ok e ρ' => ∀ v Z' H' S' Sd, Step Z H S Z' H' (fun a => S' a ∨ Sd a) → (∀ a, S' a → Sd a → False) → EnvR K Z' H' ρ' σ S' → EVR K Z' H' σ e v Sd → Q v H'
  | .exc x ρ' => XOut K mg W Z H S σ x ρ'
def OutT (W : WX) (Z H : Hp) (S : Fp) (σ : Sl) (Q : Bool → Hp → Prop) : Res Bool → Prop
  | .stuck => False
  | .ok b ρ' => ∀ Z' H' S', Step Z H S Z' H' S' → EnvR K Z' H' ρ' σ S' → Q b H'
  | .exc x ρ' => XOut K mg W Z H S σ x ρ'
def FlR (Z H : Hp) : Fl → V → Fp → Prop
  | .rt d, v, S => Rep K Z H d v S
  | _, _, _ => True
def FlGo (D : Ends) (σ : Sl) (v : V) (H : Hp) : Fl → Prop
  | .nx => D.nx σ H
  | .bk => D.bk σ H
  | .ct => D.ct σ H
  | .rt _ => D.rt v H
/-- slots that are not stored (A tells which may be) -/
def Keep (A : Nat → Bool) (σ σ' : Sl) : Prop := (∀ j : Nat, A j = false → σ'[j]? = σ[j]?) ∧ σ'.length = σ.length
def OutS (W : WX) (A : Nat → Bool) (σ : Sl) (Z H : Hp) (S : Fp) (D : Ends) : Res Fl → Prop
  | .stuck => False
  | .ok fl ρ' => ∀ σ' v Z' H' S' Sd, Keep A σ σ' → Step Z H S Z' H' (fun a => S' a ∨ Sd a) → (∀ a, S' a → Sd a → False) → EnvR K Z' H' ρ' σ' S' → FlR K Z' H' fl v Sd → FlGo D σ' v H' fl
  | .exc x ρ' => ∀ σ', Keep A σ σ' → XOut K mg W Z H S σ' x ρ'
def tE (W : WX) (f : M EV) : TE := fun σ H Q => ∃ Z ρ S, Wd Z H S ∧ EnvR K Z H ρ σ S ∧ OutE K mg W Z H S σ Q (f ρ)
def tA (W : WX) (f : M (List EV)) : TA := fun σ H Q => ∃ Z ρ S, Wd Z H S ∧ EnvR K Z H ρ σ S ∧ OutA K mg W Z H S σ Q (f ρ)
def tT (W : WX) (f : M Bool) : TT := fun σ H Q => ∃ Z ρ S, Wd Z H S ∧ EnvR K Z H ρ σ S ∧ OutT K mg W Z H S σ Q (f ρ)
def tS (W : WX) (A : Nat → Bool) (f : M Fl) : TS := fun D σ H => ∃ Z ρ S, Wd Z H S ∧ EnvR K Z H ρ σ S ∧ OutS K mg W A σ Z H S D (f ρ)
end
theorem Keep.refl {A : Nat → Bool} (σ : Sl) : Keep A σ σ := ⟨fun _ _ => rfl, rfl⟩
theorem Keep.trans {A : Nat → Bool} {σ σ1 σ2 : Sl} (a : Keep A σ σ1) (b : Keep A σ1 σ2) : Keep A σ σ2 := ⟨fun j h => (b.1 j h).trans (a.1 j h), b.2.trans a.2⟩
section
variable {X : Cx} {e : Expr} {es : List Expr} {st : Stmt} {sts : List Stmt}
theorem PE.of {t t' : TE} (h : PE X e t) (i : ∀ σ H Q, t' σ H Q → t σ H Q) : PE X e t' := ⟨fun p s σ H Q I q => h.run p s σ H Q I (i σ H Q q)⟩
theorem PA.of {t t' : TA} (h : PA X es t) (i : ∀ σ H Q, t' σ H Q → t σ H Q) : PA X es t' := ⟨fun o p s σ H Q I q => h.run o p s σ H Q I (i σ H Q q)⟩
theorem PT.of {t t' : TT} (h : PT X e t) (i : ∀ σ H Q, t' σ H Q → t σ H Q) : PT X e t' := ⟨fun p s σ H Q I q => h.run p s σ H Q I (i σ H Q q)⟩
theorem PW.of {t t' : TT} (h : PW X e t) (i : ∀ σ H Q, t' σ H Q → t σ H Q) : PW X e t' := ⟨fun o p s σ H Q I q => h.run o p s σ H Q I (i σ H Q q)⟩
theorem PS.of {t t' : TS} (h : PS X st t) (i : ∀ D σ H, t' D σ H → t D σ H) : PS X st t' := ⟨fun p s σ H D I q => h.run p s σ H D I (i D σ H q)⟩
theorem PSs.of {t t' : TS} (h : PSs X sts t) (i : ∀ D σ H, t' D σ H → t D σ H) : PSs X sts t' := ⟨fun p s σ H D I q => h.run p s σ H D I (i D σ H q)⟩
end
section
variable {K : PySem.W.Frag} {mg : Str → Option Value} {W : WX} {Z H : Hp} {S : Fp} {σ : Sl}
theorem XOut.behind {Z1 H1 : Hp} {S1 Sa : Fp} {x : XD} {ρ' : Env} (st : Step Z H S Z1 H1 (fun a => S1 a ∨ Sa a)) (dj : ∀ a, S1 a → Sa a → False) (h : XOut K mg W Z H S σ x ρ') : XOut K mg W Z1 H1 S1 σ x ρ' :=
  fun cls dd Z' H' S' st' er xr => h cls dd Z' H' S' ((st.trans (st'.frame st.wd dj)).less fun a s => .inl s) er xr
def aNil : M (List EV) := ret []
def aCons (f : M EV) (fs : M (List EV)) : M (List EV) := bnd f fun e => bnd fs fun es => ret (e :: es)
theorem EVR.stay {Z' H' : Hp} {S1 Sa : Fp} {e : EV} {v : V} (h : EVR K Z H σ e v Sa) (st : Step Z H S1 Z' H' S) (dj : ∀ a, S1 a → Sa a → False) : EVR K Z' H' σ e v Sa := by
  cases e with
  | val d => exact st.stay dj h
  | ref i => exact h
theorem EVR.more {Sa Sb : Fp} {e : EV} {v : V} (h : EVR K Z H σ e v Sa) (m : ∀ a, Sa a → Sb a) : EVR K Z H σ e v Sb := by
  cases e with
  | val d => exact h.move (Same.refl Z) (fun _ _ _ x => x) m
  | ref i => exact h
theorem Wd.nil {Z H : Hp} {S : Fp} (w : Wd Z H S) : Step Z H S Z H (fun a => S a ∨ Fp0 a) := (Step.refl w).less fun a x => x.elim id False.elim
theorem tA_nil {Q : List V → Hp → Prop} (h : tA K mg W aNil σ H Q) : tNil σ H Q := by
  obtain ⟨Z, ρ, S, w, er, o⟩ := h
  exact o [] Z H S Fp0 w.nil (fun _ _ x => x) er trivial
theorem tA_cons {f : M EV} {fs : M (List EV)} {Q : List V → Hp → Prop} (h : tA K mg W (aCons f fs) σ H Q) : tCons (tE K mg W f) (tA K mg W fs) σ H Q := by
  obtain ⟨Z, ρ, S, w, er, o⟩ := h
  refine ⟨Z, ρ, S, w, er, ?_⟩
  simp only [aCons, bnd] at o
  cases e1 : f ρ with
  | stuck => rw [e1] at o; exact o
  | exc x ρ1 => rw [e1] at o; exact o
  | ok ev ρ1 =>
    rw [e1] at o
    intro v Z1 H1 S1 Sa st1 dj1 er1 r1
    refine ⟨Z1, ρ1, S1, st1.wd.less fun a x => .inl x, er1, ?_⟩
    cases e2 : fs ρ1 with
    | stuck => simp only [e2] at o; exact o
    | exc x ρ2 => simp only [e2] at o; exact o.behind st1 dj1
    | ok es ρ2 =>
      simp only [e2, ret] at o
      intro vs Z2 H2 S2 Sb st2 dj2 er2 r2
      have ap := st2.apart (T := Sa) (fun a x => st1.wd.live a (.inr x)) dj1
      refine o (v :: vs) Z2 H2 S2 (fun a => Sa a ∨ Sb a) ((st1.trans (st2.frame st1.wd dj1)).less fun a x => ?_) (fun a x y => y.elim (ap a (.inl x)) (dj2 a x)) er2 ?_
      · rcases x with x | x | x
        · exact .inl (.inl x)
        · exact .inr x
        · exact .inl (.inr x)
      · exact ⟨Sa, Sb, fun a x => .inl x, fun a x => .inr x, fun a x y => ap a (.inr y) x, r1.stay st2 dj1, r2⟩
theorem pa_n {X : Cx} : PA X [] (tA X.K X.mg W aNil) := PA.of pa_nil fun _ _ _ => tA_nil
theorem pa_c {X : Cx} {e : Expr} {es : List Expr} {f : M EV} {fs : M (List EV)} (h : PE X e (tE X.K X.mg W f)) (hs : PA X es (tA X.K X.mg W fs)) (st : starEach (e :: es) X.env = (false, eval e X.env) :: starEach es X.env) :
    PA X (e :: es) (tA X.K X.mg W (aCons f fs)) := PA.of (pa_cons h hs st) fun _ _ _ => tA_cons
theorem peek1_rep {ρ : Env} {e : EV} {v : V} {d : D} {Sa : Fp} (er : EnvR K Z H ρ σ S) (r : EVR K Z H σ e v Sa) (p : peek1 ρ e = some d) : Rep K Z H d v (fun a => S a ∨ Sa a) := by
  cases e with
  | val d' =>
    simp only [peek1, Option.some.injEq] at p
    subst p
    exact Rep.move r (Same.refl Z) (fun _ _ _ x => x) fun a x => .inr x
  | ref i =>
    have q : ρ[i]? = some (some d) := by
      simp only [peek1, List.getD_eq_getElem?_getD] at p
      cases h : ρ[i]? with
      | none => rw [h] at p; cases p
      | some o => rw [h] at p; simpa using p
    obtain ⟨u, S1, S2, hu, s1, s2, dj, ru, _⟩ := er.take q
    have e : v = u := by
      have r' : σ[i]? = some (some v) := r
      rw [hu] at r'
      simpa using r'.symm
    subst e
    exact ru.move (Same.refl Z) (fun _ _ _ x => x) fun a x => .inl (s1 a x)
/-- data borne one by one, all within S -/
def RepB (K : PySem.W.Frag) (Z H : Hp) (S : Fp) : List D → List V → Prop
  | [], [] => True
  | d :: ds, v :: vs => Rep K Z H d v S ∧ RepB K Z H S ds vs
  | _, _ => False
theorem RepB.more {S' : Fp} (m : ∀ a, S a → S' a) : ∀ {ds : List D} {vs : List V}, RepB K Z H S ds vs → RepB K Z H S' ds vs
  | [], [], _ => trivial
  | [], _ :: _, h => h.elim
  | _ :: _, [], h => h.elim
  | _ :: _, _ :: _, h => ⟨h.1.move (Same.refl Z) (fun _ _ _ x => x) m, RepB.more m h.2⟩
theorem peeks_rep {ρ : Env} (er : EnvR K Z H ρ σ S) : ∀ {es : List EV} {vs : List V} {ds : List D} {Sa : Fp}, EVsR K Z H σ es vs Sa → peeks ρ es = some ds → RepB K Z H (fun a => S a ∨ Sa a) ds vs
  | [], [], ds, _, _, p => by
    simp only [peeks, Option.some.injEq] at p
    subst p
    trivial
  | [], _ :: _, _, _, h, _ => h.elim
  | _ :: _, [], _, _, h, _ => h.elim
  | e :: es, v :: vs, ds, Sa, h, p => by
    obtain ⟨S1, S2, s1, s2, dj, r, q⟩ := h
    simp only [peeks] at p
    split at p
    · rename_i d ds' h1 h2
      simp only [Option.some.injEq] at p
      subst p
      refine ⟨(peek1_rep er r h1).move (Same.refl Z) (fun _ _ _ x => x) fun a x => x.elim .inl fun y => .inr (s1 a y), ?_⟩
      exact (peeks_rep er q h2).more fun a x => x.elim .inl fun y => .inr (s2 a y)
    · cases p
/-- an operation upon values and the function of data that it is -/
def Snd (X : Cx) (r : List V → Hp → VK → Prop) (g : List D → Option D) : Prop :=
  ∀ (Z H : Hp) (S : Fp) (ds : List D) (vs : List V) (d : D) (Q : VK), Wd Z H S → RepB X.K Z H S ds vs → g ds = some d →
    (∀ v Z' H' Sd, Step Z H S Z' H' (fun a => S a ∨ Sd a) → Same H H' → (∀ a, S a → Sd a → False) → Rep X.K Z' H' d v Sd → Q v H') → r vs H Q
def app (g : List D → Option D) (fs : M (List EV)) : M EV := bnd fs fun es => fun ρ => match peeks ρ es with
  | some ds => match g ds with
    | some d => .ok (.val d) ρ
    | none => .stuck
  | none => .stuck
theorem tE_app {X : Cx} {r : List V → Hp → VK → Prop} {g : List D → Option D} {fs : M (List EV)} {Q : VK} (hs : Snd X r g) (h : tE X.K X.mg W (app g fs) σ H Q) : tA X.K X.mg W fs σ H fun vs H1 => r vs H1 Q := by
  obtain ⟨Z, ρ, S, w, er, o⟩ := h
  refine ⟨Z, ρ, S, w, er, ?_⟩
  simp only [app, bnd] at o
  cases e1 : fs ρ with
  | stuck => rw [e1] at o; exact o
  | exc x ρ1 => rw [e1] at o; exact o
  | ok es ρ1 =>
    simp only [e1] at o
    intro vs Z1 H1 S1 Sa st1 dj1 er1 r1
    cases e2 : peeks ρ1 es with
    | none => simp only [e2] at o; exact o.elim
    | some ds =>
      cases e3 : g ds with
      | none => simp only [e2, e3] at o; exact o.elim
      | some d =>
        simp only [e2, e3] at o
        refine hs Z1 H1 _ ds vs d Q st1.wd (peeks_rep er1 r1 e2) e3 fun v Z2 H2 Sd st2 sm dj2 rd => ?_
        exact o v Z2 H2 S1 Sd ((st1.trans st2).less fun a x => x.elim (fun y => .inl (.inl y)) .inr) (fun a x y => dj2 a (.inl x) y) (er1.move st2.zz (fun a ob _ e => sm a ob e) fun _ x => x) rd
def loc (i : Nat) : M EV := fun ρ => match ρ.getD i none with
  | some _ => .ok (.ref i) ρ
  | none => .stuck
def con (d : D) : M EV := ret (.val d)
theorem getD_some {ρ : Env} {i : Nat} {d : D} (h : ρ.getD i none = some d) : ρ[i]? = some (some d) := by
  rw [List.getD_eq_getElem?_getD] at h
  cases e : ρ[i]? with
  | none => rw [e] at h; cases h
  | some o => rw [e] at h; simpa using h
theorem tE_loc {i : Nat} {Q : VK} (h : tE K mg W (loc i) σ H Q) : tVar i σ H Q := by
  obtain ⟨Z, ρ, S, w, er, o⟩ := h
  simp only [loc] at o
  cases e : ρ.getD i none with
  | none => simp only [e] at o; exact o.elim
  | some d =>
    simp only [e] at o
    obtain ⟨v, S1, S2, hv, _⟩ := er.take (getD_some e)
    exact ⟨v, hv, o v Z H S Fp0 w.nil (fun _ _ x => x) er hv⟩
theorem pe_loc {X : Cx} {i : Nat} {x : Str} {pos : Pos} (hN : X.N[i]? = some x) (hv : Vis X.env.scope x) (hd : (x == ("__debug__" : Str)) = false) (hcd : (x == ("__classdict__" : Str)) = false) : PE X (.Name x pos) (tE X.K X.mg W (loc i)) :=
  PE.of (pe_var hN hv hd hcd) fun _ _ _ => tE_loc
theorem tE_con {d : D} {v : V} {Q : VK} (r : ∀ Z H : Hp, Rep K Z H d v Fp0) (h : tE K mg W (con d) σ H Q) : tC v σ H Q := by
  obtain ⟨Z, ρ, S, w, er, o⟩ := h
  exact o v Z H S Fp0 w.nil (fun _ _ x => x) er (r Z H)
theorem use1_ok {ρ ρ' : Env} {e : EV} {v : V} {d : D} {Sa T : Fp} (w : Wd Z H (fun a => (S a ∨ Sa a) ∨ T a)) (dj : ∀ a, S a → Sa a → False) (djT : ∀ a, S a ∨ Sa a → T a → False) (er : EnvR K Z H ρ σ S) (r : EVR K Z H σ e v Sa) (u : use1 e ρ = .ok d ρ') :
    ∃ Z' S', Step Z H (fun a => (S a ∨ Sa a) ∨ T a) Z' H (fun a => (S' a ∨ Sa a) ∨ T a) ∧ (∀ a, S' a → S a) ∧ EnvR K Z' H ρ' σ S' ∧ Rep K Z' H d v Sa := by
  cases e with
  | val d' =>
    simp only [use1, Res.ok.injEq] at u
    obtain ⟨rfl, rfl⟩ := u
    exact ⟨Z, S, Step.refl w, fun _ x => x, er, r⟩
  | ref i =>
    simp only [use1] at u
    cases e : ρ.getD i none with
    | none => rw [e] at u; cases u
    | some d0 =>
      rw [e] at u
      simp only [Res.ok.injEq] at u
      obtain ⟨rfl, rfl⟩ := u
      obtain ⟨v0, S1, S2, hv, s1, s2, dj2, r0, er0⟩ := er.take (getD_some e)
      have ev : v0 = v := by
        have r' : σ[i]? = some (some v) := r
        rw [hv] at r'
        simpa using r'
      subst ev
      have stp : Step Z H (fun a => (S a ∨ Sa a) ∨ T a) (thaw Z H S1) H (fun a => (S2 a ∨ Sa a) ∨ T a) := Step.freeze w (fun a x => .inl (.inl (s1 a x))) (fun a x => x.elim (fun y => .inl (y.elim (fun z => .inl (s2 a z)) .inr)) .inr) fun a x y => x.elim (fun z => z.elim (fun t => dj2 a y t) (fun t => dj a (s1 a y) t)) fun t => djT a (.inl (s1 a y)) t
      have rf : Rep K (thaw Z H S1) H d0.frz v0 Fp0 := Rep.frz r0 (fun a x => w.sep a (.inl (.inl (s1 a x)))) fun _ x => x
      refine ⟨thaw Z H S1, S2, stp, s2, ?_, rf.move (Same.refl _) (fun _ _ _ x => x) fun _ x => x.elim⟩
      have hi : i < ρ.length := (List.getElem?_eq_some_iff.mp (getD_some e)).1
      have q := EnvR.put (S := S2) (S1 := Fp0) (v := v0) (er0.move stp.zz (fun _ _ _ x => x) fun _ x => x) hi rf (fun _ x => x.elim) (fun _ x => x) (fun _ x _ => x)
      have es : σ.set i (some v0) = σ := by
        obtain ⟨hl, e1⟩ := List.getElem?_eq_some_iff.mp hv
        rw [← e1, List.set_getElem_self]
      rw [es] at q
      exact q
theorem EVsR.more : ∀ {es : List EV} {vs : List V} {B C : Fp}, EVsR K Z H σ es vs B → (∀ a, B a → C a) → EVsR K Z H σ es vs C
  | [], [], _, _, _, _ => trivial
  | [], _ :: _, _, _, h, _ => h.elim
  | _ :: _, [], _, _, h, _ => h.elim
  | _ :: _, _ :: _, _, _, ⟨B1, B2, b1, b2, bj, r, q⟩, m => ⟨B1, B2, fun a x => m a (b1 a x), fun a x => m a (b2 a x), bj, r, q⟩
theorem useL_ok : ∀ {es : List EV} {vs : List V} {ds : List D} {ρ ρ' : Env} {Z : Hp} {S Sa T : Fp}, Wd Z H (fun a => (S a ∨ Sa a) ∨ T a) → (∀ a, S a → Sa a → False) → (∀ a, S a ∨ Sa a → T a → False) → EnvR K Z H ρ σ S → EVsR K Z H σ es vs Sa → useL es ρ = .ok ds ρ' →
    ∃ Z' S', Step Z H (fun a => (S a ∨ Sa a) ∨ T a) Z' H (fun a => (S' a ∨ Sa a) ∨ T a) ∧ (∀ a, S' a → S a) ∧ EnvR K Z' H ρ' σ S' ∧ RepL K Z' H ds vs Sa
  | [], [], ds, ρ, ρ', Z, S, Sa, T, w, _, _, er, _, u => by
    simp only [useL, ret, Res.ok.injEq] at u
    obtain ⟨rfl, rfl⟩ := u
    exact ⟨Z, S, Step.refl w, fun _ x => x, er, trivial⟩
  | [], _ :: _, _, _, _, _, _, _, _, _, _, _, _, h, _ => h.elim
  | _ :: _, [], _, _, _, _, _, _, _, _, _, _, _, h, _ => h.elim
  | e :: es, v :: vs, ds, ρ, ρ', Z, S, Sa, T, w, dj, djT, er, h, u => by
    obtain ⟨A1, A0, a1, a0, aj0, r, q0⟩ := h
    obtain ⟨A2, hA2⟩ : ∃ A2 : Fp, A2 = fun a => Sa a ∧ ¬ A1 a := ⟨_, rfl⟩
    have q : EVsR K Z H σ es vs A2 := q0.more fun a x => by rw [hA2]; exact ⟨a0 a x, fun y => aj0 a y x⟩
    have a2 : ∀ a, A2 a → Sa a := fun a x => by rw [hA2] at x; exact x.1
    have aj : ∀ a, A1 a → A2 a → False := fun a x y => by rw [hA2] at y; exact y.2 x
    have a12 : ∀ a, Sa a → A1 a ∨ A2 a := fun a x => by
      by_cases h : A1 a
      · exact .inl h
      · exact .inr (by rw [hA2]; exact ⟨x, h⟩)
    simp only [useL, bnd] at u
    cases u1 : use1 e ρ with
    | stuck => rw [u1] at u; cases u
    | exc x ρ1 => rw [u1] at u; cases u
    | ok d ρ1 =>
      simp only [u1] at u
      cases u2 : useL es ρ1 with
      | stuck => rw [u2] at u; cases u
      | exc x ρ2 => rw [u2] at u; cases u
      | ok ds' ρ2 =>
        simp only [u2, ret, Res.ok.injEq] at u
        obtain ⟨rfl, rfl⟩ := u
        have w1 : Wd Z H (fun a => (S a ∨ A1 a) ∨ (A2 a ∨ T a)) := w.less fun a x => x.elim (fun y => .inl (y.elim .inl fun z => .inr (a1 a z))) fun y => y.elim (fun z => .inl (.inr (a2 a z))) .inr
        obtain ⟨Z1, S1, st1, m1, er1, r1⟩ := use1_ok w1 (fun a x y => dj a x (a1 a y)) (fun a x y => y.elim (fun z => x.elim (fun t => dj a t (a2 a z)) fun t => aj a t z) fun z => djT a (x.elim .inl fun t => .inr (a1 a t)) z) er r u1
        have w2 : Wd Z1 H (fun a => (S1 a ∨ A2 a) ∨ (A1 a ∨ T a)) := st1.wd.less fun a x => x.elim (fun y => y.elim (fun z => .inl (.inl z)) fun z => .inr (.inl z)) fun y => y.elim (fun z => .inl (.inr z)) fun z => .inr (.inr z)
        have q1 : EVsR K Z1 H σ es vs A2 := by
          have stay : ∀ {es : List EV} {vs : List V} {B : Fp}, EVsR K Z H σ es vs B → EVsR K Z1 H σ es vs B := by
            intro es
            induction es with
            | nil => intro vs B h; cases vs with
              | nil => trivial
              | cons => exact h.elim
            | cons e es ih => intro vs B h; cases vs with
              | nil => exact h.elim
              | cons v vs =>
                obtain ⟨B1, B2, b1, b2, bj, r, q⟩ := h
                refine ⟨B1, B2, b1, b2, bj, ?_, ih q⟩
                cases e with
                | val d => exact Rep.move r st1.zz (fun _ _ _ x => x) fun _ x => x
                | ref i => exact r
          exact stay q
        obtain ⟨Z2, S2, st2, m2, er2, r2⟩ := useL_ok w2 (fun a x y => dj a (m1 a x) (a2 a y)) (fun a x y => y.elim (fun z => x.elim (fun t => dj a (m1 a t) (a1 a z)) fun t => aj a z t) fun z => djT a (x.elim (fun t => .inl (m1 a t)) fun t => .inr (a2 a t)) z) er1 q1 u2
        refine ⟨Z2, S2, ?_, fun a x => m1 a (m2 a x), er2, A1, A2, a1, a2, aj, r1.move st2.zz (fun _ _ _ x => x) fun _ x => x, r2⟩
        have st1' : Step Z H (fun a => (S a ∨ Sa a) ∨ T a) Z1 H (fun a => (S1 a ∨ A2 a) ∨ (A1 a ∨ T a)) := by
          have sub : ∀ a, ((S a ∨ A1 a) ∨ A2 a ∨ T a) → ((S a ∨ Sa a) ∨ T a) := fun a x => x.elim (fun y => .inl (y.elim .inl fun z => .inr (a1 a z))) fun y => y.elim (fun z => .inl (.inr (a2 a z))) .inr
          refine ⟨w2, st1.zz, fun a o n e => st1.fr a o (fun x => n (sub a x)) e, fun a x => (st1.new a ?_).elim (fun y => .inl ?_) .inr, fun a o e => (st1.znew a o e).elim .inl fun y => .inr (y.elim (fun z => .inl ?_) .inr)⟩
          · exact x.elim (fun y => y.elim (fun z => .inl (.inl z)) fun z => .inr (.inl z)) fun y => y.elim (fun z => .inl (.inr z)) fun z => .inr (.inr z)
          · exact y.elim (fun y => .inl (y.elim .inl fun z => .inr (a1 a z))) fun y => y.elim (fun z => .inl (.inr (a2 a z))) .inr
          · exact z.elim (fun y => .inl (y.elim .inl fun z => .inr (a1 a z))) fun y => y.elim (fun z => .inl (.inr (a2 a z))) .inr
        exact (st1'.trans st2).less fun a x => x.elim (fun y => y.elim (fun z => .inl (.inl z)) fun z => (a12 a z).elim (fun t => .inr (.inl t)) fun t => .inl (.inr t)) fun z => .inr (.inr z)
end
end Pm
namespace Pm
open PySem PySem.Spec PyProof.Rows L2
section
variable {K : PySem.W.Frag} {mg : Str → Option Value} {W : WX} {Z H : Hp} {S : Fp} {σ : Sl} {X : Cx} {A : Nat → Bool}
/-- lists and tuples have at most so many items -/
abbrev cap : Nat := 1000000
theorem cap_le {n : Nat} (h : n ≤ cap) : n ≤ sizeLine := Nat.le_trans h (by rw [sizeLine_eq]; decide)
def cellOf (vs : List V) : Kd → HO
  | .tup => .tup vs
  | _ => .lst vs
/-- a display -/
def disp (o : Bool) (k : Kd) (fs : M (List EV)) : M EV := bnd fs fun es => bnd (useL es) fun ds => fun ρ => if ds.length ≤ cap then .ok (.val (.node o k ds)) ρ else .stuck
theorem disp_of {o : Bool} {k : Kd} {fs : M (List EV)} {Q : VK} (h : tE K mg W (disp o k fs) σ H Q)
    (f : ∀ (vs : List V) (Z1 H1 : Hp) (S1 Sd : Fp) (ds : List D), Wd Z1 H1 (fun a => S1 a ∨ Sd a) → (∀ a, S1 a → Sd a → False) → RepL K Z1 H1 ds vs Sd → ds.length ≤ cap → ∀ p, H1 p = none →
      ∃ Z2 H2 Sp, Step Z1 H1 (fun a => S1 a ∨ Sd a) Z2 H2 (fun a => S1 a ∨ Sp a) ∧ (∀ a, S1 a → Sp a → False) ∧ (∀ a o, H1 a = some o → H2 a = some o) ∧ Rep K Z2 H2 (.node o k ds) (.ref p) Sp ∧ H2 = upd H1 p (cellOf vs k)) :
    tA K mg W fs σ H fun vs H1 => vs.length ≤ sizeLine ∧ ∀ p, H1 p = none → Q (.ref p) (upd H1 p (cellOf vs k)) := by
  obtain ⟨Z, ρ, S, w, er, o⟩ := h
  refine ⟨Z, ρ, S, w, er, ?_⟩
  simp only [disp, bnd] at o
  cases e1 : fs ρ with
  | stuck => rw [e1] at o; exact o
  | exc x ρ1 => rw [e1] at o; exact o
  | ok es ρ1 =>
    simp only [e1] at o
    intro vs Z1 H1 S1 Sa st1 dj1 er1 r1
    cases e2 : useL es ρ1 with
    | stuck => rw [e2] at o; exact o.elim
    | exc x ρ2 =>
      exfalso
      have no : ∀ (es : List EV) (ρ ρ2 : Env) (x : XD), useL es ρ ≠ .exc x ρ2 := by
        intro es
        induction es with
        | nil => intro ρ ρ2 x q; cases q
        | cons e es ih =>
          intro ρ ρ2 x q
          simp only [useL, bnd] at q
          cases u1 : use1 e ρ with
          | stuck => rw [u1] at q; cases q
          | exc y ρ3 =>
            cases e with
            | val d => simp only [use1] at u1; cases u1
            | ref i =>
              simp only [use1] at u1
              split at u1 <;> cases u1
          | ok d ρ3 =>
            simp only [u1] at q
            cases u2 : useL es ρ3 with
            | stuck => rw [u2] at q; cases q
            | exc y ρ4 => exact ih _ _ _ u2
            | ok ds ρ4 => simp only [u2, ret] at q; cases q
      exact no _ _ _ _ e2
    | ok ds ρ2 =>
      simp only [e2] at o
      by_cases hl : ds.length ≤ cap
      · rw [if_pos hl] at o
        have w1 : Wd Z1 H1 (fun a => (S1 a ∨ Sa a) ∨ Fp0 a) := st1.wd.less fun a x => x.elim id False.elim
        obtain ⟨Z2, S2, st2, m2, er2, r2⟩ := useL_ok w1 dj1 (fun _ _ x => x) er1 r1 e2
        have len := r2.length
        refine ⟨by rw [← len]; exact cap_le hl, fun p hp => ?_⟩
        have w2 : Wd Z2 H1 (fun a => S2 a ∨ Sa a) := st2.wd.less fun a x => .inl x
        obtain ⟨Z3, H3, Sp, st3, dj3, k3, r3, e3⟩ := f vs Z2 H1 S2 Sa ds w2 (fun a x y => dj1 a (m2 a x) y) r2 hl p hp
        rw [← e3]
        refine o (.ref p) Z3 H3 S2 Sp ?_ dj3 (er2.move st3.zz (fun a ob _ e => k3 a ob e) fun _ x => x) r3
        have st2' : Step Z1 H1 (fun a => S1 a ∨ Sa a) Z2 H1 (fun a => S2 a ∨ Sa a) := ⟨w2, st2.zz, fun a o n e _ => e, fun a x => .inl (x.elim (fun y => .inl (m2 a y)) .inr), fun a o e => (st2.znew a o e).elim .inl fun y => .inr (y.elim (fun z => z.elim .inl False.elim) .inr)⟩
        exact (st1.trans st2').trans st3
      · rw [if_neg hl] at o
        exact o.elim
theorem pe_T {es : List Expr} {fs : M (List EV)} {x1 : Nat} {pos : Pos} (h : PA X es (tA X.K X.mg W fs)) : PE X (.Tuple es x1 pos) (tE X.K X.mg W (disp false .tup fs)) :=
  PE.of (pe_tup h) fun σ H Q q => disp_of q fun vs Z1 H1 S1 Sd ds w dj r hl p hp =>
    ⟨upd Z1 p (.tup vs), upd H1 p (.tup vs), Sd, Step.allocZ w hp, dj, fun a o e => by rw [upd_ne (ne_of_none e hp)]; exact e,
      ⟨p, vs, rfl, SqT.of upd_same, r.move (Step.allocZ (o := .tup vs) w hp).zz (fun a o _ e => by rw [upd_ne (ne_of_none e hp)]; exact e) fun _ x => x⟩, rfl⟩
theorem pe_L {es : List Expr} {fs : M (List EV)} {pos : Pos} (h : PA X es (tA X.K X.mg W fs)) : PE X (.List es pos) (tE X.K X.mg W (disp true .lst fs)) :=
  PE.of (pe_lst h) fun σ H Q q => disp_of q fun vs Z1 H1 S1 Sd ds w dj r hl p hp =>
    ⟨Z1, upd H1 p (.lst vs), fun a => Sd a ∨ a = p, (Step.alloc w hp).less fun a x => x.elim (fun y => .inl (.inl y)) fun y => y.elim (fun z => .inl (.inr z)) .inr,
      fun a x y => y.elim (dj a x) fun z => w.dom a (.inl x) (by rw [z]; exact hp), fun a o e => by rw [upd_ne (ne_of_none e hp)]; exact e,
      ⟨p, vs, Sd, rfl, upd_same, .inr rfl, fun x => w.dom p (.inr x) hp, fun a x => .inl x, r.move (Same.refl Z1) (fun a o _ e => by rw [upd_ne (ne_of_none e hp)]; exact e) fun _ x => x⟩, rfl⟩
def tst (f : M EV) : M Bool := bnd f fun e => fun ρ => match peek1 ρ e with
  | some (.bl b) => .ok b ρ
  | _ => .stuck
theorem tT_tst {f : M EV} {Q : Bool → Hp → Prop} (h : tT K mg W (tst f) σ H Q) : tE K mg W f σ H fun x H1 => ∃ c, x = .bl c ∧ Q c H1 := by
  obtain ⟨Z, ρ, S, w, er, o⟩ := h
  refine ⟨Z, ρ, S, w, er, ?_⟩
  simp only [tst, bnd] at o
  cases e1 : f ρ with
  | stuck => rw [e1] at o; exact o
  | exc x ρ1 => rw [e1] at o; exact o
  | ok ev ρ1 =>
    simp only [e1] at o
    intro v Z1 H1 S1 Sa st1 dj1 er1 r1
    split at o
    · rename_i b hb
      have r := peek1_rep er1 r1 hb
      exact ⟨b, r, o Z1 H1 S1 (st1.less fun a x => .inl x) er1⟩
    · exact o.elim
theorem pt_v {e : Expr} {f : M EV} (h : PE X e (tE X.K X.mg W f)) (he : ∀ whole, isTrue e X.env whole = (do let v ← whole; standAt e.pos; holding [v] (truthy v))) : PT X e (tT X.K X.mg W (tst f)) :=
  PT.of (pt_val h he) fun _ _ _ q => tT_tst q
def andT (a b : M Bool) : M Bool := bnd a fun c => if c = true then b else ret false
def orT (a b : M Bool) : M Bool := bnd a fun c => if c = true then ret true else b
def notT (a : M Bool) : M Bool := bnd a fun c => ret (!c)
theorem tT_bnd {α : Type} {a : M Bool} {k : Bool → M α} {R : Env → Prop} {Q : Bool → Hp → Prop} {ρ : Env} (w : Wd Z H S) (er : EnvR K Z H ρ σ S)
    (hx : ∀ x ρ1, a ρ = .exc x ρ1 → XOut K mg W Z H S σ x ρ1) (hs : a ρ ≠ .stuck)
    (hk : ∀ c ρ1 Z1 H1 S1, a ρ = .ok c ρ1 → Step Z H S Z1 H1 S1 → EnvR K Z1 H1 ρ1 σ S1 → Q c H1) : tT K mg W a σ H Q := by
  refine ⟨Z, ρ, S, w, er, ?_⟩
  cases e : a ρ with
  | stuck => exact absurd e hs
  | exc x ρ1 => exact hx x ρ1 e
  | ok c ρ1 => exact fun Z1 H1 S1 st er1 => hk c ρ1 Z1 H1 S1 e st er1
theorem XOut.after {Z1 H1 : Hp} {S1 : Fp} {x : XD} {ρ' : Env} (st : Step Z H S Z1 H1 S1) (h : XOut K mg W Z H S σ x ρ') : XOut K mg W Z1 H1 S1 σ x ρ' := fun cls dd Z' H' S' st' er xr => h cls dd Z' H' S' (st.trans st') er xr
theorem OutT.after {Z1 H1 : Hp} {S1 : Fp} {r : Res Bool} {Q : Bool → Hp → Prop} (st : Step Z H S Z1 H1 S1) (h : OutT K mg W Z H S σ Q r) : OutT K mg W Z1 H1 S1 σ Q r := by
  cases r with
  | stuck => exact h
  | exc x ρ => exact XOut.after st h
  | ok b ρ => exact fun Z' H' S' st' er => h Z' H' S' (st.trans st') er
theorem OutE.after {Z1 H1 : Hp} {S1 : Fp} {r : Res EV} {Q : VK} (st : Step Z H S Z1 H1 S1) (h : OutE K mg W Z H S σ Q r) : OutE K mg W Z1 H1 S1 σ Q r := by
  cases r with
  | stuck => exact h
  | exc x ρ => exact XOut.after st h
  | ok b ρ => exact fun v Z' H' S' Sd st' dj er r => h v Z' H' S' Sd (st.trans st') dj er r
theorem OutS.next {Z1 H1 : Hp} {S1 : Fp} {r : Res Fl} {D : Ends} {σ1 : Sl} (kp : Keep A σ σ1) (st : Step Z H S Z1 H1 S1) (h : OutS K mg W A σ Z H S D r) : OutS K mg W A σ1 Z1 H1 S1 D r := by
  cases r with
  | stuck => exact h
  | exc x ρ => exact fun σ' k => XOut.after st (h σ' (kp.trans k))
  | ok b ρ => exact fun σ' v Z' H' S' Sd k st' dj er r => h σ' v Z' H' S' Sd (kp.trans k) (st.trans st') dj er r
theorem OutS.after {Z1 H1 : Hp} {S1 : Fp} {r : Res Fl} {D : Ends} (st : Step Z H S Z1 H1 S1) (h : OutS K mg W A σ Z H S D r) : OutS K mg W A σ Z1 H1 S1 D r := h.next (Keep.refl σ) st
theorem tT_and {a b : M Bool} {Q : Bool → Hp → Prop} (h : tT K mg W (andT a b) σ H Q) : tAnd (tT K mg W a) (tT K mg W b) σ H Q := by
  obtain ⟨Z, ρ, S, w, er, o⟩ := h
  simp only [andT, bnd] at o
  refine tT_bnd (k := fun _ => a) (R := fun _ => True) w er (fun x ρ1 e => by rw [e] at o; exact o) (fun e => by rw [e] at o; exact o) fun c ρ1 Z1 H1 S1 e st er1 => ?_
  simp only [e] at o
  cases c with
  | true => exact ⟨Z1, ρ1, S1, st.wd, er1, by simpa using OutT.after st o⟩
  | false => exact OutT.after (r := .ok false ρ1) st (by simpa [ret] using o) Z1 H1 S1 (Step.refl st.wd) er1
theorem tT_not {a : M Bool} {Q : Bool → Hp → Prop} (h : tT K mg W (notT a) σ H Q) : tNot (tT K mg W a) σ H Q := by
  obtain ⟨Z, ρ, S, w, er, o⟩ := h
  simp only [notT, bnd] at o
  refine tT_bnd (k := fun _ => a) (R := fun _ => True) w er (fun x ρ1 e => by rw [e] at o; exact o) (fun e => by rw [e] at o; exact o) fun c ρ1 Z1 H1 S1 e st er1 => ?_
  simp only [e, ret] at o
  exact o Z1 H1 S1 st er1
/-- and, or with bools ahead: values -/
def andE (a b : M EV) : M EV := bnd (tst a) fun c => if c = true then b else ret (.val (.bl false))
def orE (a b : M EV) : M EV := bnd (tst a) fun c => if c = true then ret (.val (.bl true)) else b
def notE (a : M EV) : M EV := bnd (tst a) fun c => ret (.val (.bl (!c)))
def ifE (c : M Bool) (a b : M EV) : M EV := bnd c fun t => if t = true then a else b
theorem tst_bnd {f : M EV} {R : V → Hp → Prop} {ρ : Env} (w : Wd Z H S) (er : EnvR K Z H ρ σ S)
    (hx : ∀ x ρ1, tst f ρ = .exc x ρ1 → XOut K mg W Z H S σ x ρ1) (hs : tst f ρ ≠ .stuck)
    (hk : ∀ c ρ1 Z1 H1 S1, tst f ρ = .ok c ρ1 → Step Z H S Z1 H1 S1 → EnvR K Z1 H1 ρ1 σ S1 → R (.bl c) H1) : tE K mg W f σ H R := by
  refine ⟨Z, ρ, S, w, er, ?_⟩
  simp only [tst, bnd] at hx hs hk
  cases e : f ρ with
  | stuck => simp only [e] at hs; exact absurd rfl hs
  | exc x ρ1 => simp only [e] at hx; exact hx x ρ1 rfl
  | ok ev ρ1 =>
    intro v Z1 H1 S1 Sa st dj er1 r1
    simp only [e] at hs hk
    split at hs
    · rename_i b hb
      simp only [hb] at hk
      have r : v = .bl b := peek1_rep er1 r1 hb
      subst r
      exact hk b ρ1 Z1 H1 S1 rfl (st.less fun a x => .inl x) er1
    · exact absurd rfl hs
theorem tE_and {a b : M EV} {Q : VK} (h : tE K mg W (andE a b) σ H Q) : tAndV (tE K mg W a) (tE K mg W b) σ H Q := by
  obtain ⟨Z, ρ, S, w, er, o⟩ := h
  simp only [andE, bnd] at o
  refine tst_bnd w er (fun x ρ1 e => by rw [e] at o; exact o) (fun e => by rw [e] at o; exact o) fun c ρ1 Z1 H1 S1 e st er1 => ?_
  simp only [e] at o
  refine ⟨c, rfl, ?_⟩
  cases c with
  | true => exact ⟨Z1, ρ1, S1, st.wd, er1, by simpa using OutE.after st o⟩
  | false => exact OutE.after (r := .ok (.val (.bl false)) ρ1) st (by simpa [ret] using o) (.bl false) Z1 H1 S1 Fp0 st.wd.nil (fun _ _ x => x) er1 rfl
theorem tE_or {a b : M EV} {Q : VK} (h : tE K mg W (orE a b) σ H Q) : tOrV (tE K mg W a) (tE K mg W b) σ H Q := by
  obtain ⟨Z, ρ, S, w, er, o⟩ := h
  simp only [orE, bnd] at o
  refine tst_bnd w er (fun x ρ1 e => by rw [e] at o; exact o) (fun e => by rw [e] at o; exact o) fun c ρ1 Z1 H1 S1 e st er1 => ?_
  simp only [e] at o
  refine ⟨c, rfl, ?_⟩
  cases c with
  | false => exact ⟨Z1, ρ1, S1, st.wd, er1, by simpa using OutE.after st o⟩
  | true => exact OutE.after (r := .ok (.val (.bl true)) ρ1) st (by simpa [ret] using o) (.bl true) Z1 H1 S1 Fp0 st.wd.nil (fun _ _ x => x) er1 rfl
theorem tE_not {a : M EV} {Q : VK} (h : tE K mg W (notE a) σ H Q) : tNotV (tE K mg W a) σ H Q := by
  obtain ⟨Z, ρ, S, w, er, o⟩ := h
  simp only [notE, bnd] at o
  refine tst_bnd w er (fun x ρ1 e => by rw [e] at o; exact o) (fun e => by rw [e] at o; exact o) fun c ρ1 Z1 H1 S1 e st er1 => ?_
  simp only [e, ret] at o
  exact ⟨c, rfl, o (.bl (!c)) Z1 H1 S1 Fp0 (st.trans st.wd.nil) (fun _ _ x => x) er1 rfl⟩
theorem tE_if {c : M Bool} {a b : M EV} {Q : VK} (h : tE K mg W (ifE c a b) σ H Q) : tIf (tT K mg W c) (tE K mg W a) (tE K mg W b) σ H Q := by
  obtain ⟨Z, ρ, S, w, er, o⟩ := h
  simp only [ifE, bnd] at o
  refine tT_bnd (k := fun _ => c) (R := fun _ => True) w er (fun x ρ1 e => by rw [e] at o; exact o) (fun e => by rw [e] at o; exact o) fun t ρ1 Z1 H1 S1 e st er1 => ?_
  simp only [e] at o
  cases t with
  | true => exact ⟨Z1, ρ1, S1, st.wd, er1, by simpa using OutE.after st o⟩
  | false => exact ⟨Z1, ρ1, S1, st.wd, er1, by simpa using OutE.after st o⟩
def sNx : M Fl := ret .nx
def seq (a b : M Fl) : M Fl := bnd a fun f => match f with
  | .nx => b
  | f => ret f
def ite (c : M Bool) (a b : M Fl) : M Fl := bnd c fun t => if t = true then a else b
def rtn (f : M EV) : M Fl := bnd f fun e => bnd (use1 e) fun d => ret (.rt d)
def drp (f : M EV) : M Fl := bnd f fun _ => ret .nx
theorem tS_nx {D : Ends} (h : tS K mg W A sNx D σ H) : tNext D σ H := by
  obtain ⟨Z, ρ, S, w, er, o⟩ := h
  exact o σ .non Z H S Fp0 (Keep.refl σ) w.nil (fun _ _ x => x) er trivial
theorem tS_seq {a b : M Fl} {D : Ends} (h : tS K mg W A (seq a b) D σ H) : tSeq (tS K mg W A a) (tS K mg W A b) D σ H := by
  obtain ⟨Z, ρ, S, w, er, o⟩ := h
  refine ⟨Z, ρ, S, w, er, ?_⟩
  simp only [seq, bnd] at o
  cases e1 : a ρ with
  | stuck => rw [e1] at o; exact o
  | exc x ρ1 => rw [e1] at o; exact o
  | ok f ρ1 =>
    simp only [e1] at o
    intro σ' v Z1 H1 S1 Sd kp st dj er1 r1
    cases f with
    | nx => exact ⟨Z1, ρ1, S1, st.wd.less fun a x => .inl x, er1, OutS.next kp (st.less fun a x => .inl x) o⟩
    | bk => exact o σ' v Z1 H1 S1 Sd kp st dj er1 r1
    | ct => exact o σ' v Z1 H1 S1 Sd kp st dj er1 r1
    | rt d => exact o σ' v Z1 H1 S1 Sd kp st dj er1 r1
theorem tS_if {c : M Bool} {a b : M Fl} {D : Ends} (h : tS K mg W A (ite c a b) D σ H) : tIfS (tT K mg W c) (tS K mg W A a) (tS K mg W A b) D σ H := by
  obtain ⟨Z, ρ, S, w, er, o⟩ := h
  simp only [ite, bnd] at o
  refine tT_bnd (k := fun _ => c) (R := fun _ => True) w er (fun x ρ1 e => by rw [e] at o; exact o σ (Keep.refl σ)) (fun e => by rw [e] at o; exact o) fun t ρ1 Z1 H1 S1 e st er1 => ?_
  simp only [e] at o
  cases t with
  | true => exact ⟨Z1, ρ1, S1, st.wd, er1, by simpa using OutS.after st o⟩
  | false => exact ⟨Z1, ρ1, S1, st.wd, er1, by simpa using OutS.after st o⟩
theorem use1_noexc {e : EV} {ρ ρ' : Env} {x : XD} : use1 e ρ ≠ .exc x ρ' := by
  cases e with
  | val d => exact fun q => nomatch q
  | ref i =>
    intro q
    simp only [use1] at q
    split at q <;> cases q
/-- an expression's data for keeps, then what follows -/
theorem keep_of {f : M EV} {k : D → M Fl} {D' : Ends} {R : V → Hp → Prop} {ρ : Env} (w : Wd Z H S) (er : EnvR K Z H ρ σ S) (o : OutS K mg W A σ Z H S D' (bnd f (fun e => bnd (use1 e) k) ρ))
    (hk : ∀ v d ρ1 Z1 H1 S1 Sd, Step Z H S Z1 H1 (fun a => S1 a ∨ Sd a) → (∀ a, S1 a → Sd a → False) → EnvR K Z1 H1 ρ1 σ S1 → Rep K Z1 H1 d v Sd → OutS K mg W A σ Z H S D' (k d ρ1) → R v H1) : tE K mg W f σ H R := by
  refine ⟨Z, ρ, S, w, er, ?_⟩
  simp only [bnd] at o
  cases e1 : f ρ with
  | stuck => rw [e1] at o; exact o
  | exc x ρ1 => rw [e1] at o; exact o σ (Keep.refl σ)
  | ok ev ρ1 =>
    simp only [e1] at o
    intro v Z1 H1 S1 Sa st dj er1 r1
    cases e2 : use1 ev ρ1 with
    | stuck => rw [e2] at o; exact o.elim
    | exc x ρ2 => exact absurd e2 use1_noexc
    | ok d ρ2 =>
      simp only [e2] at o
      have w1 : Wd Z1 H1 (fun a => (S1 a ∨ Sa a) ∨ Fp0 a) := st.wd.less fun a x => x.elim id False.elim
      obtain ⟨Z2, S2, st2, m2, er2, r2⟩ := use1_ok w1 dj (fun _ _ x => x) er1 r1 e2
      have st2' : Step Z1 H1 (fun a => S1 a ∨ Sa a) Z2 H1 (fun a => S2 a ∨ Sa a) := ⟨st2.wd.less fun a x => .inl x, st2.zz, fun a o n e _ => e, fun a x => .inl (x.elim (fun y => .inl (m2 a y)) .inr), fun a o e => (st2.znew a o e).elim .inl fun y => .inr (y.elim (fun z => z.elim .inl False.elim) .inr)⟩
      exact hk v d ρ2 Z2 H1 S2 Sa (st.trans st2') (fun a x y => dj a (m2 a x) y) er2 r2 o
theorem tS_rtn {f : M EV} {D : Ends} (h : tS K mg W A (rtn f) D σ H) : tRet (tE K mg W f) D σ H := by
  obtain ⟨Z, ρ, S, w, er, o⟩ := h
  exact keep_of w er o fun v d ρ1 Z1 H1 S1 Sd st dj er1 r1 o1 => o1 σ v Z1 H1 S1 Sd (Keep.refl σ) st dj er1 r1
theorem tS_drp {f : M EV} {D : Ends} (h : tS K mg W A (drp f) D σ H) : tDrop (tE K mg W f) D σ H := by
  obtain ⟨Z, ρ, S, w, er, o⟩ := h
  refine ⟨Z, ρ, S, w, er, ?_⟩
  simp only [drp, bnd] at o
  cases e1 : f ρ with
  | stuck => rw [e1] at o; exact o
  | exc x ρ1 => rw [e1] at o; exact o σ (Keep.refl σ)
  | ok ev ρ1 =>
    simp only [e1, ret] at o
    exact fun v Z1 H1 S1 Sa st dj er1 r1 => o σ .non Z1 H1 S1 Fp0 (Keep.refl σ) (st.less fun a x => x.elim .inl False.elim) (fun _ _ x => x) er1 trivial
/-- a local name is returned: it is the def's own -/
def mov (i : Nat) : M EV := fun ρ => match ρ.getD i none with
  | some d => .ok (.val d) (ρ.set i none)
  | none => .stuck
theorem tE_mov {i : Nat} {Q : VK} (h : tE K mg W (mov i) σ H Q) : tVar i σ H Q := by
  obtain ⟨Z, ρ, S, w, er, o⟩ := h
  simp only [mov] at o
  cases e : ρ.getD i none with
  | none => simp only [e] at o; exact o.elim
  | some d =>
    simp only [e] at o
    obtain ⟨v, S1, S2, hv, s1, s2, dj, r, er2⟩ := er.take (getD_some e)
    exact ⟨v, hv, o v Z H S2 S1 ((Step.refl w).less fun a x => x.elim (s2 a) (s1 a)) (fun a x y => dj a y x) er2 r⟩
abbrev Tg := D → M Unit
def tG (K : PySem.W.Frag) (A : Nat → Bool) (g : Tg) : TG := fun v σ H Q => ∃ Z ρ S Sd d, Wd Z H (fun a => S a ∨ Sd a) ∧ (∀ a, S a → Sd a → False) ∧ EnvR K Z H ρ σ S ∧ Rep K Z H d v Sd ∧
  match g d ρ with
  | .ok _ ρ' => ∀ σ' Z' H' S', Keep A σ σ' → Step Z H (fun a => S a ∨ Sd a) Z' H' S' → EnvR K Z' H' ρ' σ' S' → Q σ' H'
  | _ => False
def tGs (K : PySem.W.Frag) (A : Nat → Bool) (g : List D → M Unit) : TGs := fun vs σ H Q => ∃ Z ρ S Sd ds, Wd Z H (fun a => S a ∨ Sd a) ∧ (∀ a, S a → Sd a → False) ∧ EnvR K Z H ρ σ S ∧ RepL K Z H ds vs Sd ∧
  match g ds ρ with
  | .ok _ ρ' => ∀ σ' Z' H' S', Keep A σ σ' → Step Z H (fun a => S a ∨ Sd a) Z' H' S' → EnvR K Z' H' ρ' σ' S' → Q σ' H'
  | _ => False
theorem PG.of {tg : Expr} {t t' : TG} (h : PG X tg t) (i : ∀ v σ H Q, t' v σ H Q → t v σ H Q) : PG X tg t' := ⟨fun p s σ H v u Q I r q => h.run p s σ H v u Q I r (i v σ H Q q)⟩
theorem PGs.of {tg : List Expr} {t t' : TGs} (h : PGs X tg t) (i : ∀ v σ H Q, t' v σ H Q → t v σ H Q) : PGs X tg t' := ⟨fun p s σ H v u Q I r q => h.run p s σ H v u Q I r (i v σ H Q q)⟩
def gN (i : Nat) : Tg := fun d ρ => if i < ρ.length then .ok () (ρ.set i (some d)) else .stuck
theorem tG_N {i : Nat} {v : V} {Q : Sl → Hp → Prop} (hA : A i = true) (h : tG K A (gN i) v σ H Q) : gName i v σ H Q := by
  obtain ⟨Z, ρ, S, Sd, d, w, dj, er, r, o⟩ := h
  simp only [gN] at o
  by_cases hi : i < ρ.length
  · rw [if_pos hi] at o
    exact o _ Z H (fun a => S a ∨ Sd a) ⟨fun j hj => List.getElem?_set_ne (fun e => by rw [← e, hA] at hj; cases hj), List.length_set⟩ (Step.refl w) (EnvR.put (er.drop i) hi r (fun a x => .inr x) (fun a x => .inl x) fun a x y => dj a y x)
  · rw [if_neg hi] at o
    exact o.elim
def gs0 : List D → M Unit := fun ds ρ => match ds with
  | [] => .ok () ρ
  | _ => .stuck
def gsC (g : Tg) (gs : List D → M Unit) : List D → M Unit := fun ds => match ds with
  | d :: ds => bnd (g d) fun _ => gs ds
  | [] => fun _ => .stuck
def gT (gs : List D → M Unit) (n : Nat) : Tg := fun d => match d with
  | .node _ .tup ds => if ds.length = n then gs ds else fun _ => .stuck
  | _ => fun _ => .stuck
theorem tGs_0 {vs : List V} {Q : Sl → Hp → Prop} (h : tGs K A gs0 vs σ H Q) : gNil vs σ H Q := by
  obtain ⟨Z, ρ, S, Sd, ds, w, dj, er, r, o⟩ := h
  cases ds with
  | cons d ds => simp only [gs0] at o
  | nil =>
    cases vs with
    | cons v vs => exact r.elim
    | nil => exact ⟨rfl, by simp only [gs0] at o; exact o σ Z H S (Keep.refl σ) ((Step.refl w).less fun a x => .inl x) er⟩
theorem tGs_C {g : Tg} {gs : List D → M Unit} {vs : List V} {Q : Sl → Hp → Prop} (h : tGs K A (gsC g gs) vs σ H Q) : gCons (tG K A g) (tGs K A gs) vs σ H Q := by
  obtain ⟨Z, ρ, S, Sd, ds, w, dj, er, r, o⟩ := h
  cases ds with
  | nil => simp only [gsC] at o
  | cons d ds =>
    cases vs with
    | nil => exact r.elim
    | cons v vs =>
      obtain ⟨A1, A2, a1, a2, aj, r1, r2⟩ := r
      simp only [gsC, bnd] at o
      refine ⟨v, vs, rfl, Z, ρ, S, A1, d, w.less fun a x => x.elim .inl fun y => .inr (a1 a y), fun a x y => dj a x (a1 a y), er, r1, ?_⟩
      cases e1 : g d ρ with
      | stuck => simp only [e1] at o
      | exc x ρ1 => simp only [e1] at o
      | ok u ρ1 =>
        simp only [e1] at o
        intro σ1 Z1 H1 S1 kp st er1
        have w' : Wd Z H (fun a => (S a ∨ A1 a) ∨ A2 a) := w.less fun a x => x.elim (fun y => y.elim .inl fun z => .inr (a1 a z)) fun y => .inr (a2 a y)
        have d1 : ∀ a, (S a ∨ A1 a) → A2 a → False := fun a x y => x.elim (fun z => dj a z (a2 a y)) fun z => aj a z y
        have st' := st.frame w' d1
        refine ⟨Z1, ρ1, S1, A2, ds, st'.wd, st.apart (fun a x => w'.live a (.inr x)) d1, er1, st.stayL d1 r2, ?_⟩
        cases e2 : gs ds ρ1 with
        | stuck => rw [e2] at o; exact o
        | exc x ρ2 => rw [e2] at o; exact o
        | ok u2 ρ2 =>
          rw [e2] at o
          intro σ2 Z2 H2 S2 kp2 st2 er2
          refine o σ2 Z2 H2 S2 (kp.trans kp2) ?_ er2
          have st0 : Step Z H (fun a => S a ∨ Sd a) Z1 H1 (fun a => S1 a ∨ A2 a) := ⟨st'.wd, st'.zz, fun a o n e => st'.fr a o (fun x => n (x.elim (fun y => y.elim .inl fun z => .inr (a1 a z)) fun y => .inr (a2 a y))) e,
            fun a x => (st'.new a x).elim (fun y => .inl (y.elim (fun y => y.elim .inl fun z => .inr (a1 a z)) fun y => .inr (a2 a y))) .inr, fun a o e => (st'.znew a o e).elim .inl fun y => .inr (y.elim (fun y => .inl (y.elim (fun y => y.elim .inl fun z => .inr (a1 a z)) fun y => .inr (a2 a y))) .inr)⟩
          exact st0.trans st2
theorem tG_T {gs : List D → M Unit} {n : Nat} {v : V} {Q : Sl → Hp → Prop} (h : tG K A (gT gs n) v σ H Q) : gTup K n (tGs K A gs) v σ H Q := by
  obtain ⟨Z, ρ, S, Sd, d, w, dj, er, r, o⟩ := h
  cases d with
  | node b k ds =>
    cases k with
    | tup =>
      simp only [gT] at o
      by_cases hn : ds.length = n
      · rw [if_pos hn] at o
        cases b with
        | false =>
          obtain ⟨a, ys, rfl, c, rl⟩ := r
          exact ⟨a, ys, rfl, SqT.sam c w.same, by rw [← rl.length]; exact hn, Z, ρ, S, Sd, ds, w, dj, er, rl, o⟩
        | true =>
          obtain ⟨a, ys, rfl, c, rl⟩ := r
          exact ⟨a, ys, rfl, SqT.sam c.1 w.same, by rw [← rl.length]; exact hn, Z, ρ, S, Sd, ds, w, dj, er, rl, o⟩
      · rw [if_neg hn] at o
        simp only at o
    | _ => simp only [gT] at o
  | _ => simp only [gT] at o
def asg (f : M EV) (g : Tg) : M Fl := bnd f fun e => bnd (use1 e) fun d => fun ρ => match g d ρ with
  | .ok _ ρ' => .ok .nx ρ'
  | _ => .stuck
theorem tS_asg {f : M EV} {g : Tg} {D : Ends} (h : tS K mg W A (asg f g) D σ H) : tAsg (tE K mg W f) (tG K A g) D σ H := by
  obtain ⟨Z, ρ, S, w, er, o⟩ := h
  refine keep_of w er o fun v d ρ1 Z1 H1 S1 Sd st dj er1 r1 o1 => ?_
  refine ⟨Z1, ρ1, S1, Sd, d, st.wd, dj, er1, r1, ?_⟩
  cases e1 : g d ρ1 with
  | stuck => simp only [e1] at o1; exact o1
  | exc x ρ2 => simp only [e1] at o1; exact o1
  | ok u ρ2 =>
    simp only [e1] at o1
    exact fun σ' Z' H' S' kp st' er' => o1 σ' .non Z' H' S' Fp0 kp (st.trans (st'.less fun a x => x.elim id False.elim)) (fun _ _ x => x) er' trivial
end
end Pm
namespace Pm
open PySem PySem.Spec PyProof.Rows L2
section
variable {K : PySem.W.Frag} {mg : Str → Option Value} {W : WX} {Z H : Hp} {S : Fp} {σ : Sl} {X : Cx} {A : Nat → Bool}
def wIt (c : M Bool) (b : M Fl) : Nat → Env → Option (Res Fl)
  | 0, _ => none
  | n + 1, ρ => match c ρ with
    | .stuck => some .stuck
    | .exc x ρ1 => some (.exc x ρ1)
    | .ok false ρ1 => some (.ok .nx ρ1)
    | .ok true ρ1 => match b ρ1 with
      | .stuck => some .stuck
      | .exc x ρ2 => some (.exc x ρ2)
      | .ok (.rt d) ρ2 => some (.ok (.rt d) ρ2)
      | .ok .bk ρ2 => some (.ok .nx ρ2)
      | .ok .nx ρ2 => wIt c b n ρ2
      | .ok .ct ρ2 => wIt c b n ρ2
noncomputable def whl (c : M Bool) (b : M Fl) : M Fl := fun ρ => open Classical in if h : ∃ n r, wIt c b n ρ = some r then Classical.choose (Classical.choose_spec h) else .stuck
theorem wIt_more {c : M Bool} {b : M Fl} : ∀ {n : Nat} {ρ : Env} {r : Res Fl}, wIt c b n ρ = some r → ∀ k, wIt c b (n + k) ρ = some r
  | 0, _, _, h, _ => nomatch h
  | n + 1, ρ, r, h, k => by
    rw [show n + 1 + k = (n + k) + 1 by omega]
    simp only [wIt] at h ⊢
    split at h
    · exact h
    · exact h
    · exact h
    · split at h
      · exact h
      · exact h
      · exact h
      · exact h
      · exact wIt_more h k
      · exact wIt_more h k
theorem wIt_one {c : M Bool} {b : M Fl} {n m : Nat} {ρ : Env} {r r' : Res Fl} (h : wIt c b n ρ = some r) (h' : wIt c b m ρ = some r') : r = r' := by
  have a := wIt_more h m
  have b' := wIt_more h' n
  rw [Nat.add_comm m n, a] at b'
  exact Option.some.inj b'
theorem whl_of {c : M Bool} {b : M Fl} {n : Nat} {ρ : Env} {r : Res Fl} (h : wIt c b n ρ = some r) : whl c b ρ = r := by
  have q : ∃ n r, wIt c b n ρ = some r := ⟨n, r, h⟩
  unfold whl
  rw [dif_pos q]
  exact wIt_one (Classical.choose_spec (Classical.choose_spec q)) h
/-- one turn of a while -/
theorem whl_eq {c : M Bool} {b : M Fl} {ρ : Env} : whl c b ρ = match c ρ with
    | .stuck => .stuck
    | .exc x ρ1 => .exc x ρ1
    | .ok false ρ1 => .ok .nx ρ1
    | .ok true ρ1 => match b ρ1 with
      | .stuck => .stuck
      | .exc x ρ2 => .exc x ρ2
      | .ok (.rt d) ρ2 => .ok (.rt d) ρ2
      | .ok .bk ρ2 => .ok .nx ρ2
      | .ok .nx ρ2 => whl c b ρ2
      | .ok .ct ρ2 => whl c b ρ2 := by
  have go : ∀ {ρ2 : Env}, (∀ n, wIt c b (n + 1) ρ = wIt c b n ρ2) → whl c b ρ = whl c b ρ2 := fun {ρ2} f => by
    by_cases q : ∃ n r, wIt c b n ρ2 = some r
    · obtain ⟨n, r, e⟩ := q
      rw [whl_of e]
      exact whl_of (n := n + 1) (by rw [f]; exact e)
    · have q2 : ¬ ∃ n r, wIt c b n ρ = some r := fun ⟨n, r, e⟩ => by
        cases n with
        | zero => cases e
        | succ n => exact q ⟨n, r, by rw [← f]; exact e⟩
      unfold whl
      rw [dif_neg q, dif_neg q2]
  cases e1 : c ρ with
  | stuck => exact whl_of (n := 1) (by simp only [wIt, e1])
  | exc x ρ1 => exact whl_of (n := 1) (by simp only [wIt, e1])
  | ok t ρ1 =>
    cases t with
    | false => exact whl_of (n := 1) (by simp only [wIt, e1])
    | true =>
      simp only
      cases e2 : b ρ1 with
      | stuck => exact whl_of (n := 1) (by simp only [wIt, e1, e2])
      | exc x ρ2 => exact whl_of (n := 1) (by simp only [wIt, e1, e2])
      | ok f ρ2 =>
        cases f with
        | rt d => exact whl_of (n := 1) (by simp only [wIt, e1, e2])
        | bk => exact whl_of (n := 1) (by simp only [wIt, e1, e2])
        | nx => exact go fun n => by simp only [wIt, e1, e2]
        | ct => exact go fun n => by simp only [wIt, e1, e2]
def WalkR (K : PySem.W.Frag) (J : It) (Z : Hp) (ds : List D) : Prop := ∀ (Z' H' : Hp), Same Z Z' → Sam Z' H' → (∀ i, ds.length ≤ i → J.stop i H') ∧
  ∀ i d, ds[i]? = some d → J.go i H' ∧ ∀ x H'' S', Wd Z' H' S' → J.yld i H' x H'' → ∃ Z'', Step Z' H' S' Z'' H'' S' ∧ (∀ a o, H' a = some o → H'' a = some o) ∧ Rep K Z'' H'' d x Fp0
def OutI (K : PySem.W.Frag) (mg : Str → Option Value) (W : WX) (Z H : Hp) (S : Fp) (σ : Sl) (R : It → Hp → Prop) : Res (List D) → Prop
  | .stuck => False
  | .ok ds ρ' => ∀ J Z' H' S', Step Z H S Z' H' S' → EnvR K Z' H' ρ' σ S' → WalkR K J Z' ds → R J H'
  | .exc x ρ' => XOut K mg W Z H S σ x ρ'
def tI (K : PySem.W.Frag) (mg : Str → Option Value) (W : WX) (s : M (List D)) : TI := fun σ H R => ∃ Z ρ S, Wd Z H S ∧ EnvR K Z H ρ σ S ∧ OutI K mg W Z H S σ R (s ρ)
theorem PI.of {tg iter : Expr} {t t' : TI} (h : PI X tg iter t) (i : ∀ σ H Q, t' σ H Q → t σ H Q) : PI X tg iter t' := ⟨fun p s σ H R I q => h.run p s σ H R I (i σ H R q)⟩
def forIt (g : Tg) (b : M Fl) : List D → M Fl
  | [] => ret .nx
  | d :: ds => fun ρ => match g d ρ with
    | .ok _ ρ' => bnd b (fun f => match f with
      | .nx => forIt g b ds
      | .ct => forIt g b ds
      | .bk => ret .nx
      | .rt d => ret (.rt d)) ρ'
    | _ => .stuck
def forS (s : M (List D)) (g : Tg) (b : M Fl) : M Fl := bnd s (forIt g b)
theorem tS_for {s : M (List D)} {g : Tg} {b : M Fl} {D : Ends} (h : tS K mg W A (forS s g b) D σ H) : tFor (tI K mg W s) (tG K A g) (tS K mg W A b) D σ H := by
  obtain ⟨Z, ρ, S, w, er, o⟩ := h
  refine ⟨Z, ρ, S, w, er, ?_⟩
  simp only [forS, bnd] at o
  cases e1 : s ρ with
  | stuck => rw [e1] at o; exact o
  | exc x ρ1 => rw [e1] at o; exact o σ (Keep.refl σ)
  | ok ds ρ1 =>
    simp only [e1] at o
    intro J Z1 H1 S1 st er1 wk
    refine ⟨fun i m σ' H' => ∃ Z' ρ' S', Same Z1 Z' ∧ Wd Z' H' S' ∧ EnvR K Z' H' ρ' σ' S' ∧ i + m = ds.length ∧ OutS K mg W A σ' Z' H' S' D (forIt g b (ds.drop i) ρ'), ⟨ds.length, Z1, ρ1, S1, Same.refl _, st.wd, er1, by omega, OutS.after st o⟩, ?_⟩
    rintro i m σ2 H2 ⟨Z2, ρ2, S2, z2, w2, er2, him, o2⟩
    obtain ⟨w3, w4⟩ := wk Z2 H2 z2 w2.same
    by_cases hi : i < ds.length
    · obtain ⟨go, yl⟩ := w4 i ds[i] (List.getElem?_eq_getElem hi)
      have ed : ds.drop i = ds[i] :: ds.drop (i + 1) := List.drop_eq_getElem_cons hi
      rw [ed] at o2
      refine .inr ⟨go, fun σ' H' => ∃ Z' ρ' S', Same Z1 Z' ∧ Wd Z' H' S' ∧ EnvR K Z' H' ρ' σ' S' ∧ (i + 1) + (m - 1) = ds.length ∧ OutS K mg W A σ' Z' H' S' D (forIt g b (ds.drop (i + 1)) ρ'), fun σ' H' q => ⟨m - 1, by omega, q⟩, fun x H3 y => ?_⟩
      obtain ⟨Z3, st3, k3, r3⟩ := yl x H3 S2 w2 y
      have er3 : EnvR K Z3 H3 ρ2 σ2 S2 := er2.move st3.zz (fun a o _ e => k3 a o e) fun _ x => x
      refine ⟨Z3, ρ2, S2, Fp0, ds[i], st3.wd.less fun a x => x.elim id False.elim, fun _ _ x => x, er3, r3, ?_⟩
      have o3 := OutS.after st3 o2
      simp only [forIt, bnd] at o3
      cases e2 : g ds[i] ρ2 with
      | stuck => simp only [e2] at o3; exact o3
      | exc x ρ3 => simp only [e2] at o3; exact o3
      | ok u ρ3 =>
        simp only [e2] at o3
        intro σ4 Z4 H4 S4 kp4 st4 er4
        have st34 : Step Z3 H3 S2 Z4 H4 S4 := (Step.less (Step.refl st3.wd) (S2 := fun a => S2 a ∨ Fp0 a) (fun a x => x.elim id False.elim)).trans st4
        have zz4 : Same Z1 Z4 := z2.trans (st3.zz.trans st4.zz)
        refine ⟨Z4, ρ3, S4, st4.wd, er4, ?_⟩
        cases e3 : b ρ3 with
        | stuck => simp only [e3] at o3; exact o3
        | exc x ρ4 => simp only [e3] at o3; exact fun σ' k => XOut.after st34 (o3 σ' (kp4.trans k))
        | ok f ρ4 =>
          simp only [e3] at o3
          intro σ5 v Z5 H5 S5 Sd kp5 st5 dj er5 r5
          have again : OutS K mg W A σ2 Z3 H3 S2 D (forIt g b (ds.drop (i + 1)) ρ4) → ∃ Z' ρ' S', Same Z1 Z' ∧ Wd Z' H5 S' ∧ EnvR K Z' H5 ρ' σ5 S' ∧ (i + 1) + (m - 1) = ds.length ∧ OutS K mg W A σ5 Z' H5 S' D (forIt g b (ds.drop (i + 1)) ρ') := fun q =>
            ⟨Z5, ρ4, S5, zz4.trans st5.zz, st5.wd.less fun a x => .inl x, er5, by omega, OutS.next (kp4.trans kp5) ((st34.trans st5).less fun a x => .inl x) q⟩
          cases f with
          | rt d => exact o3 σ5 v Z5 H5 S5 Sd (kp4.trans kp5) (st34.trans st5) dj er5 r5
          | bk => exact o3 σ5 .non Z5 H5 S5 Fp0 (kp4.trans kp5) (st34.trans (st5.less fun a x => x.elim .inl False.elim)) (fun _ _ x => x) er5 trivial
          | nx => exact again o3
          | ct => exact again o3
    · refine .inl ⟨w3 i (by omega), ?_⟩
      rw [List.drop_eq_nil_of_le (by omega)] at o2
      exact o2 σ2 .non Z2 H2 S2 Fp0 (Keep.refl σ2) w2.nil (fun _ _ x => x) er2 trivial
theorem ps_forS {tg iter : Expr} {body : List Stmt} {s : M (List D)} {g : Tg} {b : M Fl} {pos : Pos} (hp : PassesOwn (model X.prog X.w) X.A X.env X.xe) (hc : X.calm = true) (hi : PI X tg iter (tI X.K X.mg W s)) (hg : PG X tg (tG X.K A g))
    (hb : PSs X body (tS X.K X.mg W A b)) (hs : ∀ x, foldedSetIterable iter X.env x = pure x) : PS X (.For tg iter body [] pos) (tS X.K X.mg W A (forS s g b)) :=
  PS.of (ps_for hp hc hi hg hb hs) fun _ _ _ q => tS_for q
/-- a list or a tuple: what it holds is frozen -/
def srcSeq (f : M EV) (k : Kd) : M (List D) := bnd f fun e => bnd (use1 e) fun d => match d with
  | .node _ k' ds => if k' = k then ret (frzL ds) else fun _ => .stuck
  | _ => fun _ => .stuck
theorem srcSeq_of {f : M EV} {k : Kd} {R : It → Hp → Prop} (h : tI K mg W (srcSeq f k) σ H R) (hk : k = .lst ∨ k = .tup) :
    tE K mg W f σ H fun x H1 => ∃ a, x = .ref a ∧ ∃ Z' ys ds, Sam Z' H1 ∧ Frd K Z' a ys k ∧ RepL K Z' H1 ds ys Fp0 ∧ ∀ J, WalkR K J Z' ds → R J H1 := by
  obtain ⟨Z, ρ, S, w, er, o⟩ := h
  refine ⟨Z, ρ, S, w, er, ?_⟩
  simp only [srcSeq, bnd] at o
  cases e1 : f ρ with
  | stuck => rw [e1] at o; exact o
  | exc x ρ1 => rw [e1] at o; exact o
  | ok ev ρ1 =>
    simp only [e1] at o
    intro v Z1 H1 S1 Sa st1 dj1 er1 r1
    cases e2 : use1 ev ρ1 with
    | stuck => rw [e2] at o; exact o.elim
    | exc x ρ2 => exact absurd e2 use1_noexc
    | ok d ρ2 =>
      simp only [e2] at o
      have w1 : Wd Z1 H1 (fun a => (S1 a ∨ Sa a) ∨ Fp0 a) := st1.wd.less fun a x => x.elim id False.elim
      obtain ⟨Z2, S2, st2, m2, er2, r2⟩ := use1_ok w1 dj1 (fun _ _ x => x) er1 r1 e2
      have st2' : Step Z1 H1 (fun a => S1 a ∨ Sa a) Z2 H1 (fun a => S2 a ∨ Sa a) := ⟨st2.wd.less fun a x => .inl x, st2.zz, fun a o n e _ => e, fun a x => .inl (x.elim (fun y => .inl (m2 a y)) .inr), fun a o e => (st2.znew a o e).elim .inl fun y => .inr (y.elim (fun z => z.elim .inl False.elim) .inr)⟩
      cases d with
      | node b k' ds =>
        simp only at o
        by_cases hk' : k' = k
        · subst hk'
          rw [if_pos rfl] at o
          simp only [ret] at o
          have w2 := st2'.wd
          have st3 : Step Z2 H1 (fun a => S2 a ∨ Sa a) (thaw Z2 H1 Sa) H1 S2 := Step.freeze w2 (fun a x => .inr x) (fun a x => .inl x) fun a x y => dj1 a (m2 a x) y
          have r3 := Rep.frz (S := Sa) (H' := H1) r2 (fun a x => w2.sep a (.inr x)) fun _ x => x
          obtain ⟨a, ys, rfl, c, rl⟩ := rep_frd r3
          exact ⟨a, rfl, thaw Z2 H1 Sa, ys, frzL ds, st3.wd.same, c, rl, fun J wk => o J _ H1 S2 ((st1.trans st2').trans st3) (er2.move st3.zz (fun _ _ _ x => x) fun _ x => x) wk⟩
        · rw [if_neg hk'] at o
          exact o.elim
      | _ => exact o.elim
theorem walk_tup {a : Addr} {ys : List V} {ds : List D} {H1 : Hp} (c : SqT K Z a ys) (rl : RepL K Z H1 ds ys Fp0) : WalkR K (Itt K a) Z ds := by
  intro Z' H' z1 z2
  have c' : SqT K H' a ys := SqT.sam (SqT.same c z1) z2
  refine ⟨fun i hi => ⟨ys, c', by rw [← rl.length]; exact hi⟩, fun i d hd => ?_⟩
  obtain ⟨x, hx, rx⟩ := rl.get hd
  refine ⟨⟨ys, x, c', hx⟩, fun y H'' S' w h => ?_⟩
  obtain ⟨rfl, h⟩ := h
  have e := h ys c'
  rw [hx] at e
  cases e
  exact ⟨Z', Step.refl w, fun _ _ e => e, rx.move z1 (fun _ _ x => x.elim) fun _ x => x⟩
theorem walk_lst' {a : Addr} {ys : List V} {ds : List D} {H1 : Hp} (c : SqL K Z a ys) (rl : RepL K Z H1 ds ys Fp0) : WalkR K (Itl K a) Z ds := by
  intro Z' H' z1 z2
  have c' : SqL K H' a ys := Sam.seq z2 (Same.seq z1 c)
  refine ⟨fun i hi => ⟨ys, c', by rw [← rl.length]; exact hi⟩, fun i d hd => ?_⟩
  obtain ⟨x, hx, rx⟩ := rl.get hd
  refine ⟨⟨ys, x, c', hx⟩, fun y H'' S' w h => ?_⟩
  obtain ⟨rfl, h⟩ := h
  have e := h ys c'
  rw [hx] at e
  cases e
  exact ⟨Z', Step.refl w, fun _ _ e => e, rx.move z1 (fun _ _ x => x.elim) fun _ x => x⟩
theorem pi_seqL {tg l : Expr} {f : M EV} (h : PE X l (tE X.K X.mg W f)) : PI X tg l (tI X.K X.mg W (srcSeq f .lst)) :=
  PI.of (pi_list h) fun σ H R q => by
    obtain ⟨Z, ρ, S, w, er, o⟩ := srcSeq_of q (.inl rfl)
    refine ⟨Z, ρ, S, w, er, ?_⟩
    cases e : f ρ with
    | stuck => rw [e] at o; exact o
    | exc x ρ1 => rw [e] at o; exact o
    | ok ev ρ1 =>
      rw [e] at o
      intro v Z1 H1 S1 Sd st dj er1 r1
      obtain ⟨a, rfl, Z', ys, ds, sm, c, rl, k⟩ := o v Z1 H1 S1 Sd st dj er1 r1
      exact ⟨a, rfl, ⟨ys, Sam.seq sm (SqL.of c)⟩, k _ (walk_lst' (SqL.of c) rl)⟩
theorem pi_seqT {tg l : Expr} {f : M EV} (h : PE X l (tE X.K X.mg W f)) : PI X tg l (tI X.K X.mg W (srcSeq f .tup)) :=
  PI.of (pi_tup h) fun σ H R q => by
    obtain ⟨Z, ρ, S, w, er, o⟩ := srcSeq_of q (.inr rfl)
    refine ⟨Z, ρ, S, w, er, ?_⟩
    cases e : f ρ with
    | stuck => rw [e] at o; exact o
    | exc x ρ1 => rw [e] at o; exact o
    | ok ev ρ1 =>
      rw [e] at o
      intro v Z1 H1 S1 Sd st dj er1 r1
      obtain ⟨a, rfl, Z', ys, ds, sm, c, rl, k⟩ := o v Z1 H1 S1 Sd st dj er1 r1
      exact ⟨a, rfl, ⟨ys, SqT.sam c sm⟩, k _ (walk_tup c rl)⟩
end
end Pm
namespace Pm
open PySem PySem.Spec PyProof.Rows L2
/-- what a def makes of its arguments: what it hands back, and the arguments as they lie then -/
inductive FR where
  | stuck | ret (d : D) (as : List D) | exc (x : XD) (as : List D)
abbrev FSem := List D → FR
/-- a def by its body: n parameters, m slots in all; those at reb are stored anew -/
def reFrz (reb : List Nat) : Nat → List D → List D
  | _, [] => []
  | i, d :: ds => (if i ∈ reb then d.frz else d) :: reFrz reb (i + 1) ds
def argsBack (reb : List Nat) (ρ : Env) : Nat → List D → Option (List D)
  | _, [] => some []
  | i, d :: ds => match (if d.plain || decide (i ∈ reb) then some d else ρ.getD i none), argsBack reb ρ (i + 1) ds with
    | some a, some as => some (a :: as)
    | _, _ => none
def mkF (n m : Nat) (reb : List Nat) (b : M Fl) : FSem := fun ds =>
  if ds.length = n ∧ n ≤ m then
    match b ((reFrz reb 0 ds).map some ++ List.replicate (m - n) none) with
    | .stuck => .stuck
    | .ok (.rt d) ρ => match argsBack reb ρ 0 (reFrz reb 0 ds) with
      | some as => .ret d as
      | none => .stuck
    | .ok .nx ρ => match argsBack reb ρ 0 (reFrz reb 0 ds) with
      | some as => .ret .non as
      | none => .stuck
    | .ok _ _ => .stuck
    | .exc x ρ => match argsBack reb ρ 0 (reFrz reb 0 ds) with
      | some as => .exc x as
      | none => .stuck
  else .stuck
section
variable (K : PySem.W.Frag) (mg : Str → Option Value)
def OutF (Z H : Hp) (S : Fp) (vs : List V) (Q : VK) (E : XK) : FR → Prop
  | .stuck => False
  | .ret d as => ∀ v Z' H' S' Sd, Step Z H S Z' H' (fun a => S' a ∨ Sd a) → (∀ a, S' a → Sd a → False) → RepL K Z' H' as vs S' → Rep K Z' H' d v Sd → Q v H'
  | .exc x as => ∀ cls dd Z' H' S', Step Z H S Z' H' S' → RepL K Z' H' as vs S' → ExcR K mg Z' x cls dd → E cls dd H'
def spG (f : FSem) : Sp := fun vs H Q E => ∃ Z S ds, Marks K Z ∧ Wd Z H S ∧ RepL K Z H ds vs S ∧ OutF K mg Z H S vs Q E (f ds)
end
structure FnG (P : Program) (w : World) (K : PySem.W.Frag) (mg : Str → Option Value) (base : Heap) (k : Nat) (f : Addr) (fd : FuncData) (ps : List Str) (g : FSem) : Prop where
  len : ∀ ds, g ds ≠ .stuck → ds.length = ps.length
  run : ∀ (A : Around) (outer : List PySem.Env) (s : Shared) (H : Hp) (args : Args) (us : List Value) (vs : List V) (Q : VK) (E : XK),
    A.guards = some [] → Room k A → Env0 P w K mg base A outer s H → BindsTo s fd args (ps.zip us) → Vals vs us → spG K mg g vs H Q E →
    codeAny (model P w) A (.call (.ref f) args) (CR (L2.CX P w) outer P w H s Q E) s
section
variable {K : PySem.W.Frag} {mg : Str → Option Value} {W : WX} {Z H : Hp} {S : Fp} {σ : Sl} {X : Cx}
theorem spG_len {g : FSem} {n : Nat} {vs : List V} {Q : VK} {E : XK} (l : ∀ ds, g ds ≠ .stuck → ds.length = n) (h : spG K mg g vs H Q E) : vs.length = n := by
  obtain ⟨Z, S, ds, mk, w, r, o⟩ := h
  rw [← r.length]
  exact l ds fun e => by rw [e] at o; exact o
theorem mkF_len {n m : Nat} {reb : List Nat} {b : M Fl} (ds : List D) (h : mkF n m reb b ds ≠ .stuck) : ds.length = n := by
  unfold mkF at h
  by_cases e : ds.length = n ∧ n ≤ m
  · exact e.1
  · rw [if_neg e] at h
    exact absurd rfl h
theorem env_start : ∀ {ds : List D} {vs : List V} {S : Fp} (k : Nat), Marks K Z → RepL K Z H ds vs S → EnvR K Z H (ds.map some ++ List.replicate k none) (vs.map some ++ List.replicate k none) S
  | [], [], S, 0, m, _ => m
  | [], [], S, k + 1, m, h => by
    rw [List.replicate_succ, List.replicate_succ]
    exact env_start (ds := []) (vs := []) (S := S) k m trivial
  | [], _ :: _, _, _, _, h => h.elim
  | _ :: _, [], _, _, _, h => h.elim
  | d :: ds, v :: vs, S, k, m, ⟨S1, S2, s1, s2, dj, r, q⟩ => ⟨S1, S2, s1, s2, dj, r, env_start k m q⟩
theorem reFrz_ok {reb : List Nat} : ∀ {ds : List D} {vs : List V} {i : Nat} {Z : Hp} {S T : Fp}, Wd Z H (fun a => S a ∨ T a) → (∀ a, S a → T a → False) → RepL K Z H ds vs S →
    ∃ Z' S', Step Z H (fun a => S a ∨ T a) Z' H (fun a => S' a ∨ T a) ∧ (∀ a, S' a → S a) ∧ RepL K Z' H (reFrz reb i ds) vs S'
  | [], [], _, Z, S, T, w, _, _ => ⟨Z, S, Step.refl w, fun _ x => x, trivial⟩
  | [], _ :: _, _, _, _, _, _, _, h => h.elim
  | _ :: _, [], _, _, _, _, _, _, h => h.elim
  | d :: ds, v :: vs, i, Z, S, T, w, dj, ⟨S1, S2, s1, s2, sj, r, q⟩ => by
    have w2 : Wd Z H (fun a => S2 a ∨ (S1 a ∨ T a)) := w.less fun a x => x.elim (fun y => .inl (s2 a y)) fun y => y.elim (fun z => .inl (s1 a z)) .inr
    obtain ⟨Z1, S', st, m, r1⟩ := reFrz_ok (reb := reb) (i := i + 1) w2 (fun a x y => y.elim (fun z => sj a z x) fun z => dj a (s2 a x) z) q
    have st0 : Step Z H (fun a => S a ∨ T a) Z1 H (fun a => S' a ∨ (S1 a ∨ T a)) := by
      have sub : ∀ a, (S2 a ∨ (S1 a ∨ T a)) → (S a ∨ T a) := fun a x => x.elim (fun y => .inl (s2 a y)) fun y => y.elim (fun z => .inl (s1 a z)) .inr
      exact ⟨st.wd, st.zz, fun a o n e _ => e, fun a x => (st.new a x).elim (fun y => .inl (sub a y)) .inr, fun a o e => (st.znew a o e).elim .inl fun y => .inr (y.elim (fun z => .inl (sub a z)) .inr)⟩
    unfold reFrz
    by_cases hi : i ∈ reb
    · rw [if_pos hi]
      have st1 : Step Z1 H (fun a => S' a ∨ (S1 a ∨ T a)) (thaw Z1 H S1) H (fun a => S' a ∨ T a) := Step.freeze st.wd (fun a x => .inr (.inl x)) (fun a x => x.elim .inl fun y => .inr (.inr y)) fun a x y => x.elim (fun z => sj a y (m a z)) fun z => dj a (s1 a y) z
      have rf : Rep K (thaw Z1 H S1) H d.frz v Fp0 := Rep.frz (r.move st.zz (fun _ _ _ x => x) fun _ x => x) (fun a x => st.wd.sep a (.inr (.inl x))) fun _ x => x
      exact ⟨_, S', st0.trans st1, fun a x => s2 a (m a x), Fp0, S', fun _ x => x.elim, fun _ x => x, fun _ x _ => x, rf, r1.move st1.zz (fun _ _ _ x => x) fun _ x => x⟩
    · rw [if_neg hi]
      refine ⟨Z1, fun a => S1 a ∨ S' a, st0.less fun a x => x.elim (fun y => y.elim (fun z => .inr (.inl z)) .inl) fun y => .inr (.inr y), fun a x => x.elim (s1 a) fun y => s2 a (m a y), S1, S', fun a x => .inl x, fun a x => .inr x, fun a x y => sj a x (m a y), r.move st.zz (fun _ _ _ x => x) fun _ x => x, r1⟩
/-- the slots of the parameters that are not stored hold the arguments -/
def Held (reb : List Nat) (σ : Sl) : Nat → List V → Prop
  | _, [] => True
  | i, v :: vs => (i ∉ reb → σ[i]? = some (some v)) ∧ Held reb σ (i + 1) vs
theorem reFrz_plain {reb : List Nat} : ∀ {ds : List D} {i j : Nat} {d : D}, (reFrz reb i ds)[j]? = some d → (i + j) ∈ reb → d.plain = true
  | [], _, _, _, h, _ => by simp [reFrz] at h
  | e :: ds, i, 0, d, h, m => by
    simp only [reFrz, List.getElem?_cons_zero, Option.some.injEq] at h
    rw [if_pos (by simpa using m)] at h
    rw [← h]
    exact D.plain_frz e
  | e :: ds, i, j + 1, d, h, m => by
    simp only [reFrz, List.getElem?_cons_succ] at h
    exact reFrz_plain h (by rw [show i + 1 + j = i + (j + 1) by omega]; exact m)
theorem back_ok {reb : List Nat} {ρ : Env} : ∀ {ds : List D} {vs : List V} {as : List D} {i : Nat} {S S0 : Fp} {Z0 H0 : Hp} {ρ1 : Env}, RepL K Z0 H0 ds vs S0 → Same Z0 Z → (∀ j d, ds[j]? = some d → (i + j) ∈ reb → d.plain = true) → Held reb σ i vs → (∀ j, i ≤ j → ρ1[j]? = ρ[j]?) → EnvR K Z H ρ1 σ S → argsBack reb ρ i ds = some as → RepL K Z H as vs S
  | [], [], as, i, S, S0, Z0, H0, ρ1, _, _, _, _, _, _, h => by
    simp only [argsBack, Option.some.injEq] at h
    subst h
    trivial
  | [], _ :: _, _, _, _, _, _, _, _, r, _, _, _, _, _, _ => r.elim
  | _ :: _, [], _, _, _, _, _, _, _, r, _, _, _, _, _, _ => r.elim
  | d :: ds, v :: vs, as, i, S, S0, Z0, H0, ρ1, ⟨S1, S2, s1, s2, sj, r, q⟩, zz, pl, ⟨hv, hh⟩, hρ, er, h => by
    simp only [argsBack] at h
    split at h
    · rename_i a as' h1 h2
      simp only [Option.some.injEq] at h
      subst h
      by_cases hp : (d.plain || decide (i ∈ reb)) = true
      · rw [if_pos hp, Option.some.injEq] at h1
        subst h1
        have hpl : d.plain = true := by
          cases e : d.plain with
          | true => rfl
          | false =>
            rw [e, Bool.false_or, decide_eq_true_eq] at hp
            have := pl 0 d rfl (by simpa using hp)
            rw [e] at this
            exact this
        have rp : Rep K Z H d v Fp0 := (Rep.plain (H' := H0) r hpl).move zz (fun _ _ x => x.elim) fun _ x => x
        exact ⟨Fp0, S, fun _ x => x.elim, fun _ x => x, fun _ x _ => x, rp, back_ok q zz (fun j d' e m => pl (j + 1) d' (by simpa using e) (by rw [show i + (j + 1) = i + 1 + j by omega]; exact m)) hh (fun j hj => hρ j (by omega)) er h2⟩
      · rw [if_neg hp] at h1
        have ni : i ∉ reb := fun m => hp (by rw [decide_eq_true m, Bool.or_true])
        have e1 : ρ1[i]? = some (some a) := by rw [hρ i (Nat.le_refl _)]; exact getD_some h1
        obtain ⟨u, T1, T2, hu, t1, t2, tj, ra, er2⟩ := er.take e1
        have eu : u = v := by
          have := hv ni
          rw [hu] at this
          simpa using this
        subst eu
        refine ⟨T1, T2, t1, t2, tj, ra, ?_⟩
        exact back_ok q zz (fun j d' e m => pl (j + 1) d' (by simpa using e) (by rw [show i + (j + 1) = i + 1 + j by omega]; exact m)) hh (fun j hj => by rw [List.getElem?_set_ne (by omega)]; exact hρ j (by omega)) er2 h2
    · cases h
def parA (n : Nat) (reb : List Nat) (j : Nat) : Bool := decide (j ∈ reb) || decide (n ≤ j)
theorem held_of {reb : List Nat} {n : Nat} : ∀ {vs : List V} {i : Nat} {σ0 : Sl}, Keep (parA n reb) σ0 σ → i + vs.length ≤ n → (∀ j v, vs[j]? = some v → σ0[i + j]? = some (some v)) → Held reb σ i vs
  | [], _, _, _, _, _ => trivial
  | v :: vs, i, σ0, k, l, h => ⟨fun m => by
      rw [k.1 i (by
        rw [List.length_cons] at l
        simp only [parA, Bool.or_eq_false_iff, decide_eq_false_iff_not]
        exact ⟨m, by omega⟩)]
      exact h 0 v rfl, held_of k (by rw [List.length_cons] at l; omega) fun j u e => by
      rw [show i + 1 + j = i + (j + 1) by omega]
      exact h (j + 1) u (by simpa using e)⟩
theorem start_get {N : List Str} {vs : List V} {j : Nat} {v : V} (h : vs[j]? = some v) : (start N vs)[j]? = some (some v) := by
  have hj : j < vs.length := (List.getElem?_eq_some_iff.mp h).1
  unfold L2.start
  rw [List.getElem?_append_left (by simpa using hj), List.getElem?_map, h]
  rfl
/-- a body's reading from what its function makes of the arguments -/
theorem body_in {n m : Nat} {reb : List Nat} {b : M Fl} {N : List Str} {vs : List V} {Q : VK} {E : XK} (hm : N.length = m) (hn : vs.length = n) (h : spG K mg (mkF n m reb b) vs H Q E) :
    tS K mg (fun cls d _ H => E cls d H) (parA n reb) b { nx := fun _ H' => Q .non H', rt := Q } (start N vs) H := by
  obtain ⟨Z, S, ds, mk, w, r, o⟩ := h
  have hd : ds.length = n := r.length.trans hn
  unfold mkF at o
  by_cases hc : ds.length = n ∧ n ≤ m
  · rw [if_pos hc] at o
    have w0 : Wd Z H (fun a => S a ∨ Fp0 a) := w.less fun a x => x.elim id False.elim
    obtain ⟨Z1, S1, st, m1, r1⟩ := reFrz_ok (reb := reb) (i := 0) w0 (fun _ _ x => x) r
    have st' : Step Z H S Z1 H S1 := ⟨st.wd.less fun a x => .inl x, st.zz, fun _ _ _ e _ => e, fun a x => .inl (m1 a x), fun a o e => (st.znew a o e).elim .inl fun y => .inr (y.elim (fun z => z.elim .inl False.elim) .inr)⟩
    have er : EnvR K Z1 H ((reFrz reb 0 ds).map some ++ List.replicate (m - n) none) (start N vs) S1 := by
      have q := env_start (m - n) (mk.same st.zz) r1
      unfold L2.start
      rw [hm, hn]
      exact q
    refine ⟨Z1, _, S1, st'.wd, er, ?_⟩
    have back : ∀ {ρ' : Env} {as : List D} {σ' : Sl} {Z' H' : Hp} {S' : Fp}, Same Z1 Z' → Keep (parA n reb) (start N vs) σ' → EnvR K Z' H' ρ' σ' S' → argsBack reb ρ' 0 (reFrz reb 0 ds) = some as → RepL K Z' H' as vs S' := fun {ρ' as σ' Z' H' S'} zz kp er' ab =>
      back_ok r1 zz (fun j d e mm => reFrz_plain e mm) (held_of kp (by omega) fun j v e => by rw [Nat.zero_add]; exact start_get e) (fun _ _ => rfl) er' ab
    cases e1 : b ((reFrz reb 0 ds).map some ++ List.replicate (m - n) none) with
    | stuck => rw [e1] at o; exact o
    | exc x ρ' =>
      simp only [e1] at o
      cases e2 : argsBack reb ρ' 0 (reFrz reb 0 ds) with
      | none => rw [e2] at o; exact o.elim
      | some as =>
        simp only [e2] at o
        exact fun σ' kp cls dd Z' H' S' st2 er2 xr => o cls dd Z' H' S' (st'.trans st2) (back st2.zz kp er2 e2) xr
    | ok f ρ' =>
      simp only [e1] at o
      intro σ' v Z' H' S' Sd kp st2 dj er2 fr
      cases f with
      | bk => exact o.elim
      | ct => exact o.elim
      | nx =>
        simp only at o
        cases e2 : argsBack reb ρ' 0 (reFrz reb 0 ds) with
        | none => rw [e2] at o; exact o.elim
        | some as =>
          simp only [e2] at o
          exact o .non Z' H' S' Fp0 ((st'.trans st2).less fun a x => x.elim .inl False.elim) (fun _ _ x => x) (back st2.zz kp er2 e2) rfl
      | rt d =>
        simp only at o
        cases e2 : argsBack reb ρ' 0 (reFrz reb 0 ds) with
        | none => rw [e2] at o; exact o.elim
        | some as =>
          simp only [e2] at o
          exact o v Z' H' S' Sd (st'.trans st2) dj (back st2.zz kp er2 e2) fr
  · rw [if_neg hc] at o
    exact o.elim
end
section
variable {P : Program} {w : World} {K : PySem.W.Frag} {mg : Str → Option Value} {base : Heap}
/-- the context in which the body of a def at f runs -/
abbrev cxG (P : Program) (w : World) (K : PySem.W.Frag) (mg : Str → Option Value) (base : Heap) (N : List Str) (qual : Str) (sc : Scope) (f : Addr) (cdv : Value) (A : Around) (outer : List PySem.Env) (s : Shared) (H : Hp) (E : XK) : Cx :=
  cxOf (L2.CX P w) P w K mg base N qual sc f cdv A outer s H E
theorem fnGc {x qual : Str} {st : Stmt} {f : Addr} {fd : FuncData} {N ps : List Str} {k m : Nat} {reb : List Nat} {b : M Fl} (F : Fun K x qual st f fd) (Sc : FnScope N ps (defScope st)) (hm : N.length = m)
    (body : ∀ (cdv : Value) (A : Around) (outer : List PySem.Env) (s : Shared) (H : Hp) (E : XK), fd.code = cdv → A.guards = some [] → Room k (A.deeper (envOfC qual (defScope st) s.heap.objs.size f cdv)) →
      PSs (cxG P w K mg base N qual (defScope st) f cdv A outer s H E) (defBody st) (tS K mg (fun cls d _ H => E cls d H) (parA ps.length reb) b)) :
    FnG P w K mg base (k + 1) f fd ps (mkF ps.length m reb b) := by
  obtain ⟨oc, od, kV, doc, pm, an, cdv, ct, osl, rfl, lk, hcd⟩ := F.ex
  refine ⟨mkF_len, fun A outer s H args us vs Q E hgd hr e0 hb r hsp => ?_⟩
  have hl : vs.length = ps.length := spG_len mkF_len hsp
  have KX : K.In s.heap := e0.mod.kin.keeps fun b o e => (e0.bs b o e).1
  have lim : s.heap.NoLimit := e0.mod.nolimit.keeps fun b o e => (e0.bs b o e).1
  refine codeAny_call_function hr.depth (KX _ _ lk) rfl Sc.co Sc.gen rfl (PySem.W.codeRec_of KX hcd) (hb _ _ _ _ ?_)
  refine wpAny_newFunctionEnv_cells Sc.kind (fun y hy => ?_) fun env he s1 z => ?_
  · rcases Sc.par y.1 (List.of_mem_zip (a := y.1) (b := y.2) hy).1 with q | q
    · exact .inl q
    · exact .inr ⟨q, PySem.W.cellsFrom_some _ _ _ (.inl q)⟩
  · subst he
    refine ⟨lim.keeps z.toInCall.keep, codeAny_func ?_⟩
    have ht := body cdv A outer s H E rfl hgd (hr.deeper _)
    have I : Inv (cxG P w K mg base N qual (defScope st) f cdv A outer s H E) [] (start N vs) H s1 := inv_start Sc hr.hd e0 hl r z
    refine wpAny_mono (ht.run [] s1 (start N vs) H _ I (body_in hm hl hsp)) (fun fl s' hs => ?_) fun _ _ hs => hs
    cases fl with
    | ret u =>
      obtain ⟨v, σ', H', J, rv, q⟩ := hs
      exact ⟨v, H', J.os, J.bare, J.base, J.hok, rv, q⟩
    | next =>
      obtain ⟨σ', H', J, q⟩ := hs
      exact ⟨V.non, H', J.os, J.bare, J.base, J.hok, rfl, q⟩
    | brk =>
      obtain ⟨_, _, _, q⟩ := hs
      exact q.elim
    | cont =>
      obtain ⟨_, _, _, q⟩ := hs
      exact q.elim
theorem fnG {x qual : Str} {st : Stmt} {f : Addr} {fd : FuncData} {N ps : List Str} {k m : Nat} {reb : List Nat} {b : M Fl} (F : Fun K x qual st f fd) (Sc : FnScope N ps (defScope st)) (hm : N.length = m)
    (body : ∀ (cdv : Value) (A : Around) (outer : List PySem.Env) (s : Shared) (H : Hp) (E : XK), A.guards = some [] → Room k (A.deeper (envOfC qual (defScope st) s.heap.objs.size f cdv)) →
      PSs (cxG P w K mg base N qual (defScope st) f cdv A outer s H E) (defBody st) (tS K mg (fun cls d _ H => E cls d H) (parA ps.length reb) b)) :
    FnG P w K mg base (k + 1) f fd ps (mkF ps.length m reb b) := fnGc F Sc hm fun cdv A outer s H E _ h1 h2 => body cdv A outer s H E h1 h2
end
end Pm
namespace Pm
open PySem PySem.Spec PyProof.Rows L2
def takes (ρ : Env) : List EV → Option (List D × Env)
  | [] => some ([], ρ)
  | .val d :: es => match takes ρ es with
    | some (ds, ρ') => some (d :: ds, ρ')
    | none => none
  | .ref i :: es => match ρ.getD i none with
    | none => none
    | some d => match takes (if d.plain then ρ else ρ.set i none) es with
      | some (ds, ρ') => some (d :: ds, ρ')
      | none => none
def puts : List EV → List D → List D → Env → Env
  | .ref i :: es, d :: ds, a :: as, ρ => puts es ds as (if d.plain then ρ else ρ.set i (some a))
  | .val _ :: es, _ :: ds, _ :: as, ρ => puts es ds as ρ
  | _, _, _, ρ => ρ
def callF (g : FSem) (fs : M (List EV)) : M EV := bnd fs fun es => fun ρ => match takes ρ es with
  | none => .stuck
  | some (ds, ρ1) => match g ds with
    | .stuck => .stuck
    | .ret d as => .ok (.val d) (puts es ds as ρ1)
    | .exc x as => .exc x (puts es ds as ρ1)
section
variable {K : PySem.W.Frag} {mg : Str → Option Value} {W : WX} {Z H : Hp} {S : Fp} {σ : Sl} {X : Cx}
theorem takes_ok : ∀ {es : List EV} {vs : List V} {ds : List D} {ρ ρ' : Env} {S Sa : Fp}, EnvR K Z H ρ σ S → EVsR K Z H σ es vs Sa → (∀ a, S a → Sa a → False) → takes ρ es = some (ds, ρ') →
    ∃ S1 T, (∀ a, S1 a → S a) ∧ (∀ a, T a → S a ∨ Sa a) ∧ (∀ a, S1 a → T a → False) ∧ EnvR K Z H ρ' σ S1 ∧ RepL K Z H ds vs T
  | [], [], ds, ρ, ρ', S, Sa, er, _, dj, h => by
    simp only [takes, Option.some.injEq, Prod.mk.injEq] at h
    obtain ⟨rfl, rfl⟩ := h
    exact ⟨S, Fp0, fun _ x => x, fun _ x => x.elim, fun _ _ x => x, er, trivial⟩
  | [], _ :: _, _, _, _, _, _, _, r, _, _ => r.elim
  | _ :: _, [], _, _, _, _, _, _, r, _, _ => r.elim
  | .val d :: es, v :: vs, ds, ρ, ρ', S, Sa, er, ⟨A1, A2, a1, a2, aj, r, q⟩, dj, h => by
    simp only [takes] at h
    cases e : takes ρ es with
    | none => rw [e] at h; cases h
    | some p =>
      obtain ⟨ds', ρ1⟩ := p
      simp only [e, Option.some.injEq, Prod.mk.injEq] at h
      obtain ⟨rfl, rfl⟩ := h
      obtain ⟨S1, T, m1, m2, tj, er1, rl⟩ := takes_ok er q (fun a x y => dj a x (a2 a y)) e
      refine ⟨S1, fun a => A1 a ∨ T a, m1, fun a x => x.elim (fun y => .inr (a1 a y)) fun y => (m2 a y).elim .inl fun z => .inr (a2 a z), fun a x y => y.elim (fun z => dj a (m1 a x) (a1 a z)) (tj a x), er1, ?_⟩
      refine ⟨A1, T, fun a x => .inl x, fun a x => .inr x, fun a x y => (m2 a y).elim (fun z => dj a z (a1 a x)) fun z => aj a x z, r, rl⟩
  | .ref i :: es, v :: vs, ds, ρ, ρ', S, Sa, er, ⟨A1, A2, a1, a2, aj, r, q⟩, dj, h => by
    simp only [takes] at h
    cases e0 : ρ.getD i none with
    | none => simp only [e0] at h; cases h
    | some d =>
      simp only [e0] at h
      obtain ⟨u, U1, U2, hu, u1, u2, uj, ru, eu⟩ := er.take (getD_some e0)
      have ev : u = v := by
        have r' : σ[i]? = some (some v) := r
        rw [hu] at r'
        simpa using r'
      subst ev
      cases hp : d.plain with
      | true =>
        simp only [hp, if_true] at h
        cases e : takes ρ es with
        | none => rw [e] at h; cases h
        | some p =>
          obtain ⟨ds', ρ1⟩ := p
          simp only [e, Option.some.injEq, Prod.mk.injEq] at h
          obtain ⟨rfl, rfl⟩ := h
          obtain ⟨S1, T, m1, m2, tj, er1, rl⟩ := takes_ok er q (fun a x y => dj a x (a2 a y)) e
          exact ⟨S1, T, m1, fun a x => (m2 a x).elim .inl fun z => .inr (a2 a z), tj, er1, Fp0, T, fun _ x => x.elim, fun _ x => x, fun _ x _ => x, ru.plain hp, rl⟩
      | false =>
        simp only [hp, Bool.false_eq_true, if_false] at h
        cases e : takes (ρ.set i none) es with
        | none => rw [e] at h; cases h
        | some p =>
          obtain ⟨ds', ρ1⟩ := p
          simp only [e, Option.some.injEq, Prod.mk.injEq] at h
          obtain ⟨rfl, rfl⟩ := h
          obtain ⟨S1, T, m1, m2, tj, er1, rl⟩ := takes_ok eu q (fun a x y => dj a (u2 a x) (a2 a y)) e
          refine ⟨S1, fun a => U1 a ∨ T a, fun a x => u2 a (m1 a x), fun a x => x.elim (fun y => .inl (u1 a y)) fun y => (m2 a y).elim (fun z => .inl (u2 a z)) fun z => .inr (a2 a z), fun a x y => y.elim (fun z => uj a z (m1 a x)) (tj a x), er1, ?_⟩
          exact ⟨U1, T, fun a x => .inl x, fun a x => .inr x, fun a x y => (m2 a y).elim (fun z => uj a x z) fun z => dj a (u1 a x) (a2 a z), ru, rl⟩
theorem puts_ok : ∀ {es : List EV} {vs : List V} {ds as : List D} {ρ : Env} {Z0 H0 : Hp} {S S0 T : Fp}, EnvR K Z H ρ σ S → EVsR K Z0 H0 σ es vs S0 → RepL K Z H as vs T → (∀ a, S a → T a → False) → EnvR K Z H (puts es ds as ρ) σ (fun a => S a ∨ T a)
  | [], _, ds, as, ρ, _, _, S, _, T, er, _, _, _ => by
    unfold puts
    exact er.move (Same.refl Z) (fun _ _ _ x => x) fun a x => .inl x
  | _ :: _, [], _, _, _, _, _, _, _, _, _, r, _, _ => r.elim
  | e :: es, v :: vs, [], as, ρ, _, _, S, _, T, er, _, _, _ => by
    have q : puts (e :: es) [] as ρ = ρ := by cases e <;> rfl
    rw [q]
    exact er.move (Same.refl Z) (fun _ _ _ x => x) fun a x => .inl x
  | e :: es, v :: vs, d :: ds, [], ρ, _, _, S, _, T, er, _, rl, _ => rl.elim
  | .val d' :: es, v :: vs, d :: ds, a' :: as, ρ, Z0, H0, S, S0, T, er, ⟨A1, A2, _, _, _, r, q⟩, ⟨T1, T2, t1, t2, tj, ra, rl⟩, dj =>
    (puts_ok (ds := ds) er q rl fun a x y => dj a x (t2 a y)).move (Same.refl Z) (fun _ _ _ x => x) fun a x => x.elim .inl fun y => .inr (t2 a y)
  | .ref i :: es, v :: vs, d :: ds, a' :: as, ρ, Z0, H0, S, S0, T, er, ⟨A1, A2, _, _, _, r, q⟩, ⟨T1, T2, t1, t2, tj, ra, rl⟩, dj => by
    unfold puts
    cases hp : d.plain with
    | true =>
      rw [if_pos rfl]
      exact (puts_ok (ds := ds) er q rl fun a x y => dj a x (t2 a y)).move (Same.refl Z) (fun _ _ _ x => x) fun a x => x.elim .inl fun y => .inr (t2 a y)
    | false =>
      rw [if_neg Bool.false_ne_true]
      have r' : σ[i]? = some (some v) := r
      obtain ⟨hi, e1⟩ := List.getElem?_eq_some_iff.mp r'
      have er2 : EnvR K Z H (ρ.set i (some a')) σ (fun a => S a ∨ T1 a) := by
        have p := EnvR.put (S := fun a => S a ∨ T1 a) (er.drop i) (by rw [er.length]; exact hi) ra (fun a x => .inr x) (fun a x => .inl x) fun a x y => dj a y (t1 a x)
        have es' : σ.set i (some v) = σ := by rw [← e1, List.set_getElem_self]
        rw [es'] at p
        exact p
      exact (puts_ok (ds := ds) er2 q rl fun a x y => x.elim (fun z => dj a z (t2 a y)) fun z => tj a z y).move (Same.refl Z) (fun _ _ _ x => x) fun a x => x.elim (fun y => y.elim .inl fun z => .inr (t1 a z)) fun y => .inr (t2 a y)
theorem tE_call {g : FSem} {fs : M (List EV)} {Q : VK} (h : tE K mg W (callF g fs) σ H Q) : tA K mg W fs σ H fun vs H1 => spG K mg g vs H1 Q (fun cls d H => W cls d σ H) := by
  obtain ⟨Z, ρ, S, w, er, o⟩ := h
  refine ⟨Z, ρ, S, w, er, ?_⟩
  simp only [callF, bnd] at o
  cases e1 : fs ρ with
  | stuck => rw [e1] at o; exact o
  | exc x ρ1 => rw [e1] at o; exact o
  | ok es ρ1 =>
    simp only [e1] at o
    intro vs Z1 H1 S1 Sa st1 dj1 er1 r1
    cases e2 : takes ρ1 es with
    | none => simp only [e2] at o; exact o.elim
    | some p =>
      obtain ⟨ds, ρ2⟩ := p
      simp only [e2] at o
      obtain ⟨S2, T, m1, m2, tj, er2, rl⟩ := takes_ok er1 r1 dj1 e2
      have w2 : Wd Z1 H1 (fun a => T a ∨ S2 a) := st1.wd.less fun a x => x.elim (m2 a) fun y => .inl (m1 a y)
      have st1' : Step Z H S Z1 H1 (fun a => T a ∨ S2 a) := st1.less fun a x => x.elim (m2 a) fun y => .inl (m1 a y)
      refine ⟨Z1, T, ds, er2.marks, w2.less fun a x => .inl x, rl, ?_⟩
      cases e3 : g ds with
      | stuck => simp only [e3] at o; exact o
      | ret d as =>
        simp only [e3] at o
        intro v Z3 H3 S3 Sd st3 dj3 ra rd
        have st3' := st3.frame w2 fun a x y => tj a y x
        have ap := st3.apart (fun a x => w2.live a (.inr x)) fun a x y => tj a y x
        have er3 : EnvR K Z3 H3 ρ2 σ S2 := st3.stayE (fun a x y => tj a y x) er2
        have er4 := puts_ok (ds := ds) er3 r1 ra fun a x y => ap a (.inl y) x
        exact o v Z3 H3 (fun a => S2 a ∨ S3 a) Sd ((st1'.trans st3').less fun a x => x.elim (fun y => y.elim .inr fun z => .inl (.inl z)) fun y => .inl (.inr y)) (fun a x y => x.elim (fun z => ap a (.inr y) z) fun z => dj3 a z y) er4 rd
      | exc x as =>
        simp only [e3] at o
        intro cls dd Z3 H3 S3 st3 ra xr
        have st3' := st3.frame w2 fun a x y => tj a y x
        have ap := st3.apart (fun a x => w2.live a (.inr x)) fun a x y => tj a y x
        have er3 : EnvR K Z3 H3 ρ2 σ S2 := st3.stayE (fun a x y => tj a y x) er2
        have er4 := puts_ok (ds := ds) er3 r1 ra fun a x y => ap a y x
        exact o cls dd Z3 H3 (fun a => S2 a ∨ S3 a) ((st1'.trans st3').less fun a x => x.elim .inr .inl) er4 xr
/-- a def of the module, called by its place -/
theorem run_G {k : Nat} {f : Addr} {fd : FuncData} {ps : List Str} {g : FSem} {pins : List (Addr × Obj)} {s : Shared} {Q : VK} {us : List Value} {kws : List (Str × Value)} {ws : List Value} {vs : List V} (F : FnG X.prog X.w X.K X.mg X.base k f fd ps g) (hgd : X.A.guards = some []) (hr : Room k X.A)
    (tk : Takes X W) (hb : ws.length = ps.length → BindsTo s fd ⟨us, kws⟩ (ps.zip ws)) (I : Inv X pins σ H s) (r : Vals vs ws) (h : spG X.K X.mg g vs H Q (fun cls d H => W cls d σ H)) :
    codeAny (model X.prog X.w) X.A (.call (.ref f) ⟨us, kws⟩) (fun r s' => match r with
      | .ok (.ret u) => EP X pins σ Q u s'
      | .ok _ => False
      | .error e => X.xe e s') s := by
  have hl : ws.length = ps.length := by rw [← r.length]; exact spG_len F.len h
  refine codeAny_mono (F.run X.A X.stack s H ⟨us, kws⟩ ws vs Q _ hgd hr I.env0 (hb hl) r h) fun r s' hq => ?_
  cases r with
  | error e => exact passAt tk σ pins H s e s' I hq
  | ok fl =>
    cases fl with
    | ret u => exact I.after hq
    | next => exact hq.elim
    | brk => exact hq.elim
    | cont => exact hq.elim
theorem pe_callG {k : Nat} {f : Addr} {fd : FuncData} {ps : List Str} {g : FSem} {x : Str} {p pos : Pos} {e : Expr} {es : List Expr} {fs : M (List EV)} (F : FnG X.prog X.w X.K X.mg X.base k f fd ps g) (hgd : X.A.guards = some []) (hr : Room k X.A) (tk : Takes X W)
    (hg : Gl X x) (hm : X.mg x = some (.ref f)) (hk : PySem.W.keepIn X.K (.ref f) = true) (hb : Binds X.K fd ps []) (ha : PA X (e :: es) (tA X.K X.mg W fs)) (hdb : (x == ("__debug__" : Str)) = false)
    (he : starEach (e :: es) X.env = (false, eval e X.env) :: starEach es X.env) (hpl : (backTo pos (starEach es X.env)).any (·.1) = false) : PE X (.Call (.Name x p) (e :: es) [] pos) (tE X.K X.mg W (callF g fs)) := by
  refine ⟨fun pins s σ H Q I h => ?_⟩
  refine wpAny_Call_Name_kw (ld_glob I hg hm ?_ hdb)
  refine PySem.W.callWith_K (h₀ := X.base) I.ok.mod.kin hk (thn (ha.run pos pins s σ H _ I (tE_call h)) fun us s1 ⟨vs, H1, I1, r, q⟩ => ⟨I1.kIn, ?_⟩) he hpl
  refine wpAny_call (codeAny_mono (run_G (ws := us) F hgd hr tk (fun hl => by have b := hb s1 us I1.kIn (by rw [List.append_nil]; exact hl); rw [List.append_nil] at b; exact b) I1 r q) fun r s' hq => ?_)
  cases r with
  | error e => exact hq
  | ok fl =>
    cases fl with
    | ret u => exact hq
    | next => exact hq.elim
    | brk => exact hq.elim
    | cont => exact hq.elim
end
end Pm
namespace Pm
open PySem PySem.Spec PyProof.Rows L2
section
variable {K : PySem.W.Frag} {mg : Str → Option Value} {W : WX} {Z H : Hp} {S : Fp} {σ : Sl} {X : Cx}
theorem tE_mono {f : M EV} {Q Q' : VK} (i : ∀ v H, Q v H → Q' v H) (h : tE K mg W f σ H Q) : tE K mg W f σ H Q' := by
  obtain ⟨Z, ρ, S, w, er, o⟩ := h
  refine ⟨Z, ρ, S, w, er, ?_⟩
  cases e : f ρ with
  | stuck => rw [e] at o; exact o
  | exc x ρ1 => rw [e] at o; exact o
  | ok ev ρ1 =>
    rw [e] at o
    exact fun v Z' H' S' Sd st dj er r => i _ _ (o v Z' H' S' Sd st dj er r)
def Opd (X : Cx) (f : Value → Value → Sem Value) (g : List D → Option D) : Prop := ∃ r : R2, OpR X f r ∧ Snd X (fun vs H Q => ∃ x y, vs = [x, y] ∧ r x y H Q) g
theorem two_of {fa fb : M EV} {r : R2} {Q : VK} (h : tA K mg W (aCons fa (aCons fb aNil)) σ H fun vs H1 => ∃ x y, vs = [x, y] ∧ r x y H1 Q) : tOp r (tE K mg W fa) (tE K mg W fb) σ H Q := by
  refine tE_mono (fun x H1 q => ?_) (tA_cons h)
  refine tE_mono (fun y H2 q => ?_) (tA_cons q)
  have q' := tA_nil q
  obtain ⟨x', y', e, q''⟩ := q'
  cases e
  exact q''
abbrev bin (g : List D → Option D) (fa fb : M EV) : M EV := app g (aCons fa (aCons fb aNil))
abbrev un (g : List D → Option D) (fa : M EV) : M EV := app g (aCons fa aNil)
theorem pe_bin {a b : Expr} {op : Operator} {fa fb : M EV} {g : List D → Option D} {pos : Pos} (ho : Opd X (binaryOp op) g) (ha : PE X a (tE X.K X.mg W fa)) (hb : PE X b (tE X.K X.mg W fb)) : PE X (.BinOp a op b pos) (tE X.K X.mg W (bin g fa fb)) := by
  obtain ⟨r, h1, h2⟩ := ho
  exact PE.of (pe_op h1 ha hb) fun σ H Q q => two_of (tE_app h2 q)
theorem pe_cmpG {a b : Expr} {op : CmpOp} {fa fb : M EV} {g : List D → Option D} {pos : Pos} (ho : Opd X (compareOp op) g) (ha : PE X a (tE X.K X.mg W fa)) (hb : PE X b (tE X.K X.mg W fb)) (hm : behindInMarks op b = false) : PE X (.Compare a [op] [b] pos) (tE X.K X.mg W (bin g fa fb)) := by
  obtain ⟨r, h1, h2⟩ := ho
  exact PE.of (pe_cmpR h1 ha hb hm) fun σ H Q q => two_of (tE_app h2 q)
theorem pt_cmpG {a b : Expr} {op : CmpOp} {fa fb : M EV} {g : List D → Option D} {pos : Pos} (ho : Opd X (compareOp op) g) (ha : PE X a (tE X.K X.mg W fa)) (hb : PE X b (tE X.K X.mg W fb)) (hm : behindInMarks op b = false) : PT X (.Compare a [op] [b] pos) (tT X.K X.mg W (tst (bin g fa fb))) := by
  obtain ⟨r, h1, h2⟩ := ho
  refine PT.of (pt_cmpR h1 ha hb hm) fun σ H Q q => ?_
  exact two_of (r := r) (tE_app h2 (tT_tst q))
theorem Opd.or {f : Value → Value → Sem Value} {g1 g2 g : List D → Option D} (h1 : Opd X f g1) (h2 : Opd X f g2) (hg : ∀ ds d, g ds = some d → g1 ds = some d ∨ g2 ds = some d) : Opd X f g := by
  obtain ⟨r1, a1, b1⟩ := h1
  obtain ⟨r2, a2, b2⟩ := h2
  refine ⟨_, OpR.or a1 a2, fun Z H S ds vs d Q w r e k => ?_⟩
  rcases hg ds d e with e | e
  · obtain ⟨x, y, ev, q⟩ := b1 Z H S ds vs d Q w r e k
    exact ⟨x, y, ev, .inl q⟩
  · obtain ⟨x, y, ev, q⟩ := b2 Z H S ds vs d Q w r e k
    exact ⟨x, y, ev, .inr q⟩
/-- nothing is made -/
theorem snd_pure {r : List V → Hp → VK → Prop} {g : List D → Option D} (h : ∀ (Z H : Hp) (S : Fp) (ds : List D) (vs : List V) (d : D) (Q : VK), Wd Z H S → RepB X.K Z H S ds vs → g ds = some d → (∀ v, Rep X.K Z H d v Fp0 → Q v H) → r vs H Q) : Snd X r g :=
  fun Z H S ds vs d Q w rb e k => h Z H S ds vs d Q w rb e fun v rv => k v Z H Fp0 w.nil (fun _ _ e => e) (fun _ _ x => x) rv
theorem rb1 {d : D} {vs : List V} (h : RepB K Z H S [d] vs) : ∃ v, vs = [v] ∧ Rep K Z H d v S := by
  cases vs with
  | nil => exact h.elim
  | cons v vs =>
    cases vs with
    | nil => exact ⟨v, rfl, h.1⟩
    | cons u us => exact h.2.elim
theorem rb2 {d e : D} {vs : List V} (h : RepB K Z H S [d, e] vs) : ∃ v u, vs = [v, u] ∧ Rep K Z H d v S ∧ Rep K Z H e u S := by
  cases vs with
  | nil => exact h.elim
  | cons v vs =>
    obtain ⟨u, rfl, r⟩ := rb1 h.2
    exact ⟨v, u, rfl, h.1, r⟩
/-- two ints -/
def on2I (g : Int → Int → Option D) : List D → Option D
  | [.int i, .int j] => g i j
  | _ => none
theorem on2I_inv {g : Int → Int → Option D} {ds : List D} {d : D} (h : on2I g ds = some d) : ∃ i j, ds = [.int i, .int j] ∧ g i j = some d := by
  unfold on2I at h
  split at h
  · exact ⟨_, _, rfl, h⟩
  · cases h
theorem opd_I {f : Value → Value → Sem Value} {C : Int → Int → Prop} {hv : Int → Int → V} {g : Int → Int → Option D} (ho : OpR X f (rI C hv)) (hg : ∀ i j d, g i j = some d → C i j ∧ ∀ Z H, Rep X.K Z H d (hv i j) Fp0) : Opd X f (on2I g) := by
  refine ⟨_, ho, snd_pure fun Z H S ds vs d Q w rb e k => ?_⟩
  obtain ⟨i, j, rfl, eg⟩ := on2I_inv e
  obtain ⟨v, u, rfl, rv, ru⟩ := rb2 rb
  obtain ⟨c, rd⟩ := hg i j d eg
  exact ⟨v, u, rfl, i, j, rv, ru, c, k _ (rd Z H)⟩
theorem opd_I0 {f : Value → Value → Sem Value} {hv : Int → Int → V} {g : Int → Int → Option D} (ho : OpR X f (rI0 hv)) (hg : ∀ i j d, g i j = some d → ∀ Z H, Rep X.K Z H d (hv i j) Fp0) : Opd X f (on2I g) := by
  refine ⟨_, ho, snd_pure fun Z H S ds vs d Q w rb e k => ?_⟩
  obtain ⟨i, j, rfl, eg⟩ := on2I_inv e
  obtain ⟨v, u, rfl, rv, ru⟩ := rb2 rb
  exact ⟨v, u, rfl, i, j, rv, ru, k _ (hg i j d eg Z H)⟩
def mulOk (i j : Int) : Bool := decide (i.natAbs < 2 ^ 64 ∨ j.natAbs < 2 ^ 64 ∨ i.natAbs.log2 + j.natAbs.log2 < 1000000)
def divOk (j : Int) : Bool := decide (j.natAbs.log2 < 9000)
def powOk (i j : Int) : Bool := decide (0 ≤ j ∧ j ≤ 1000000 ∧ i.natAbs < 2 ^ 64)
def iDiv (i j : Int) : Option D := if 0 < j then (if divOk j = true then some (.int (i / j)) else none) else if j < 0 then (if divOk j = true then some (.int (i.fdiv j)) else none) else none
def iMod (i j : Int) : Option D := if 0 < j then some (.int (i % j)) else if j < 0 then some (.int (i.fmod j)) else none
def iMul (i j : Int) : Option D := if mulOk i j = true then some (.int (i * j)) else none
def iPow (i j : Int) : Option D := if powOk i j = true then some (.int (i ^ j.toNat)) else none
def CDivA (i j : Int) : Prop := j ≠ 0 ∧ j.natAbs.log2 < 9000
theorem op_fdivA : OpR X (binaryOp .FloorDiv) (rI CDivA fun i j => .int (i.fdiv j)) := opI fun _ _ _ _ _ _ _ hc q => floordiv_int hc.1 q (.inl (PyProof.noPylong_of_log2 hc.2))
theorem mulOk_ok {i j : Int} (h : mulOk i j = true) : IntMulOk i j := by
  have h' := of_decide_eq_true h
  rcases h' with h' | h' | h'
  · exact .of_left (intBits_le_64 (by omega) (by omega))
  · exact .of_right (intBits_le_64 (by omega) (by omega))
  · exact CMulW.ok h'
theorem op_mulA : OpR X (binaryOp .Mult) (rI IntMulOk fun i j => .int (i * j)) := opI fun _ _ _ _ _ _ _ hc q => mul_int q hc
theorem iDiv_ok {i j : Int} {d : D} (h : iDiv i j = some d) : CDivA i j ∧ d = .int (i.fdiv j) := by
  unfold iDiv at h
  split at h
  · split at h
    · rename_i hj hd
      refine ⟨⟨by omega, of_decide_eq_true hd⟩, ?_⟩
      rw [Int.fdiv_eq_ediv_of_nonneg i (by omega)]
      exact (Option.some.inj h).symm
    · cases h
  · split at h
    · split at h
      · rename_i hj hd
        exact ⟨⟨by omega, of_decide_eq_true hd⟩, (Option.some.inj h).symm⟩
      · cases h
    · cases h
theorem iMod_ok {i j : Int} {d : D} (h : iMod i j = some d) : j ≠ 0 ∧ d = .int (i.fmod j) := by
  unfold iMod at h
  split at h
  · refine ⟨by omega, ?_⟩
    rw [Int.fmod_eq_emod_of_nonneg i (by omega)]
    exact (Option.some.inj h).symm
  · split at h
    · exact ⟨by omega, (Option.some.inj h).symm⟩
    · cases h
theorem iMul_ok {i j : Int} {d : D} (h : iMul i j = some d) : IntMulOk i j ∧ d = .int (i * j) := by
  unfold iMul at h
  split at h
  · rename_i c
    exact ⟨mulOk_ok c, (Option.some.inj h).symm⟩
  · cases h
theorem opd_divI : Opd X (binaryOp .FloorDiv) (on2I iDiv) := opd_I op_fdivA fun i j d h => ⟨(iDiv_ok h).1, fun Z H => by rw [(iDiv_ok h).2]; rfl⟩
theorem opd_modI : Opd X (binaryOp .Mod) (on2I iMod) := opd_I op_modN fun i j d h => ⟨(iMod_ok h).1, fun Z H => by rw [(iMod_ok h).2]; rfl⟩
theorem opd_mulI : Opd X (binaryOp .Mult) (on2I iMul) := opd_I op_mulA fun i j d h => ⟨(iMul_ok h).1, fun Z H => by rw [(iMul_ok h).2]; rfl⟩
theorem opd_powI : Opd X (binaryOp .Pow) (on2I iPow) := opd_I op_pow fun i j d h => by
  unfold iPow at h
  split at h
  · rename_i c
    refine ⟨show 0 ≤ j ∧ j ≤ 1000000 ∧ i.natAbs < 2 ^ 64 from of_decide_eq_true c, fun Z H => ?_⟩
    rw [← Option.some.inj h]
    rfl
  · cases h
def iAdd (i j : Int) : Option D := some (.int (i + j))
def iSub (i j : Int) : Option D := some (.int (i - j))
theorem opd_addI : Opd X (binaryOp .Add) (on2I iAdd) := opd_I0 op_add fun i j d h Z H => by rw [← Option.some.inj h]; rfl
theorem opd_subI : Opd X (binaryOp .Sub) (on2I iSub) := opd_I0 op_sub fun i j d h Z H => by rw [← Option.some.inj h]; rfl
def iLt (i j : Int) : Option D := some (.bl (decide (i < j)))
def iLe (i j : Int) : Option D := some (.bl (decide (i ≤ j)))
def iGt (i j : Int) : Option D := some (.bl (decide (j < i)))
def iGe (i j : Int) : Option D := some (.bl (decide (j ≤ i)))
theorem opd_ltI : Opd X (compareOp .Lt) (on2I iLt) := opd_I0 op_lt fun i j d h Z H => by rw [← Option.some.inj h]; rfl
theorem opd_leI : Opd X (compareOp .LtE) (on2I iLe) := opd_I0 op_le fun i j d h Z H => by rw [← Option.some.inj h]; rfl
theorem opd_gtI : Opd X (compareOp .Gt) (on2I iGt) := opd_I0 op_gt fun i j d h Z H => by rw [← Option.some.inj h]; rfl
theorem opd_geI : Opd X (compareOp .GtE) (on2I iGe) := opd_I0 op_ge fun i j d h Z H => by rw [← Option.some.inj h]; rfl
end
end Pm
set_option maxHeartbeats 2000000
namespace Pm
open PySem PySem.Spec PyProof.Rows L2 SeqAt
end Pm
namespace Pm
open PySem PySem.Spec PyProof.Rows L2
mutual
def toP : D → PyData
  | .non => .none
  | .bl b => .bool b
  | .int i => .int i
  | .str x => .str x
  | .op _ => .none
  | .node _ .lst xs => .list (toPL xs)
  | .node _ .tup xs => .tuple (toPL xs)
  | .node _ _ _ => .none
def toPL : List D → List PyData
  | [] => []
  | d :: ds => toP d :: toPL ds
end
mutual
def deq : D → D → Bool
  | .non, .non => true
  | .bl a, .bl b => a == b
  | .bl a, .int j => (if a then 1 else 0) == j
  | .int i, .bl b => i == (if b then 1 else 0)
  | .int i, .int j => i == j
  | .str x, .str y => x == y
  | .node _ .lst xs, .node _ .lst ys => deqL xs ys
  | .node _ .tup xs, .node _ .tup ys => deqL xs ys
  | _, _ => false
def deqL : List D → List D → Bool
  | [], [] => true
  | x :: xs, y :: ys => deq x y && deqL xs ys
  | _, _ => false
end
/-- data that are compared and shown: at most n deep, numbers of less than 1900 bits if they are to be shown -/
def shp : Nat → D → Bool
  | _, .non => true
  | _, .bl _ => true
  | _, .int _ => true
  | _, .str x => PyData.strOk x
  | n + 1, .node _ .lst xs => xs.all (shp n)
  | n + 1, .node _ .tup xs => xs.all (shp n)
  | _, _ => false
section
variable {K : PySem.W.Frag} {mg : Str → Option Value} {W : WX} {Z H : Hp} {S : Fp} {σ : Sl} {X : Cx}
theorem rep_lst {b : Bool} {ds : List D} {v : V} (w : Sam Z H) (r : Rep K Z H (.node b .lst ds) v S) : ∃ a ys, v = .ref a ∧ H a = some (.lst ys) ∧ RepL K Z H ds ys S := by
  cases b with
  | false =>
    obtain ⟨a, ys, e, c, q⟩ := r
    exact ⟨a, ys, e, w.get _ _ c nt_lst, q⟩
  | true =>
    obtain ⟨a, ys, S', e, c, sa, na, sub, q⟩ := r
    exact ⟨a, ys, e, c, q.move (Same.refl Z) (fun _ _ _ x => x) sub⟩
theorem rep_tup {b : Bool} {ds : List D} {v : V} (w : Sam Z H) (r : Rep K Z H (.node b .tup ds) v S) : ∃ a ys, v = .ref a ∧ SqT K H a ys ∧ RepL K Z H ds ys S := by
  cases b with
  | false =>
    obtain ⟨a, ys, e, c, q⟩ := r
    exact ⟨a, ys, e, SqT.sam c w, q⟩
  | true =>
    obtain ⟨a, ys, e, c, q⟩ := r
    exact ⟨a, ys, e, SqT.sam c.1 w, q⟩
theorem dp_all (w : Sam Z H) {n : Nat} (ih : ∀ (d : D) (v : V) (S : Fp), shp n d = true → Rep K Z H d v S → Dp K H v (toP d)) : ∀ {ds : List D} {vs : List V} {S : Fp}, ds.all (shp n) = true → RepL K Z H ds vs S → DpAll K H vs (toPL ds)
  | [], [], _, _, _ => .nil
  | [], _ :: _, _, _, h => h.elim
  | _ :: _, [], _, _, h => h.elim
  | d :: ds, v :: vs, S, h, ⟨S1, S2, s1, s2, dj, r, q⟩ => by
    rw [List.all_cons, Bool.and_eq_true] at h
    exact .cons (ih d v S1 h.1 r) (dp_all w ih h.2 q)
theorem dp_of (w : Sam Z H) : ∀ (n : Nat) (d : D) (v : V) (S : Fp), shp n d = true → Rep K Z H d v S → Dp K H v (toP d) := by
  intro n
  induction n with
  | zero =>
    intro d v S h r
    cases d with
    | non => obtain rfl : v = .non := r; exact .non
    | bl b => obtain rfl : v = .bl b := r; exact .bl b
    | int i => obtain rfl : v = .int i := r; exact .int i
    | str x => obtain rfl : v = .str x := r; exact .str x
    | op u => simp [shp] at h
    | node b k xs => cases k <;> simp [shp] at h
  | succ n ih =>
    intro d v S h r
    cases d with
    | non => obtain rfl : v = .non := r; exact .non
    | bl b => obtain rfl : v = .bl b := r; exact .bl b
    | int i => obtain rfl : v = .int i := r; exact .int i
    | str x => obtain rfl : v = .str x := r; exact .str x
    | op u => simp [shp] at h
    | node b k xs =>
      cases k with
      | lst =>
        obtain ⟨a, ys, rfl, c, q⟩ := rep_lst w r
        exact .lst (SqL.of c) (dp_all w ih (by simpa [shp] using h) q)
      | tup =>
        obtain ⟨a, ys, rfl, c, q⟩ := rep_tup w r
        exact .tup c (dp_all w ih (by simpa [shp] using h) q)
      | dct ks => simp [shp] at h
      | scr => simp [shp] at h
      | obj C fs => simp [shp] at h
      | ins C fs => simp [shp] at h
theorem shp_can : ∀ (n : Nat) (d : D), shp n d = true → PyData.canLay0 (toP d) = true ∧ PyData.depth (toP d) ≤ n := by
  intro n
  induction n with
  | zero =>
    intro d h
    cases d with
    | non => exact ⟨rfl, Nat.zero_le _⟩
    | bl b => exact ⟨rfl, Nat.zero_le _⟩
    | int i => exact ⟨rfl, Nat.zero_le _⟩
    | str x => exact ⟨by simpa [shp, toP, PyData.canLay0] using h, Nat.zero_le _⟩
    | op u => simp [shp] at h
    | node b k xs => cases k <;> simp [shp] at h
  | succ n ih =>
    have all : ∀ xs : List D, xs.all (shp n) = true → PyData.canLayAll0 (toPL xs) = true ∧ PyData.depthAll (toPL xs) ≤ n := by
      intro xs
      induction xs with
      | nil => intro _; exact ⟨rfl, Nat.zero_le _⟩
      | cons x xs ih2 =>
        intro h
        rw [List.all_cons, Bool.and_eq_true] at h
        obtain ⟨a1, a2⟩ := ih x h.1
        obtain ⟨b1, b2⟩ := ih2 h.2
        refine ⟨by simp only [toPL, PyData.canLayAll0, a1, b1] <;> rfl, ?_⟩
        simp only [toPL, PyData.depthAll]
        omega
    intro d h
    cases d with
    | non => exact ⟨rfl, Nat.zero_le _⟩
    | bl b => exact ⟨rfl, Nat.zero_le _⟩
    | int i => exact ⟨rfl, Nat.zero_le _⟩
    | str x => exact ⟨by simpa [shp, toP, PyData.canLay0] using h, Nat.zero_le _⟩
    | op u => simp [shp] at h
    | node b k xs =>
      cases k with
      | lst =>
        obtain ⟨a1, a2⟩ := all xs (by simpa [shp] using h)
        refine ⟨by simpa [toP, PyData.canLay0] using a1, ?_⟩
        simp only [toP, PyData.depth]
        omega
      | tup =>
        obtain ⟨a1, a2⟩ := all xs (by simpa [shp] using h)
        refine ⟨by simpa [toP, PyData.canLay0] using a1, ?_⟩
        simp only [toP, PyData.depth]
        omega
      | dct ks => simp [shp] at h
      | scr => simp [shp] at h
      | obj C fs => simp [shp] at h
      | ins C fs => simp [shp] at h
theorem eqv_all {n : Nat} (ih : ∀ d e : D, shp n d = true → shp n e = true → PyData.eqv (toP d) (toP e) = deq d e) : ∀ xs ys : List D, xs.all (shp n) = true → ys.all (shp n) = true → PyData.eqvAll (toPL xs) (toPL ys) = deqL xs ys
  | [], [], _, _ => rfl
  | [], _ :: _, _, _ => rfl
  | _ :: _, [], _, _ => rfl
  | x :: xs, y :: ys, h1, h2 => by
    rw [List.all_cons, Bool.and_eq_true] at h1 h2
    simp only [toPL, PyData.eqvAll, deqL]
    rw [ih x y h1.1 h2.1, eqv_all ih xs ys h1.2 h2.2]
theorem eqv_deq : ∀ (n : Nat) (d e : D), shp n d = true → shp n e = true → PyData.eqv (toP d) (toP e) = deq d e := by
  intro n
  induction n with
  | zero =>
    intro d e h1 h2
    cases d with
    | op u => simp [shp] at h1
    | node b k xs => cases k <;> simp [shp] at h1
    | _ =>
      cases e with
      | op u => simp [shp] at h2
      | node b k xs => cases k <;> simp [shp] at h2
      | _ => simp [toP, PyData.eqv, deq]
  | succ n ih =>
    intro d e h1 h2
    cases d with
    | op u => simp [shp] at h1
    | node b k xs =>
      cases k with
      | dct ks => simp [shp] at h1
      | scr => simp [shp] at h1
      | obj C fs => simp [shp] at h1
      | ins C fs => simp [shp] at h1
      | lst =>
        cases e with
        | op u => simp [shp] at h2
        | node b' k' ys =>
          cases k' with
          | dct ks => simp [shp] at h2
          | scr => simp [shp] at h2
          | obj C fs => simp [shp] at h2
          | ins C fs => simp [shp] at h2
          | lst =>
            simp only [toP, PyData.eqv, deq]
            exact eqv_all ih xs ys (by simpa [shp] using h1) (by simpa [shp] using h2)
          | tup => simp [toP, PyData.eqv, deq]
        | _ => simp [toP, PyData.eqv, deq]
      | tup =>
        cases e with
        | op u => simp [shp] at h2
        | node b' k' ys =>
          cases k' with
          | dct ks => simp [shp] at h2
          | scr => simp [shp] at h2
          | obj C fs => simp [shp] at h2
          | ins C fs => simp [shp] at h2
          | tup =>
            simp only [toP, PyData.eqv, deq]
            exact eqv_all ih xs ys (by simpa [shp] using h1) (by simpa [shp] using h2)
          | lst => simp [toP, PyData.eqv, deq]
        | _ => simp [toP, PyData.eqv, deq]
    | _ =>
      cases e with
      | op u => simp [shp] at h2
      | node b k xs =>
        cases k with
        | dct ks => simp [shp] at h2
        | scr => simp [shp] at h2
        | obj C fs => simp [shp] at h2
        | ins C fs => simp [shp] at h2
        | _ => simp [toP, PyData.eqv, deq]
      | _ => simp [toP, PyData.eqv, deq]
def opEqD : List D → Option D
  | [d, e] => if shp 60 d && shp 60 e then some (.bl (deq d e)) else none
  | _ => none
def opNeD : List D → Option D
  | [d, e] => if shp 60 d && shp 60 e then some (.bl (!deq d e)) else none
  | _ => none
theorem shaped_of {d : D} (h : shp 60 d = true) : SeqAt.shaped (toP d) = true := by
  obtain ⟨a, b⟩ := shp_can 60 d h
  unfold SeqAt.shaped
  rw [a, decide_eq_true (by omega : PyData.depth (toP d) ≤ 64)]
  rfl
theorem opd_neD (hu : X.A.units + 64 < cLine) : Opd X (compareOp .NotEq) opNeD := by
  refine ⟨_, op_neD hu, snd_pure fun Z H S ds vs d Q w rb e k => ?_⟩
  unfold opNeD at e
  split at e
  · rename_i x y
    split at e
    · rename_i c
      rw [Bool.and_eq_true] at c
      obtain ⟨v, u, rfl, rv, ru⟩ := rb2 rb
      refine ⟨v, u, rfl, toP x, toP y, dp_of w.same _ _ _ _ c.1 rv, dp_of w.same _ _ _ _ c.2 ru, shaped_of c.1, shaped_of c.2, ?_⟩
      rw [eqv_deq 60 x y c.1 c.2]
      exact k _ (by rw [← Option.some.inj e]; rfl)
    · cases e
  · cases e
def opEq : List D → Option D
  | [.str x, .str y] => some (.bl (x == y))
  | [.str _, .node _ (.dct _) _] => some (.bl false)
  | ds => opEqD ds
def opNe : List D → Option D
  | [.str x, .str y] => some (.bl (!(x == y)))
  | ds => opNeD ds
def opNeS : List D → Option D
  | [.str x, .str y] => some (.bl (!(x == y)))
  | _ => none
theorem opd_neS : Opd X (compareOp .NotEq) opNeS := by
  refine ⟨_, op_ne, snd_pure fun Z H S ds vs d Q w rb e k => ?_⟩
  unfold opNeS at e
  split at e
  · rename_i x y
    obtain ⟨v, u, rfl, rv, ru⟩ := rb2 rb
    obtain rfl : v = .str x := rv
    obtain rfl : u = .str y := ru
    refine ⟨_, _, rfl, rfl, ?_⟩
    cases e
    refine k _ ?_
    show V.bl (!decide (V.str x = V.str y)) = V.bl (!(x == y))
    rw [show (x == y) = decide (x = y) from rfl]
    simp
  · cases e
theorem opd_ne (hu : X.A.units + 64 < cLine) : Opd X (compareOp .NotEq) opNe := Opd.or opd_neS (opd_neD hu) fun ds d h => by
  unfold opNe at h
  split at h
  · exact .inl h
  · exact .inr h
def D.isNon : D → Bool
  | .non => true
  | _ => false
def opIsN : List D → Option D
  | [d, .non] => match d with
    | .op _ => none
    | _ => some (.bl d.isNon)
  | _ => none
def opNotN : List D → Option D
  | [d, .non] => match d with
    | .op _ => none
    | _ => some (.bl (!d.isNon))
  | _ => none
theorem isNon_rep {d : D} {v : V} (h : ∀ u, d ≠ .op u) (r : Rep K Z H d v S) : decide (v = .non) = d.isNon := by
  cases d with
  | op u => exact absurd rfl (h u)
  | node b k xs =>
    obtain ⟨a, rfl⟩ := rep_ref r
    rfl
  | non => obtain rfl : v = .non := r; rfl
  | bl b => obtain rfl : v = .bl b := r; rfl
  | int b => obtain rfl : v = .int b := r; rfl
  | str b => obtain rfl : v = .str b := r; rfl
theorem opd_isN : Opd X (compareOp .Is) opIsN := by
  refine ⟨_, op_isN, snd_pure fun Z H S ds vs d Q w rb e k => ?_⟩
  unfold opIsN at e
  split at e
  · rename_i x
    obtain ⟨v, u, rfl, rv, ru⟩ := rb2 rb
    split at e
    · cases e
    · rename_i hx
      refine ⟨v, u, rfl, ru, ?_⟩
      rw [isNon_rep (fun u q => hx u q) rv]
      exact k _ (by rw [← Option.some.inj e]; rfl)
  · cases e
theorem opd_notN : Opd X (compareOp .IsNot) opNotN := by
  refine ⟨_, op_notN, snd_pure fun Z H S ds vs d Q w rb e k => ?_⟩
  unfold opNotN at e
  split at e
  · rename_i x
    obtain ⟨v, u, rfl, rv, ru⟩ := rb2 rb
    split at e
    · cases e
    · rename_i hx
      refine ⟨v, u, rfl, ru, ?_⟩
      rw [isNon_rep (fun u q => hx u q) rv]
      exact k _ (by rw [← Option.some.inj e]; rfl)
  · cases e
end
end Pm
namespace Pm
open PySem PySem.Spec PyProof.Rows L2
section
variable {K : PySem.W.Frag} {mg : Str → Option Value} {W : WX} {Z H : Hp} {S : Fp} {σ : Sl} {X : Cx} {A : Nat → Bool}
theorem tE_fin {fs : M (List EV)} {F : List EV → M EV} {Q : VK} {R : List V → Hp → Prop} (h : tE K mg W (bnd fs F) σ H Q)
    (hR : ∀ es ρ1 vs Z1 H1 S1 Sa, Wd Z1 H1 (fun a => S1 a ∨ Sa a) → (∀ a, S1 a → Sa a → False) → EnvR K Z1 H1 ρ1 σ S1 → EVsR K Z1 H1 σ es vs Sa → OutE K mg W Z1 H1 (fun a => S1 a ∨ Sa a) σ Q (F es ρ1) → R vs H1) : tA K mg W fs σ H R := by
  obtain ⟨Z, ρ, S, w, er, o⟩ := h
  refine ⟨Z, ρ, S, w, er, ?_⟩
  simp only [bnd] at o
  cases e1 : fs ρ with
  | stuck => rw [e1] at o; exact o
  | exc x ρ1 => rw [e1] at o; exact o
  | ok es ρ1 =>
    simp only [e1] at o
    exact fun vs Z1 H1 S1 Sa st dj er1 r1 => hR es ρ1 vs Z1 H1 S1 Sa st.wd dj er1 r1 (OutE.after st o)
theorem ev1 {e : EV} {vs : List V} (h : EVsR K Z H σ [e] vs S) : ∃ v A1, vs = [v] ∧ (∀ a, A1 a → S a) ∧ EVR K Z H σ e v A1 := by
  cases vs with
  | nil => exact h.elim
  | cons v vs =>
    obtain ⟨S1, S2, s1, s2, dj, r, q⟩ := h
    cases vs with
    | nil => exact ⟨v, S1, rfl, s1, r⟩
    | cons u us => exact q.elim
theorem ev2 {e f : EV} {vs : List V} (h : EVsR K Z H σ [e, f] vs S) : ∃ v u A1 A2, vs = [v, u] ∧ (∀ a, A1 a → S a) ∧ (∀ a, A2 a → S a) ∧ (∀ a, A1 a → A2 a → False) ∧ EVR K Z H σ e v A1 ∧ EVR K Z H σ f u A2 := by
  cases vs with
  | nil => exact h.elim
  | cons v vs =>
    obtain ⟨S1, S2, s1, s2, dj, r, q⟩ := h
    obtain ⟨u, A2, rfl, a2, ru⟩ := ev1 q
    exact ⟨v, u, S1, A2, rfl, s1, fun a x => s2 a (a2 a x), fun a x y => dj a x (a2 a y), r, ru⟩
/-- an item: of a slot's thing it stays there, frozen; of a thing of no name it is taken out -/
def itemOf (ea : EV) (k : Int) : M EV := fun ρ => match ea with
  | .val (.node _ .lst xs) => match atI xs k with
    | some d => .ok (.val d) ρ
    | none => .stuck
  | .val (.node _ .tup xs) => match atI xs k with
    | some d => .ok (.val d) ρ
    | none => .stuck
  | .val (.str x) => if x.length ≤ cap then (match atI x.cps.toList k with
    | some c => .ok (.val (.str ⟨#[c]⟩)) ρ
    | none => .stuck) else .stuck
  | .val _ => .stuck
  | .ref j => match ρ.getD j none with
    | some (.node b .lst xs) => (match ixN xs.length k with
      | some i => match xs[i]? with
        | some d => if d.plain then .ok (.val d) ρ else .ok (.val d.frz) (ρ.set j (some (.node b .lst (xs.set i d.frz))))
        | none => .stuck
      | none => .stuck)
    | some (.node b .tup xs) => (match ixN xs.length k with
      | some i => match xs[i]? with
        | some d => if d.plain then .ok (.val d) ρ else .ok (.val d.frz) (ρ.set j (some (.node b .tup (xs.set i d.frz))))
        | none => .stuck
      | none => .stuck)
    | some (.str x) => if x.length ≤ cap then (match atI x.cps.toList k with
      | some c => .ok (.val (.str ⟨#[c]⟩)) ρ
      | none => .stuck) else .stuck
    | _ => .stuck
def idx (fs : M (List EV)) : M EV := bnd fs fun es => fun ρ => match es with
  | [ea, ei] => match peek1 ρ ei with
    | some (.int k) => itemOf ea k ρ
    | _ => .stuck
  | _ => .stuck
theorem RepL.atI {ds : List D} {vs : List V} {k : Int} {d : D} (r : RepL K Z H ds vs S) (h : L2.atI ds k = some d) : ∃ v, L2.atI vs k = some v ∧ Rep K Z H d v S := by
  unfold L2.atI at h ⊢
  rw [← r.length]
  cases e : ixN ds.length k with
  | none => rw [e] at h; cases h
  | some j =>
    rw [e] at h
    exact r.get h
/-- a frozen item put back into a thing of a slot -/
theorem item_frz {b : Bool} {k : Kd} {xs : List D} {i j : Nat} {d : D} {ρ : Env} (hk : k = .lst ∨ k = .tup) (w : Wd Z H S) (er : EnvR K Z H ρ σ S) (e : ρ.getD j none = some (.node b k xs)) (hx : xs[i]? = some d) :
    ∃ v Z' S', σ[j]? = some (some v) ∧ Step Z H S Z' H S' ∧ (∀ a, S' a → S a) ∧ EnvR K Z' H (ρ.set j (some (.node b k (xs.set i d.frz)))) σ S' ∧
      ∃ a ys y, v = .ref a ∧ Frd K H a ys k ∧ ys[i]? = some y ∧ ys.length = xs.length ∧ Rep K Z' H d.frz y Fp0 := by
  obtain ⟨v, U1, U2, hv, u1, u2, uj, ru, eu⟩ := er.take (getD_some e)
  obtain ⟨hj, ej⟩ := List.getElem?_eq_some_iff.mp hv
  have es : σ.set j (some v) = σ := by rw [← ej, List.set_getElem_self]
  have hl : j < ρ.length := by rw [er.length]; exact hj
  cases b with
  | false =>
    obtain ⟨a, ys, rfl, c, rl⟩ := ru
    obtain ⟨y, T1, T2, hy, t1, t2, tj, ry, put⟩ := rl.take hx
    have st : Step Z H S (thaw Z H T1) H (fun a => T2 a ∨ U2 a) := Step.freeze w (fun a x => u1 a (t1 a x)) (fun a x => x.elim (fun z => u1 a (t2 a z)) (u2 a)) fun a x z => x.elim (fun q => tj a z q) fun q => uj a (t1 a z) q
    have rf : Rep K (thaw Z H T1) H d.frz y Fp0 := Rep.frz ry (fun a x => w.sep a (u1 a (t1 a x))) fun _ x => x
    have hs : ys.set i y = ys := by
      obtain ⟨hi, ei⟩ := List.getElem?_eq_some_iff.mp hy
      rw [← ei, List.set_getElem_self]
    have pl := put (thaw Z H T1) H d.frz y Fp0 T2 st.zz (fun _ _ _ x => x) rf (fun _ x => x.elim) (fun _ x => x) fun _ x _ => x
    rw [hs] at pl
    have rn : Rep K (thaw Z H T1) H (.node false k (xs.set i d.frz)) (.ref a) T2 := ⟨a, ys, rfl, c.same st.zz, pl⟩
    have q := EnvR.put (S := fun a => T2 a ∨ U2 a) (eu.move st.zz (fun _ _ _ x => x) fun _ x => x) hl rn (fun _ x => .inl x) (fun _ x => .inr x) fun a x z => uj a (t2 a x) z
    rw [es] at q
    exact ⟨.ref a, _, _, hv, st, fun a x => x.elim (fun z => u1 a (t2 a z)) (u2 a), q, a, ys, y, rfl, c.sam w.same, hy, rl.length.symm, rf⟩
  | true =>
    rcases hk with rfl | rfl
    · obtain ⟨a, ys, U', rfl, c, sa, na, sub, rl⟩ := ru
      obtain ⟨y, T1, T2, hy, t1, t2, tj, ry, put⟩ := rl.take hx
      have st : Step Z H S (thaw Z H T1) H (fun b => (b = a ∨ T2 b) ∨ U2 b) := Step.freeze w (fun b x => u1 b (sub b (t1 b x))) (fun b x => x.elim (fun z => z.elim (fun q => by rw [q]; exact u1 a sa) fun q => u1 b (sub b (t2 b q))) (u2 b)) fun b x z => x.elim (fun q => q.elim (fun p => na (by rw [← p]; exact t1 b z)) fun p => tj b z p) fun q => uj b (sub b (t1 b z)) q
      have rf : Rep K (thaw Z H T1) H d.frz y Fp0 := Rep.frz ry (fun b x => w.sep b (u1 b (sub b (t1 b x)))) fun _ x => x
      have hs : ys.set i y = ys := by
        obtain ⟨hi, ei⟩ := List.getElem?_eq_some_iff.mp hy
        rw [← ei, List.set_getElem_self]
      have pl := put (thaw Z H T1) H d.frz y Fp0 T2 st.zz (fun _ _ _ x => x) rf (fun _ x => x.elim) (fun _ x => x) fun _ x _ => x
      rw [hs] at pl
      have rn : Rep K (thaw Z H T1) H (.node true .lst (xs.set i d.frz)) (.ref a) (fun b => b = a ∨ T2 b) := ⟨a, ys, T2, rfl, c, .inl rfl, fun x => na (t2 a x), fun b x => .inr x, pl⟩
      have q := EnvR.put (S := fun b => (b = a ∨ T2 b) ∨ U2 b) (eu.move st.zz (fun _ _ _ x => x) fun _ x => x) hl rn (fun _ x => .inl x) (fun _ x => .inr x) fun b x z => x.elim (fun p => uj a sa (by rw [← p]; exact z)) fun p => uj b (sub b (t2 b p)) z
      rw [es] at q
      exact ⟨.ref a, _, _, hv, st, fun b x => x.elim (fun z => z.elim (fun q => by rw [q]; exact u1 a sa) fun q => u1 b (sub b (t2 b q))) (u2 b), q, a, ys, y, rfl, (c.frd (K := K)), hy, rl.length.symm, rf⟩
    · obtain ⟨a, ys, rfl, c, rl⟩ := ru
      obtain ⟨y, T1, T2, hy, t1, t2, tj, ry, put⟩ := rl.take hx
      have st : Step Z H S (thaw Z H T1) H (fun a => T2 a ∨ U2 a) := Step.freeze w (fun a x => u1 a (t1 a x)) (fun a x => x.elim (fun z => u1 a (t2 a z)) (u2 a)) fun a x z => x.elim (fun q => tj a z q) fun q => uj a (t1 a z) q
      have rf : Rep K (thaw Z H T1) H d.frz y Fp0 := Rep.frz ry (fun a x => w.sep a (u1 a (t1 a x))) fun _ x => x
      have hs : ys.set i y = ys := by
        obtain ⟨hi, ei⟩ := List.getElem?_eq_some_iff.mp hy
        rw [← ei, List.set_getElem_self]
      have pl := put (thaw Z H T1) H d.frz y Fp0 T2 st.zz (fun _ _ _ x => x) rf (fun _ x => x.elim) (fun _ x => x) fun _ x _ => x
      rw [hs] at pl
      have rn : Rep K (thaw Z H T1) H (.node true .tup (xs.set i d.frz)) (.ref a) T2 := ⟨a, ys, rfl, ⟨Pm.SqT.same c.1 st.zz, c.2.same st.zz⟩, pl⟩
      have q := EnvR.put (S := fun a => T2 a ∨ U2 a) (eu.move st.zz (fun _ _ _ x => x) fun _ x => x) hl rn (fun _ x => .inl x) (fun _ x => .inr x) fun a x z => uj a (t2 a x) z
      rw [es] at q
      exact ⟨.ref a, _, _, hv, st, fun a x => x.elim (fun z => u1 a (t2 a z)) (u2 a), q, a, ys, y, rfl, Pm.SqT.sam c.1 w.same, hy, rl.length.symm, rf⟩
theorem tE_idx {fs : M (List EV)} {Q : VK} (h : tE K mg W (idx fs) σ H Q) : tA K mg W fs σ H fun vs H1 => ∃ x y, vs = [x, y] ∧ rIx K x y H1 Q := by
  refine tE_fin h fun es ρ1 vs Z1 H1 S1 Sa w dj er1 r1 o => ?_
  split at o
  · rename_i ea ei
    obtain ⟨x, y, A1, A2, rfl, a1, a2, aj, rx, ry⟩ := ev2 r1
    split at o
    · rename_i k hk
      have hy : y = .int k := peek1_rep er1 ry hk
      subst hy
      refine ⟨x, .int k, rfl, ?_⟩
      have w1 : Step Z1 H1 (fun a => S1 a ∨ Sa a) Z1 H1 (fun a => S1 a ∨ A1 a) := (Step.refl w).less fun a z => z.elim .inl fun t => .inr (a1 a t)
      have w0 : Step Z1 H1 (fun a => S1 a ∨ Sa a) Z1 H1 (fun a => S1 a ∨ Fp0 a) := (Step.refl w).less fun a z => z.elim .inl False.elim
      have d1 : ∀ a, S1 a → A1 a → False := fun a p q => dj a p (a1 a q)
      unfold itemOf at o
      split at o
      · rename_i b xs
        split at o
        · rename_i d hd
          obtain ⟨a, ys, rfl, c, rl⟩ := rep_lst w.same rx
          obtain ⟨v, hv, rv⟩ := rl.atI hd
          exact .inl ⟨a, ys, k, v, rfl, rfl, SqL.of c, hv, o v Z1 H1 S1 A1 w1 d1 er1 rv⟩
        · exact o.elim
      · rename_i b xs
        split at o
        · rename_i d hd
          obtain ⟨a, ys, rfl, c, rl⟩ := rep_tup w.same rx
          obtain ⟨v, hv, rv⟩ := rl.atI hd
          exact .inr (.inl ⟨a, ys, k, v, rfl, rfl, c, hv, o v Z1 H1 S1 A1 w1 d1 er1 rv⟩)
        · exact o.elim
      · rename_i z
        split at o
        · rename_i hz
          split at o
          · rename_i c hc
            obtain rfl : x = .str z := rx
            exact .inr (.inr ⟨z, k, c, rfl, rfl, cap_le hz, hc, o _ Z1 H1 S1 Fp0 w0 (fun _ _ x => x) er1 rfl⟩)
          · exact o.elim
        · exact o.elim
      · exact o.elim
      · rename_i j
        have hx : σ[j]? = some (some x) := rx
        split at o
        · rename_i b xs he
          split at o
          · rename_i i hi
            split at o
            · rename_i d hd
              split at o
              · rename_i hp
                have rn := peek1_rep (v := x) (Sa := Fp0) er1 (e := .ref j) hx (show peek1 ρ1 (.ref j) = _ from he)
                obtain ⟨a, ys, rfl, c, rl⟩ := rep_lst w.same rn
                obtain ⟨v, hv, rv⟩ := rl.get hd
                refine .inl ⟨a, ys, k, v, rfl, rfl, SqL.of c, ?_, o v Z1 H1 S1 Fp0 w0 (fun _ _ x => x) er1 (rv.plain hp)⟩
                unfold L2.atI
                rw [← rl.length, hi]
                exact hv
              · have wS : Wd Z1 H1 S1 := w.less fun a z => .inl z
                obtain ⟨v, Z2, S2, hv, st, m, er2, a, ys, y, rfl, c, hy, hl, ry2⟩ := item_frz (.inl rfl) wS er1 he hd
                rw [hv] at hx
                cases hx
                refine .inl ⟨a, ys, k, y, rfl, rfl, SqL.of c, ?_, o y Z2 H1 S2 Fp0 ((w1.less fun a z => .inl z).trans (st.less fun a z => z.elim id False.elim)) (fun _ _ x => x) er2 ry2⟩
                unfold L2.atI
                rw [hl, hi]
                exact hy
            · exact o.elim
          · exact o.elim
        · rename_i b xs he
          split at o
          · rename_i i hi
            split at o
            · rename_i d hd
              split at o
              · rename_i hp
                have rn := peek1_rep (v := x) (Sa := Fp0) er1 (e := .ref j) hx (show peek1 ρ1 (.ref j) = _ from he)
                obtain ⟨a, ys, rfl, c, rl⟩ := rep_tup w.same rn
                obtain ⟨v, hv, rv⟩ := rl.get hd
                refine .inr (.inl ⟨a, ys, k, v, rfl, rfl, c, ?_, o v Z1 H1 S1 Fp0 w0 (fun _ _ x => x) er1 (rv.plain hp)⟩)
                unfold L2.atI
                rw [← rl.length, hi]
                exact hv
              · have wS : Wd Z1 H1 S1 := w.less fun a z => .inl z
                obtain ⟨v, Z2, S2, hv, st, m, er2, a, ys, y, rfl, c, hy, hl, ry2⟩ := item_frz (.inr rfl) wS er1 he hd
                rw [hv] at hx
                cases hx
                refine .inr (.inl ⟨a, ys, k, y, rfl, rfl, c, ?_, o y Z2 H1 S2 Fp0 ((w1.less fun a z => .inl z).trans (st.less fun a z => z.elim id False.elim)) (fun _ _ x => x) er2 ry2⟩)
                unfold L2.atI
                rw [hl, hi]
                exact hy
            · exact o.elim
          · exact o.elim
        · rename_i z he
          split at o
          · rename_i hz
            split at o
            · rename_i c hc
              have rn : x = .str z := peek1_rep (v := x) (Sa := Fp0) er1 (e := .ref j) hx (show peek1 ρ1 (.ref j) = _ from he)
              subst rn
              exact .inr (.inr ⟨z, k, c, rfl, rfl, cap_le hz, hc, o _ Z1 H1 S1 Fp0 w0 (fun _ _ x => x) er1 rfl⟩)
            · exact o.elim
          · exact o.elim
        · exact o.elim
    · exact o.elim
  · exact o.elim
theorem pe_idx {a b : Expr} {fa fb : M EV} {pos : Pos} (ha : PE X a (tE X.K X.mg W fa)) (hb : PE X b (tE X.K X.mg W fb)) (hs : PlainIx b) : PE X (.Subscript a b pos) (tE X.K X.mg W (idx (aCons fa (aCons fb aNil)))) :=
  PE.of (pe_ix ix_seq ha hb hs) fun σ H Q q => two_of (tE_idx q)
end
end Pm
namespace Pm
open PySem PySem.Spec PyProof.Rows L2
/-- what is in it is plain -/
def D.shal : D → Bool
  | .node _ _ xs => plainL xs
  | _ => true
section
variable {K : PySem.W.Frag} {mg : Str → Option Value} {W : WX} {Z H : Hp} {S : Fp} {σ : Sl} {X : Cx} {A : Nat → Bool}
/-- an operation whose result shares the items of what it is given: they are frozen first, if they are not plain -/
def appF (g : List D → Option D) (fs : M (List EV)) : M EV := bnd fs fun es => fun ρ => match peeks ρ es with
  | some ds => if ds.all D.shal then (match g ds with
      | some d => .ok (.val d) ρ
      | none => .stuck)
    else match useL es ρ with
      | .ok ds' ρ' => (match g (frzL ds') with
        | some d => .ok (.val d) ρ'
        | none => .stuck)
      | _ => .stuck
  | none => .stuck
theorem RepL.toB : ∀ {ds : List D} {vs : List V} {S : Fp}, RepL K Z H ds vs S → RepB K Z H S ds vs
  | [], [], _, _ => trivial
  | [], _ :: _, _, h => h.elim
  | _ :: _, [], _, h => h.elim
  | _ :: _, _ :: _, _, ⟨_, _, s1, s2, _, r, q⟩ => ⟨r.move (Same.refl Z) (fun _ _ _ x => x) s1, (RepL.toB q).more s2⟩
theorem tE_appF {r : List V → Hp → VK → Prop} {g : List D → Option D} {fs : M (List EV)} {Q : VK} (hs : Snd X r g) (h : tE X.K X.mg W (appF g fs) σ H Q) : tA X.K X.mg W fs σ H fun vs H1 => r vs H1 Q := by
  refine tE_fin h fun es ρ1 vs Z1 H1 S1 Sa w dj er1 r1 o => ?_
  split at o
  · rename_i ds hp
    split at o
    · split at o
      · rename_i d hd
        refine hs Z1 H1 _ ds vs d Q w (peeks_rep er1 r1 hp) hd fun v Z2 H2 Sd st2 sm dj2 rd => ?_
        exact o v Z2 H2 S1 Sd (st2.less fun a x => x.elim (fun y => .inl (.inl y)) .inr) (fun a x y => dj2 a (.inl x) y) (er1.move st2.zz (fun a ob _ e => sm a ob e) fun _ x => x) rd
      · exact o.elim
    · split at o
      · rename_i ds' ρ2 hu
        split at o
        · rename_i d hd
          have w1 : Wd Z1 H1 (fun a => (S1 a ∨ Sa a) ∨ Fp0 a) := w.less fun a x => x.elim id False.elim
          obtain ⟨Z2, S2, st2, m2, er2, r2⟩ := useL_ok w1 dj (fun _ _ x => x) er1 r1 hu
          have st2' : Step Z1 H1 (fun a => S1 a ∨ Sa a) Z2 H1 (fun a => S2 a ∨ Sa a) := ⟨st2.wd.less fun a x => .inl x, st2.zz, fun a o n e _ => e, fun a x => .inl (x.elim (fun y => .inl (m2 a y)) .inr), fun a o e => (st2.znew a o e).elim .inl fun y => .inr (y.elim (fun z => z.elim .inl False.elim) .inr)⟩
          have w2 := st2'.wd
          have st3 : Step Z2 H1 (fun a => S2 a ∨ Sa a) (thaw Z2 H1 Sa) H1 S2 := Step.freeze w2 (fun a x => .inr x) (fun a x => .inl x) fun a x y => dj a (m2 a x) y
          have r3 : RepL X.K (thaw Z2 H1 Sa) H1 (frzL ds') vs Fp0 := RepL.frz (S := Sa) r2 (fun a x => w2.sep a (.inr x)) fun _ x => x
          refine hs (thaw Z2 H1 Sa) H1 S2 (frzL ds') vs d Q st3.wd (r3.toB.more fun _ x => x.elim) hd fun v Z4 H4 Sd st4 sm dj4 rd => ?_
          exact o v Z4 H4 S2 Sd ((st2'.trans st3).trans st4) dj4 (er2.move (st3.zz.trans st4.zz) (fun a ob _ e => sm a ob e) fun _ x => x) rd
        · exact o.elim
      · exact o.elim
  · exact o.elim
/-- made anew: a list, a tuple of plain items -/
theorem fresh_lst {ds : List D} {vs : List V} {p : Addr} (w : Wd Z H S) (hp : H p = none) (r : RepL K Z H ds vs Fp0) :
    Step Z H S Z (upd H p (.lst vs)) (fun a => S a ∨ a = p) ∧ (∀ a o, H a = some o → upd H p (.lst vs) a = some o) ∧ (∀ a, S a → a = p → False) ∧ Rep K Z (upd H p (.lst vs)) (.lst true ds) (.ref p) (fun a => a = p) :=
  ⟨Step.alloc w hp, fun a o e => by rw [upd_ne (ne_of_none e hp)]; exact e, fun a s e => w.dom a s (by rw [e]; exact hp), ⟨p, vs, Fp0, rfl, upd_same, rfl, fun x => x, fun _ x => x.elim, r.move (Same.refl Z) (fun _ _ x => x.elim) fun _ x => x⟩⟩
theorem fresh_tup {ds : List D} {vs : List V} {p : Addr} (w : Wd Z H S) (hp : H p = none) (r : RepL K Z H ds vs Fp0) :
    Step Z H S (upd Z p (.tup vs)) (upd H p (.tup vs)) (fun a => S a ∨ Fp0 a) ∧ (∀ a o, H a = some o → upd H p (.tup vs) a = some o) ∧ Rep K (upd Z p (.tup vs)) (upd H p (.tup vs)) (.tup ds) (.ref p) Fp0 := by
  have st := Step.allocZ (o := .tup vs) w hp
  exact ⟨st.less fun a x => x.elim id False.elim, fun a o e => by rw [upd_ne (ne_of_none e hp)]; exact e, p, vs, rfl, SqT.of upd_same, r.move st.zz (fun _ _ x => x.elim) fun _ x => x⟩
def cutD (xs : List D) (lo hi : Option Int) : List D := (xs.drop (HT.sIx xs.length 0 lo)).take (HT.sIx xs.length xs.length hi - HT.sIx xs.length 0 lo)
def gCut (lo hi : Option Int) : D → Option D
  | .node _ .lst xs => if plainL xs then some (.lst true (cutD xs lo hi)) else none
  | .node _ .scr xs => if plainL xs then some (.lst true (cutD xs lo hi)) else none
  | .node _ .tup xs => if plainL xs then some (.tup (cutD xs lo hi)) else none
  | .str x => if x.length ≤ cap then some (.str (cutS x lo hi)) else none
  | _ => none
theorem RepL.cut {ds : List D} {vs : List V} (r : RepL K Z H ds vs S) (p : plainL ds = true) (lo hi : Option Int) : RepL K Z H (cutD ds lo hi) (cutV vs lo hi) Fp0 := by
  have rp : RepL K Z H ds vs Fp0 := r.plain p
  have drop : ∀ (n : Nat) {ds : List D} {vs : List V}, RepL K Z H ds vs Fp0 → RepL K Z H (ds.drop n) (vs.drop n) Fp0 := by
    intro n
    induction n with
    | zero => exact fun r => r
    | succ n ih =>
      intro ds vs r
      cases ds with
      | nil => cases vs with
        | nil => trivial
        | cons => exact r.elim
      | cons d ds => cases vs with
        | nil => exact r.elim
        | cons v vs =>
          obtain ⟨_, _, _, s2, _, _, q⟩ := r
          exact ih (q.move (Same.refl Z) (fun _ _ _ x => x) s2)
  have take : ∀ (n : Nat) {ds : List D} {vs : List V}, RepL K Z H ds vs Fp0 → RepL K Z H (ds.take n) (vs.take n) Fp0 := by
    intro n
    induction n with
    | zero => exact fun _ => by simp only [List.take_zero]; trivial
    | succ n ih =>
      intro ds vs r
      cases ds with
      | nil => cases vs with
        | nil => trivial
        | cons => exact r.elim
      | cons d ds => cases vs with
        | nil => exact r.elim
        | cons v vs =>
          obtain ⟨_, _, s1, s2, _, r1, q⟩ := r
          exact ⟨Fp0, Fp0, fun _ x => x, fun _ x => x, fun _ x _ => x, r1.move (Same.refl Z) (fun _ _ _ x => x) s1, ih (q.move (Same.refl Z) (fun _ _ _ x => x) s2)⟩
  have e := r.length
  unfold cutD cutV
  rw [e]
  exact take _ (drop _ rp)
/-- o[lo:hi]; the parts are ints or left out -/
def cut (f : M EV) (lo hi : Option (M EV)) : M EV := bnd f fun e =>
  bnd (match lo with
    | none => ret none
    | some m => bnd m fun el => fun ρ => match peek1 ρ el with
      | some (.int i) => .ok (some i) ρ
      | _ => .stuck) fun l =>
  bnd (match hi with
    | none => ret none
    | some m => bnd m fun eh => fun ρ => match peek1 ρ eh with
      | some (.int i) => .ok (some i) ρ
      | _ => .stuck) fun h => fun ρ => match peek1 ρ e with
    | some d => match gCut l h d with
      | some d' => .ok (.val d') ρ
      | none => .stuck
    | none => .stuck
def OutO (K : PySem.W.Frag) (mg : Str → Option Value) (W : WX) (Z H : Hp) (S : Fp) (σ : Sl) (Q : Option Int → Hp → Prop) : Res (Option Int) → Prop
  | .stuck => False
  | .ok b ρ' => ∀ Z' H' S', Step Z H S Z' H' S' → EnvR K Z' H' ρ' σ S' → Q b H'
  | .exc x ρ' => XOut K mg W Z H S σ x ρ'
def tO (K : PySem.W.Frag) (mg : Str → Option Value) (W : WX) (f : M (Option Int)) : TO := fun σ H Q => ∃ Z ρ S, Wd Z H S ∧ EnvR K Z H ρ σ S ∧ OutO K mg W Z H S σ Q (f ρ)
def partO (o : Option (M EV)) : M (Option Int) := match o with
    | none => ret none
    | some m => bnd m fun el => fun ρ => match peek1 ρ el with
      | some (.int i) => .ok (some i) ρ
      | _ => .stuck
theorem PO.of {e : Option Expr} {t t' : TO} (h : PO X e t) (i : ∀ σ H Q, t' σ H Q → t σ H Q) : PO X e t' := ⟨fun p s σ H R I q => h.run p s σ H R I (i σ H R q)⟩
theorem tO_none {Q : Option Int → Hp → Prop} (h : tO K mg W (partO none) σ H Q) : tNoPart σ H Q := by
  obtain ⟨Z, ρ, S, w, er, o⟩ := h
  exact o Z H S (Step.refl w) er
theorem tO_some {f : M EV} {Q : Option Int → Hp → Prop} (h : tO K mg W (partO (some f)) σ H Q) : tPart (tE K mg W f) σ H Q := by
  obtain ⟨Z, ρ, S, w, er, o⟩ := h
  refine ⟨Z, ρ, S, w, er, ?_⟩
  simp only [partO, bnd] at o
  cases e1 : f ρ with
  | stuck => rw [e1] at o; exact o
  | exc x ρ1 => rw [e1] at o; exact o
  | ok ev ρ1 =>
    simp only [e1] at o
    intro v Z1 H1 S1 Sa st1 dj1 er1 r1
    split at o
    · rename_i i hi
      exact ⟨i, peek1_rep er1 r1 hi, o Z1 H1 S1 (st1.less fun a x => .inl x) er1⟩
    · exact o.elim
theorem po_N : PO X none (tO X.K X.mg W (partO none)) := PO.of po_none fun _ _ _ q => tO_none q
theorem po_S {e : Expr} {f : M EV} (h : PE X e (tE X.K X.mg W f)) : PO X (some e) (tO X.K X.mg W (partO (some f))) := PO.of (po_some h) fun _ _ _ q => tO_some q
theorem tE_cut {f : M EV} {lo hi : Option (M EV)} {Q : VK} (h : tE K mg W (cut f lo hi) σ H Q) : tSl (fun x l u H Q => rSlL K x l u H Q ∨ rSlA K x l u H Q ∨ rSlS x l u H Q) (tE K mg W f) (tO K mg W (partO lo)) (tO K mg W (partO hi)) σ H Q := by
  have h' : tE K mg W (bnd f fun e => bnd (partO lo) fun l => bnd (partO hi) fun h => fun ρ => match peek1 ρ e with
    | some d => match gCut l h d with
      | some d' => .ok (.val d') ρ
      | none => .stuck
    | none => .stuck) σ H Q := h
  obtain ⟨Z, ρ, S, w, er, o⟩ := h'
  refine ⟨Z, ρ, S, w, er, ?_⟩
  simp only [bnd] at o
  cases e1 : f ρ with
  | stuck => rw [e1] at o; exact o
  | exc x ρ1 => rw [e1] at o; exact o
  | ok ev ρ1 =>
    simp only [e1] at o
    intro v Z1 H1 S1 Sa st1 dj1 er1 r1
    refine ⟨Z1, ρ1, S1, st1.wd.less fun a x => .inl x, er1, ?_⟩
    cases e2 : partO lo ρ1 with
    | stuck => simp only [e2] at o; exact o
    | exc x ρ2 => simp only [e2] at o; exact o.behind st1 dj1
    | ok l ρ2 =>
      simp only [e2] at o
      intro Z2 H2 S2 st2 er2
      refine ⟨Z2, ρ2, S2, st2.wd, er2, ?_⟩
      have st12 := st1.trans (st2.frame st1.wd dj1)
      have ap2 := st2.apart (fun a x => st1.wd.live a (.inr x)) dj1
      cases e3 : partO hi ρ2 with
      | stuck => simp only [e3] at o; exact o
      | exc x ρ3 => simp only [e3] at o; exact o.behind st12 ap2
      | ok u ρ3 =>
        simp only [e3] at o
        intro Z3 H3 S3 st3 er3
        have st13 := st12.trans (st3.frame st12.wd ap2)
        have ap3 := st3.apart (fun a x => st12.wd.live a (.inr x)) ap2
        have r3 : EVR K Z3 H3 σ ev v Sa := (r1.stay st2 dj1).stay st3 ap2
        have w3 := st13.wd
        split at o
        · rename_i d hd
          have rd := peek1_rep er3 r3 hd
          split at o
          · rename_i d' hc
            have o1 := OutE.after st13 (r := .ok (.val d') ρ3) o
            have fin : ∀ v' H' Z' Sd, Step Z3 H3 (fun a => S3 a ∨ Sa a) Z' H' (fun a => (S3 a ∨ Sa a) ∨ Sd a) → (∀ a o, H3 a = some o → H' a = some o) → (∀ a, (S3 a ∨ Sa a) → Sd a → False) → Rep K Z' H' d' v' Sd → Q v' H' := fun v' H' Z' Sd st sm dj r =>
              o1 v' Z' H' S3 Sd (st.less fun a x => x.elim (fun y => .inl (.inl y)) .inr) (fun a x y => dj a (.inl x) y) (er3.move st.zz (fun a ob _ e => sm a ob e) fun _ x => x) r
            unfold gCut at hc
            split at hc
            · rename_i b xs
              split at hc
              · rename_i hp
                cases hc
                obtain ⟨a, ys, rfl, c, rl⟩ := rep_lst w3.same rd
                refine .inl ⟨a, ys, rfl, SqL.of c, fun p np => ?_⟩
                obtain ⟨f1, f2, f3, f4⟩ := fresh_lst w3 np (rl.cut hp l u)
                exact fin _ _ _ _ f1 f2 f3 f4
              · cases hc
            · rename_i b xs
              split at hc
              · rename_i hp
                cases hc
                cases b with
                | true => obtain ⟨_, _, _, _, c, _⟩ := rd; exact c.elim
                | false =>
                  obtain ⟨a, ys, rfl, c, rl⟩ := rd
                  refine .inl ⟨a, ys, rfl, Sam.seq w3.same c, fun p np => ?_⟩
                  obtain ⟨f1, f2, f3, f4⟩ := fresh_lst w3 np (rl.cut hp l u)
                  exact fin _ _ _ _ f1 f2 f3 f4
              · cases hc
            · rename_i xs
              split at hc
              · rename_i hp
                cases hc
                have rd0 : Rep K Z3 H3 (.tup xs) v Fp0 := Rep.plain (rep_wk rd) (by simp [D.plain, hp])
                obtain ⟨a, ys, rfl, c, rl⟩ := rep_tup w3.same rd0
                have el := rl.length
                refine .inr (.inl ⟨a, ys, rfl, c, fun hw => ?_, fun hw p np => ?_⟩)
                · have e : cutD xs l u = xs := by
                    unfold cutD
                    rw [← el] at hw
                    rw [hw.1, hw.2, List.drop_zero, Nat.sub_zero, List.take_length]
                  rw [e] at fin
                  exact fin _ _ _ Fp0 w3.nil (fun _ _ e => e) (fun _ _ x => x) rd0
                · obtain ⟨f1, f2, f3⟩ := fresh_tup w3 np (rl.cut hp l u)
                  exact fin _ _ _ _ f1 f2 (fun _ _ x => x) f3
              · cases hc
            · rename_i z
              split at hc
              · rename_i hz
                cases hc
                obtain rfl : v = .str z := rd
                exact .inr (.inr ⟨z, rfl, cap_le hz, fin _ _ _ Fp0 w3.nil (fun _ _ e => e) (fun _ _ x => x) rfl⟩)
              · cases hc
            · cases hc
          · exact o.elim
        · exact o.elim
end
end Pm
namespace Pm
open PySem PySem.Spec PyProof.Rows L2
section
variable {K : PySem.W.Frag} {mg : Str → Option Value} {W : WX} {Z H : Hp} {S : Fp} {σ : Sl} {X : Cx} {A : Nat → Bool}
theorem pe_blt {x : Str} {id : String} {p pos : Pos} {e : Expr} {es : List Expr} {fs : M (List EV)} {r : List V → Hp → VK → Prop} {g : List D → Option D} (hs : Snd X r g) (hc : CallR X (.builtin id) r) (hg : Gl X x) (hm : X.mg x = none) (hv : bootBuiltins x = some (.builtin id))
    (ha : PA X (e :: es) (tA X.K X.mg W fs)) (hn : x ≠ "__name__") (hdb : (x == ("__debug__" : Str)) = false) (he : starEach (e :: es) X.env = (false, eval e X.env) :: starEach es X.env) (hpl : (backTo pos (starEach es X.env)).any (·.1) = false) :
    PE X (.Call (.Name x p) (e :: es) [] pos) (tE X.K X.mg W (app g fs)) := PE.of (pe_callB hc hg hm hv ha hn hdb he hpl) fun σ H Q q => tE_app hs q
theorem pe_bltF {x : Str} {id : String} {p pos : Pos} {e : Expr} {es : List Expr} {fs : M (List EV)} {r : List V → Hp → VK → Prop} {g : List D → Option D} (hs : Snd X r g) (hc : CallR X (.builtin id) r) (hg : Gl X x) (hm : X.mg x = none) (hv : bootBuiltins x = some (.builtin id))
    (ha : PA X (e :: es) (tA X.K X.mg W fs)) (hn : x ≠ "__name__") (hdb : (x == ("__debug__" : Str)) = false) (he : starEach (e :: es) X.env = (false, eval e X.env) :: starEach es X.env) (hpl : (backTo pos (starEach es X.env)).any (·.1) = false) :
    PE X (.Call (.Name x p) (e :: es) [] pos) (tE X.K X.mg W (appF g fs)) := PE.of (pe_callB hc hg hm hv ha hn hdb he hpl) fun σ H Q q => tE_appF hs q
theorem pe_bty {x : Str} {T : String} {p pos : Pos} {e : Expr} {es : List Expr} {fs : M (List EV)} {r : List V → Hp → VK → Prop} {g : List D → Option D} (hs : Snd X r g) (hc : CallR X (.type T) r) (hg : Gl X x) (hm : X.mg x = none) (hv : bootBuiltins x = some (.type T))
    (ha : PA X (e :: es) (tA X.K X.mg W fs)) (hn : x ≠ "__name__") (hdb : (x == ("__debug__" : Str)) = false) (he : starEach (e :: es) X.env = (false, eval e X.env) :: starEach es X.env) (hpl : (backTo pos (starEach es X.env)).any (·.1) = false) :
    PE X (.Call (.Name x p) (e :: es) [] pos) (tE X.K X.mg W (app g fs)) := PE.of (pe_callTy hc hg hm hv ha hn hdb he hpl) fun σ H Q q => tE_app hs q
def opLen : List D → Option D
  | [.node _ .lst xs] => some (.int xs.length)
  | [.node _ .tup xs] => some (.int xs.length)
  | [.node _ .scr xs] => some (.int xs.length)
  | [.str x] => if x.length ≤ cap then some (.int x.length) else none
  | _ => none
theorem snd_len : Snd X (fun xs H Q => (∃ p ys, xs = [.ref p] ∧ (SqL X.K H p ys ∨ SqT X.K H p ys) ∧ Q (.int ys.length) H) ∨ (∃ z, xs = [.str z] ∧ z.length ≤ sizeLine ∧ Q (.int z.length) H)) opLen := by
  refine snd_pure fun Z H S ds vs d Q w rb e k => ?_
  unfold opLen at e
  split at e
  · obtain ⟨v, rfl, rv⟩ := rb1 rb
    obtain ⟨a, ys, rfl, c, rl⟩ := rep_lst w.same rv
    cases e
    exact .inl ⟨a, ys, rfl, .inl (SqL.of c), k _ (by rw [← rl.length]; rfl)⟩
  · obtain ⟨v, rfl, rv⟩ := rb1 rb
    obtain ⟨a, ys, rfl, c, rl⟩ := rep_tup w.same rv
    cases e
    exact .inl ⟨a, ys, rfl, .inr c, k _ (by rw [← rl.length]; rfl)⟩
  · rename_i b xs
    obtain ⟨v, rfl, rv⟩ := rb1 rb
    cases b with
    | true => obtain ⟨_, _, _, _, c, _⟩ := rv; exact c.elim
    | false =>
      obtain ⟨a, ys, rfl, c, rl⟩ := rv
      cases e
      exact .inl ⟨a, ys, rfl, .inl (Sam.seq w.same c), k _ (by rw [← rl.length]; rfl)⟩
  · split at e
    · rename_i z hz
      obtain ⟨v, rfl, rv⟩ := rb1 rb
      obtain rfl : v = .str z := rv
      cases e
      exact .inr ⟨z, rfl, cap_le hz, k _ rfl⟩
    · cases e
  · cases e
theorem call_lenA : CallR X (.builtin "len") (fun xs H Q => (∃ p ys, xs = [.ref p] ∧ (SqL X.K H p ys ∨ SqT X.K H p ys) ∧ Q (.int ys.length) H) ∨ (∃ z, xs = [.str z] ∧ z.length ≤ sizeLine ∧ Q (.int z.length) H)) := CallR.or call_len_seq call_len_str
def opAbs : List D → Option D
  | [.int i] => some (.int (if i < 0 then -i else i))
  | _ => none
theorem snd_abs : Snd X (fun xs H Q => ∃ i, xs = [.int i] ∧ Q (.int (if i < 0 then -i else i)) H) opAbs := by
  refine snd_pure fun Z H S ds vs d Q w rb e k => ?_
  unfold opAbs at e
  split at e
  · obtain ⟨v, rfl, rv⟩ := rb1 rb
    cases e
    obtain rfl : v = .int _ := rv
    exact ⟨_, rfl, k _ rfl⟩
  · cases e
def opMin2 : List D → Option D
  | [.int i, .int j] => some (.int (if j < i then j else i))
  | _ => none
theorem snd_min2 : Snd X (fun xs H Q => ∃ i j, xs = [.int i, .int j] ∧ Q (.int (if j < i then j else i)) H) opMin2 := by
  refine snd_pure fun Z H S ds vs d Q w rb e k => ?_
  unfold opMin2 at e
  split at e
  · obtain ⟨v, u, rfl, rv, ru⟩ := rb2 rb
    cases e
    obtain rfl : v = .int _ := rv
    obtain rfl : u = .int _ := ru
    exact ⟨_, _, rfl, k _ rfl⟩
  · cases e
def opInt1 : List D → Option D
  | [.int i] => some (.int i)
  | [.bl b] => some (.int (if b then 1 else 0))
  | _ => none
theorem snd_int1 : Snd X (fun xs H Q => (∃ i, xs = [.int i] ∧ Q (.int i) H) ∨ ∃ k, xs = [.bl k] ∧ Q (.int (if k then 1 else 0)) H) opInt1 := by
  refine snd_pure fun Z H S ds vs d Q w rb e k => ?_
  unfold opInt1 at e
  split at e
  · obtain ⟨v, rfl, rv⟩ := rb1 rb
    cases e
    obtain rfl : v = .int _ := rv
    exact .inl ⟨_, rfl, k _ rfl⟩
  · obtain ⟨v, rfl, rv⟩ := rb1 rb
    cases e
    obtain rfl : v = .bl _ := rv
    exact .inr ⟨_, rfl, k _ rfl⟩
  · cases e
def intsD : List D → Option (List Int)
  | [] => some []
  | .int i :: ds => (intsD ds).map (i :: ·)
  | _ => none
theorem intsD_map : ∀ ns : List Int, intsD (ns.map D.int) = some ns
  | [] => rfl
  | n :: ns => by rw [List.map_cons, intsD, intsD_map ns]; rfl
theorem intsD_inv : ∀ {ds : List D} {ns : List Int}, intsD ds = some ns → ds = ns.map D.int
  | [], ns, h => by cases h; rfl
  | .int i :: ds, ns, h => by
    rw [intsD] at h
    cases e : intsD ds with
    | none => rw [e] at h; cases h
    | some ms =>
      rw [e] at h
      cases h
      rw [intsD_inv e]
      rfl
  | .non :: _, _, h => by cases h
  | .bl _ :: _, _, h => by cases h
  | .str _ :: _, _, h => by cases h
  | .op _ :: _, _, h => by cases h
  | .node _ _ _ :: _, _, h => by cases h
theorem reps_intsV : ∀ {ns : List Int} {vs : List V} {S : Fp}, RepL K Z H (ns.map D.int) vs S → vs = ns.map V.int
  | [], [], _, _ => rfl
  | [], _ :: _, _, h => h.elim
  | _ :: _, [], _, h => h.elim
  | n :: ns, v :: vs, S, ⟨_, _, _, _, _, r, q⟩ => by
    obtain rfl : v = .int n := r
    rw [reps_intsV q]
    rfl
def opSum : List D → Option D
  | [.node _ .lst xs] => match intsD xs with
    | some ns => some (.int ns.sum)
    | none => none
  | _ => none
theorem snd_sum : Snd X (rSum X.K) opSum := by
  refine snd_pure fun Z H S ds vs d Q w rb e k => ?_
  unfold opSum at e
  split at e
  · split at e
    · rename_i ns hn
      obtain ⟨v, rfl, rv⟩ := rb1 rb
      obtain ⟨a, ys, rfl, c, rl⟩ := rep_lst w.same rv
      rw [intsD_inv hn] at rl
      have ey := reps_intsV rl
      subst ey
      cases e
      exact ⟨a, ns, rfl, SqL.of c, k _ rfl⟩
    · cases e
  · cases e
def opList : List D → Option D
  | [.node _ .lst xs] => if plainL xs then some (.lst true xs) else none
  | [.node _ .tup xs] => if plainL xs then some (.lst true xs) else none
  | _ => none
theorem snd_list : Snd X (fun xs H Q => ∃ p ys, xs = [.ref p] ∧ (SqL X.K H p ys ∨ SqT X.K H p ys) ∧ ∀ l, H l = none → Q (.ref l) (upd H l (.lst ys))) opList := by
  intro Z H S ds vs d Q w rb e k
  unfold opList at e
  split at e
  · split at e
    · rename_i hp
      obtain ⟨v, rfl, rv⟩ := rb1 rb
      obtain ⟨a, ys, rfl, c, rl⟩ := rep_lst w.same rv
      cases e
      refine ⟨a, ys, rfl, .inl (SqL.of c), fun p np => ?_⟩
      obtain ⟨f1, f2, f3, f4⟩ := fresh_lst w np (rl.plain hp)
      exact k _ _ _ _ f1 f2 f3 f4
    · cases e
  · split at e
    · rename_i hp
      obtain ⟨v, rfl, rv⟩ := rb1 rb
      obtain ⟨a, ys, rfl, c, rl⟩ := rep_tup w.same rv
      cases e
      refine ⟨a, ys, rfl, .inr c, fun p np => ?_⟩
      obtain ⟨f1, f2, f3, f4⟩ := fresh_lst w np (rl.plain hp)
      exact k _ _ _ _ f1 f2 f3 f4
    · cases e
  · cases e
def opTuple : List D → Option D
  | [.node _ .lst xs] => if plainL xs then some (.tup xs) else none
  | [.node false .tup xs] => if plainL xs then some (.tup xs) else none
  | _ => none
theorem snd_tuple : Snd X (fun xs H Q => ∃ p ys, xs = [.ref p] ∧ ((SqL X.K H p ys ∧ ∀ l, H l = none → Q (.ref l) (upd H l (.tup ys))) ∨ (SqT X.K H p ys ∧ Q (.ref p) H))) opTuple := by
  intro Z H S ds vs d Q w rb e k
  unfold opTuple at e
  split at e
  · split at e
    · rename_i hp
      obtain ⟨v, rfl, rv⟩ := rb1 rb
      obtain ⟨a, ys, rfl, c, rl⟩ := rep_lst w.same rv
      cases e
      refine ⟨a, ys, rfl, .inl ⟨SqL.of c, fun p np => ?_⟩⟩
      obtain ⟨f1, f2, f3⟩ := fresh_tup w np (rl.plain hp)
      exact k _ _ _ _ f1 f2 (fun _ _ x => x) f3
    · cases e
  · split at e
    · rename_i xs hp
      obtain ⟨v, rfl, rv⟩ := rb1 rb
      cases e
      have rp : Rep X.K Z H (.tup xs) v Fp0 := Rep.plain rv (by simp [D.plain, hp])
      obtain ⟨a, ys, rfl, c, rl⟩ := rep_tup w.same rv
      exact ⟨a, ys, rfl, .inr ⟨c, k _ Z H Fp0 w.nil (fun _ _ e => e) (fun _ _ x => x) rp⟩⟩
    · cases e
  · cases e
end
end Pm
namespace Pm
open PySem PySem.Spec PyProof.Rows L2
section
variable {K : PySem.W.Frag} {mg : Str → Option Value} {W : WX} {Z H : Hp} {S : Fp} {σ : Sl} {X : Cx} {A : Nat → Bool}
def opDivmod : List D → Option D
  | [.int i, .int j] => if 0 < j then (if divOk j = true then some (.tup [.int (i / j), .int (i % j)]) else none) else none
  | _ => none
theorem call_divmodA : CallR X (.builtin "divmod") (fun xs H Q => ∃ i j : Int, xs = [.int i, .int j] ∧ (0 < j ∧ j.natAbs.log2 < 9000) ∧ ∀ p, H p = none → Q (.ref p) (upd H p (.tup [.int (i / j), .int (i % j)]))) := by
  intro pins s σ H xs us Q I r h
  obtain ⟨i, j, rfl, hj, q⟩ := h
  obtain ⟨u1, u2, rfl, ⟨t1, rfl⟩, ⟨t2, rfl⟩⟩ := vals2 r
  refine divmod_int (by omega) ?_ (.inl (PyProof.noPylong_of_log2 hj.2))
  have e1 : i.fdiv j = i / j := Int.fdiv_eq_ediv_of_nonneg i (by omega)
  have e2 : i.fmod j = i % j := Int.fmod_eq_emod_of_nonneg i (by omega)
  rw [e1, e2]
  have new : H s.heap.objs.size = none := I.hok.fresh (Nat.le_refl _)
  have two : [V.int (i / j), V.int (i % j)].length ≤ sizeLine := by
    rw [sizeLine_eq]
    show 2 ≤ 16777216
    decide
  exact ⟨.ref s.heap.objs.size, _, I.laid (o := .tup [.int (i / j), .int (i % j)]) (fun _ _ e => Heap.get?_push_of_some _ e) (Nat.le_refl _) ⟨two, [.int (i / j) s.toks, .int (i % j) (s.toks + 1)], .cons ⟨_, rfl⟩ (.cons ⟨_, rfl⟩ .nil), _, Heap.get?_push_size s.heap rfl, rfl, 0, rfl⟩, rfl, q _ new⟩
theorem snd_divmod : Snd X (fun xs H Q => ∃ i j : Int, xs = [.int i, .int j] ∧ (0 < j ∧ j.natAbs.log2 < 9000) ∧ ∀ p, H p = none → Q (.ref p) (upd H p (.tup [.int (i / j), .int (i % j)]))) opDivmod := by
  intro Z H S ds vs d Q w rb e k
  unfold opDivmod at e
  split at e
  · split at e
    · rename_i hj
      split at e
      · rename_i hd
        cases e
        obtain ⟨v, u, rfl, rv, ru⟩ := rb2 rb
        obtain rfl : v = .int _ := rv
        obtain rfl : u = .int _ := ru
        refine ⟨_, _, rfl, ⟨hj, of_decide_eq_true hd⟩, fun p np => ?_⟩
        obtain ⟨f1, f2, f3⟩ := fresh_tup (K := X.K) (ds := [.int _, .int _]) (vs := [.int _, .int _]) w np ⟨Fp0, Fp0, fun _ x => x, fun _ x => x, fun _ x _ => x, rfl, Fp0, Fp0, fun _ x => x, fun _ x => x, fun _ x _ => x, rfl, trivial⟩
        exact k _ _ _ _ f1 f2 (fun _ _ x => x) f3
      · cases e
    · cases e
  · cases e
def tyN : D → Option String
  | .non => some "NoneType"
  | .bl _ => some "bool"
  | .int _ => some "int"
  | .str _ => some "str"
  | .node _ .lst _ => some "list"
  | .node _ .tup _ => some "tuple"
  | .node _ (.dct _) _ => some "dict"
  | _ => none
def opIsi : List D → Option D
  | [d, .op (.ty n)] => match tyN d with
    | some t => match kitB t n with
      | some b => some (.bl b)
      | none => none
    | none => none
  | _ => none
theorem tyX_of {d : D} {v : V} {t : String} (w : Sam Z H) (r : Rep K Z H d v S) (h : tyN d = some t) : TyX K H v (.type t) := by
  cases d with
  | non => obtain rfl : v = .non := r; cases h; exact .base .non
  | bl b => obtain rfl : v = .bl b := r; cases h; exact .base (.bl b)
  | int b => obtain rfl : v = .int b := r; cases h; exact .base (.int b)
  | str b => obtain rfl : v = .str b := r; cases h; exact .base (.str b)
  | op u => cases h
  | node b k xs =>
    cases k with
    | lst =>
      obtain ⟨a, ys, rfl, c, rl⟩ := rep_lst w r
      cases h
      exact .base (.lst c)
    | tup =>
      obtain ⟨a, ys, rfl, c, rl⟩ := rep_tup w r
      cases h
      rcases c with (c | ⟨o, c⟩) | ⟨o, its, n, c, oc, _⟩
      · exact .base (.tup c)
      · exact .fTuple c
      · exact .kTuple c oc
    | scr => cases h
    | obj C fs => cases h
    | ins C fs => cases h
    | dct ks =>
      cases h
      cases b with
      | false =>
        obtain ⟨a, ys, rfl, c, rl⟩ := r
        exact .base (.dK (w.get _ _ c.2 nt_dK))
      | true =>
        obtain ⟨a, ys, S', rfl, c, _⟩ := r
        exact .base (.dK c.2)
theorem snd_isi : Snd X (rIsi X.K) opIsi := by
  refine snd_pure fun Z H S ds vs d Q w rb e k => ?_
  unfold opIsi at e
  split at e
  · split at e
    · rename_i t ht
      split at e
      · rename_i b hb
        obtain ⟨v, u, rfl, rv, ru⟩ := rb2 rb
        obtain rfl : u = .ty _ := ru
        cases e
        exact ⟨v, _, _, _, b, rfl, .ty _, tyX_of w.same rv ht, kit_ty hb, k _ rfl⟩
      · cases e
    · cases e
  · cases e
def rangeD (lo : Int) (n : Nat) : List D := (List.range n).map fun (i : Nat) => .int (lo + (i : Int))
/-- (not to be unfolded with numbers that are not known: the kernel would count) -/
noncomputable def sm62 (i : Int) : Bool := @decide (-(2 ^ 62) ≤ i ∧ i < 2 ^ 62) (Classical.propDecidable _)
theorem sm62_ok {i : Int} (h : sm62 i = true) : -(2 ^ 62) ≤ i ∧ i < 2 ^ 62 := @of_decide_eq_true _ (Classical.propDecidable _) h
theorem sm62_of {i : Int} (h : -(2 ^ 62) ≤ i ∧ i < 2 ^ 62) : sm62 i = true := @decide_eq_true _ (Classical.propDecidable _) h
noncomputable def srcR1 (fs : M (List EV)) : M (List D) := bnd fs fun es => fun ρ => match peeks ρ es with
  | some [.int j] => if sm62 j then .ok (rangeD 0 j.toNat) ρ else .stuck
  | _ => .stuck
theorem walk_rng (lo : Int) (n : Nat) : WalkR K (Itr lo n) Z (rangeD lo n) := by
  intro Z' H' _ _
  refine ⟨fun i hi => by unfold rangeD at hi; rw [List.length_map, List.length_range] at hi; exact hi, fun i d hd => ?_⟩
  unfold rangeD at hd
  rw [List.getElem?_map] at hd
  cases e : (List.range n)[i]? with
  | none => rw [e] at hd; cases hd
  | some j =>
    rw [e] at hd
    obtain ⟨hl, ej⟩ := List.getElem?_eq_some_iff.mp e
    rw [List.getElem_range] at ej
    subst ej
    rw [List.length_range] at hl
    refine ⟨hl, fun x H'' S' w h => ?_⟩
    obtain ⟨rfl, rfl⟩ := h
    cases hd
    exact ⟨Z', Step.refl w, fun _ _ e => e, rfl⟩
theorem pi_R1 {tg a : Expr} {fs : M (List EV)} {p pos : Pos} (hg : Gl X "range") (hm : X.mg "range" = none) (ha : PA X [a] (tA X.K X.mg W fs)) (hs : starEach [a] X.env = [(false, eval a X.env)]) : PI X tg (.Call (.Name "range" p) [a] [] pos) (tI X.K X.mg W (srcR1 fs)) :=
  PI.of (pi_range1 hg hm ha hs) fun σ H R q => by
    obtain ⟨Z, ρ, S, w, er, o⟩ := q
    refine ⟨Z, ρ, S, w, er, ?_⟩
    simp only [srcR1, bnd] at o
    cases e1 : fs ρ with
    | stuck => rw [e1] at o; exact o
    | exc x ρ1 => rw [e1] at o; exact o
    | ok es ρ1 =>
      simp only [e1] at o
      intro vs Z1 H1 S1 Sa st dj er1 r1
      split at o
      · rename_i j hp
        obtain ⟨v, rfl, rv⟩ := rb1 (peeks_rep er1 r1 hp)
        obtain rfl : v = .int j := rv
        split at o
        · rename_i hs
          have hs' : -(2 ^ 62) ≤ j ∧ j < 2 ^ 62 := sm62_ok hs
          exact ⟨j, rfl, hs'.1, hs'.2, o _ Z1 H1 S1 (st.less fun a x => .inl x) er1 (walk_rng 0 _)⟩
        · exact o.elim
      · exact o.elim
def signsD (x : Str) : List D := x.cps.toList.map fun c => .str ⟨#[c]⟩
theorem walk_str (x : Str) : WalkR K (Its x) Z (signsD x) := by
  intro Z' H' _ _
  refine ⟨fun i hi => by unfold signsD at hi; rw [List.length_map, Array.length_toList] at hi; exact hi, fun i d hd => ?_⟩
  unfold signsD at hd
  rw [List.getElem?_map] at hd
  cases e : x.cps.toList[i]? with
  | none => rw [e] at hd; cases hd
  | some c =>
    rw [e] at hd
    have hl : i < x.cps.size := by
      have := (List.getElem?_eq_some_iff.mp e).1
      simpa using this
    refine ⟨hl, fun y H'' S' w h => ?_⟩
    obtain ⟨rfl, c', hc', rfl⟩ := h
    have ec : c' = c := by
      have e' : x.cps[i]? = some c := by simpa using e
      rw [e'] at hc'
      exact (Option.some.inj hc').symm
    subst ec
    cases hd
    exact ⟨Z', Step.refl w, fun _ _ e => e, rfl⟩
def srcA (f : M EV) : M (List D) := bnd f fun e => bnd (use1 e) fun d => match d with
  | .node _ .lst ds => ret (frzL ds)
  | .node _ .tup ds => ret (frzL ds)
  | .str x => ret (signsD x)
  | _ => fun _ => .stuck
theorem PI.or {tg iter : Expr} {t1 t2 : TI} (h1 : PI X tg iter t1) (h2 : PI X tg iter t2) : PI X tg iter (fun σ H R => t1 σ H R ∨ t2 σ H R) := ⟨fun p s σ H R I q => q.elim (h1.run p s σ H R I) (h2.run p s σ H R I)⟩
theorem pi_A {tg l : Expr} {f : M EV} (h : PE X l (tE X.K X.mg W f)) : PI X tg l (tI X.K X.mg W (srcA f)) := by
  refine PI.of (PI.or (pi_seqL h) (PI.or (pi_seqT h) (pi_str h))) fun σ H R q => ?_
  obtain ⟨Z, ρ, S, w, er, o⟩ := q
  cases e1 : f ρ with
  | stuck => simp only [srcA, bnd, e1] at o; exact o.elim
  | exc x ρ1 =>
    refine .inl ⟨Z, ρ, S, w, er, ?_⟩
    simp only [srcA, bnd, e1] at o
    simp only [srcSeq, bnd, e1]
    exact o
  | ok ev ρ1 =>
    cases e2 : use1 ev ρ1 with
    | stuck => simp only [srcA, bnd, e1, e2] at o; exact o.elim
    | exc x ρ2 => exact absurd e2 use1_noexc
    | ok d ρ2 =>
      simp only [srcA, bnd, e1, e2] at o
      split at o
      · refine .inl ⟨Z, ρ, S, w, er, ?_⟩
        simp only [srcSeq, bnd, e1, e2, if_true]
        exact o
      · refine .inr (.inl ⟨Z, ρ, S, w, er, ?_⟩)
        simp only [srcSeq, bnd, e1, e2, if_true]
        exact o
      · rename_i x
        refine .inr (.inr ⟨Z, ρ, S, w, er, ?_⟩)
        simp only [e1]
        intro v Z1 H1 S1 Sa st dj er1 r1
        have w1 : Wd Z1 H1 (fun a => (S1 a ∨ Sa a) ∨ Fp0 a) := st.wd.less fun a x => x.elim id False.elim
        obtain ⟨Z2, S2, st2, m2, er2, r2⟩ := use1_ok w1 dj (fun _ _ x => x) er1 r1 e2
        obtain rfl : v = .str x := r2
        have st2' : Step Z1 H1 (fun a => S1 a ∨ Sa a) Z2 H1 S2 := ⟨st2.wd.less fun a x => .inl (.inl x), st2.zz, fun a o n e _ => e, fun a x => .inl (.inl (m2 a x)), fun a o e => (st2.znew a o e).elim .inl fun y => .inr (y.elim (fun z => z.elim .inl False.elim) .inr)⟩
        exact ⟨x, rfl, o (Its x) Z2 H1 S2 (st.trans st2') er2 (walk_str x)⟩
      · exact o.elim
end
end Pm
namespace Pm
open PySem PySem.Spec PyProof.Rows L2
section
variable {K : PySem.W.Frag} {mg : Str → Option Value} {W : WX} {Z H : Hp} {S : Fp} {σ : Sl} {X : Cx} {A : Nat → Bool}
abbrev wF : WX := fun _ _ _ _ => False
def wipeE (ρ : Env) : List Nat → Env
  | [] => ρ
  | v :: vs => (wipeE ρ vs).set v none
/-- plain things come back to the names of the block -/
def backE (ρ ρ' : Env) : List Nat → Env
  | [] => ρ'
  | v :: vs => match ρ.getD v none with
    | some d => if d.plain then (backE ρ ρ' vs).set v (some d) else backE ρ ρ' vs
    | none => backE ρ ρ' vs
def compIt (own : List Nat) (g : Tg) (c : M Bool) (e : M EV) : List D → Env → List D → Res (List D)
  | [], ρ, acc => .ok acc ρ
  | d :: ds, ρ, acc => match g d ρ with
    | .ok _ ρ1 => match c ρ1 with
      | .ok true ρ2 => match e ρ2 with
        | .ok ev ρ3 => match use1 ev ρ3 with
          | .ok d' ρ4 => if acc.length < cap then compIt own g c e ds (wipeE ρ4 own) (acc ++ [d']) else .stuck
          | _ => .stuck
        | _ => .stuck
      | .ok false ρ2 => compIt own g c e ds (wipeE ρ2 own) acc
      | _ => .stuck
    | _ => .stuck
def comp (own : List Nat) (s : M (List D)) (g : Tg) (c : M Bool) (e : M EV) : M EV := bnd s fun ds => fun ρ => match compIt own g c e ds (wipeE ρ own) [] with
  | .ok acc ρ' => .ok (.val (.lst true acc)) (backE ρ ρ' own)
  | _ => .stuck
theorem EnvR.wipe {ρ : Env} : ∀ {own : List Nat}, EnvR K Z H ρ σ S → EnvR K Z H (wipeE ρ own) (L2.wipe σ own) S
  | [], h => h
  | v :: vs, h => by
    have q := (EnvR.wipe (own := vs) h).drop v
    have hn : ∀ {ρ : Env} {σ : Sl}, EnvR K Z H (ρ.set v none) σ S → EnvR K Z H (ρ.set v none) (σ.set v none) S := fun {ρ σ} h => by
      by_cases hv : v < ρ.length
      · exact h.any none (by rw [List.getElem?_set_self hv])
      · have hl := h.length
        rw [List.length_set] at hl
        rw [List.set_eq_of_length_le (l := σ) (by omega)]
        exact h
    exact hn q
theorem EnvR.unwipe {ρ : Env} : ∀ {own : List Nat}, EnvR K Z H (wipeE ρ own) (L2.wipe σ own) S → EnvR K Z H (wipeE ρ own) σ S
  | [], h => h
  | v :: vs, h => by
    have key : ∀ (own : List Nat) (ρ : Env) (σ : Sl), (∀ v ∈ own, ρ[v]? = some none ∨ ρ.length ≤ v) → EnvR K Z H ρ (L2.wipe σ own) S → EnvR K Z H ρ σ S := by
      intro own
      induction own with
      | nil => exact fun _ _ _ h => h
      | cons v vs ih =>
        intro ρ σ hn h
        have h' : EnvR K Z H ρ ((L2.wipe σ vs).set v none) S := h
        refine ih ρ σ (fun u hu => hn u (List.mem_cons_of_mem _ hu)) ?_
        rcases hn v List.mem_cons_self with e | e
        · have lv : v < (L2.wipe σ vs).length := by
            have := h'.length
            rw [List.length_set] at this
            have := (List.getElem?_eq_some_iff.mp e).1
            omega
          have q := h'.any ((L2.wipe σ vs)[v]) e
          rw [List.set_set, List.set_getElem_self] at q
          exact q
        · have := h'.length
          rw [List.length_set] at this
          rw [List.set_eq_of_length_le (by omega)] at h'
          exact h'
    refine key (v :: vs) (wipeE ρ (v :: vs)) σ (fun u hu => ?_) h
    have all : ∀ (own : List Nat) (ρ : Env), ∀ u ∈ own, (wipeE ρ own)[u]? = some none ∨ (wipeE ρ own).length ≤ u := by
      intro own
      induction own with
      | nil => exact fun _ u hu => by cases hu
      | cons v vs ih =>
        intro ρ u hu
        unfold wipeE
        by_cases e : u = v
        · subst e
          by_cases hl : u < (wipeE ρ vs).length
          · exact .inl (by rw [List.getElem?_set_self hl])
          · exact .inr (by rw [List.length_set]; omega)
        · rw [List.getElem?_set_ne (Ne.symm e), List.length_set]
          exact ih ρ u ((List.mem_cons.mp hu).resolve_left e)
    exact all _ _ u hu
theorem wipeE_back {ρ0 : Env} {Z0 H0 : Hp} {S0 : Fp} (e0 : EnvR K Z0 H0 ρ0 σ S0) (zz : Same Z0 Z) : ∀ {own : List Nat} {ρ : Env}, EnvR K Z H ρ σ S → EnvR K Z H (backE ρ0 ρ own) σ S
  | [], _, h => h
  | v :: vs, ρ, h => by
    unfold backE
    have ih := wipeE_back e0 zz (own := vs) h
    split
    · rename_i d hd
      split
      · rename_i hp
        obtain ⟨u, S1, S2, hu, s1, s2, dj, r, _⟩ := e0.take (getD_some hd)
        have rp : Rep K Z H d u Fp0 := (Rep.plain (H' := H0) r hp).move zz (fun _ _ x => x.elim) fun _ x => x
        obtain ⟨hl, he⟩ := List.getElem?_eq_some_iff.mp hu
        have q := EnvR.put (S := S) (ih.drop v) (by rw [ih.length]; exact hl) rp (fun _ x => x.elim) (fun _ x => x) fun _ x _ => x
        rw [← he, List.set_getElem_self] at q
        exact q
      · exact ih
    · exact ih
theorem wipe_keep {own : List Nat} {σ' : Sl} (kp : Keep (fun j => decide (j ∈ own)) σ σ') : L2.wipe σ' own = L2.wipe σ own := by
  have hl := kp.2
  refine List.ext_getElem? fun i => ?_
  have key : ∀ (own2 : List Nat), (∀ σ : Sl, (L2.wipe σ own2)[i]? = if i ∈ own2 then (if i < σ.length then some none else none) else σ[i]?) := by
    intro own2
    induction own2 with
    | nil => intro σ; simp [L2.wipe]
    | cons v vs ih =>
      intro σ
      unfold L2.wipe
      by_cases e : i = v
      · subst e
        rw [if_pos List.mem_cons_self]
        by_cases hi : i < σ.length
        · rw [if_pos hi, List.getElem?_set_self (by rw [wipe_length]; exact hi)]
        · rw [if_neg hi, List.getElem?_eq_none (by rw [List.length_set, wipe_length]; omega)]
      · rw [List.getElem?_set_ne (Ne.symm e), ih σ]
        by_cases m : i ∈ vs
        · rw [if_pos m, if_pos (List.mem_cons_of_mem _ m)]
        · rw [if_neg m, if_neg fun q => m ((List.mem_cons.mp q).resolve_left e)]
  rw [key own σ', key own σ, hl]
  by_cases m : i ∈ own
  · rw [if_pos m, if_pos m]
  · rw [if_neg m, if_neg m]
    exact kp.1 i (decide_eq_false m)
theorem wipe_wipe {own : List Nat} : L2.wipe (L2.wipe σ own) own = L2.wipe σ own := by
  refine wipe_keep (σ := σ) ⟨fun j hj => ?_, wipe_length _ _⟩
  have hj' : j ∉ own := of_decide_eq_false hj
  have : ∀ (vs : List Nat), j ∉ vs → (L2.wipe σ vs)[j]? = σ[j]? := by
    intro vs
    induction vs with
    | nil => exact fun _ => rfl
    | cons v vs ih =>
      intro h
      unfold L2.wipe
      rw [List.getElem?_set_ne (fun e => h (by rw [e]; exact List.mem_cons_self))]
      exact ih fun q => h (List.mem_cons_of_mem _ q)
  exact this own hj'
theorem tE_comp {own : List Nat} {s : M (List D)} {g : Tg} {c : M Bool} {e : M EV} {Q : VK} (h : tE K mg W (comp own s g c e) σ H Q) :
    tLc (tI K mg W s) (tG K (fun j => decide (j ∈ own)) g) (tT K mg wF c) (tE K mg wF e) own σ H Q := by
  obtain ⟨Z, ρ, S, w, er, o⟩ := h
  refine ⟨Z, ρ, S, w, er, ?_⟩
  simp only [comp, bnd] at o
  cases e1 : s ρ with
  | stuck => rw [e1] at o; exact o
  | exc x ρ1 => rw [e1] at o; exact o
  | ok ds ρ1 =>
    simp only [e1] at o
    intro J Z1 H1 S1 st er1 wk L hL
    cases e2 : compIt own g c e ds (wipeE ρ1 own) [] with
    | stuck => simp only [e2] at o; exact o.elim
    | exc x ρ2 => simp only [e2] at o; exact o.elim
    | ok accF ρF =>
      simp only [e2] at o
      -- the turns: what was made so far stands at L
      obtain ⟨f1, f2, f3, f4⟩ := fresh_lst (K := K) (ds := []) (vs := []) st.wd hL trivial
      refine ⟨fun i m H' => ∃ Z' ρ' S' Sa acc ys, Step Z1 H1 S1 Z' H' (fun a => S' a ∨ (a = L ∨ Sa a)) ∧ (∀ a, S' a → (a = L ∨ Sa a) → False) ∧ EnvR K Z' H' (wipeE ρ' own) (L2.wipe σ own) S' ∧ H' L = some (.lst ys) ∧ ¬ Sa L ∧ RepL K Z' H' acc ys Sa ∧ i + m = ds.length ∧
        compIt own g c e (ds.drop i) (wipeE ρ' own) acc = .ok accF ρF, ⟨ds.length, Z1, ρ1, S1, Fp0, [], [], f1.less fun a x => x.elim .inl fun y => .inr (y.elim id False.elim), fun a x y => y.elim (f3 a x) False.elim, (er1.move (Same.refl _) (fun a o _ e => f2 a o e) fun _ x => x).wipe, upd_same, fun x => x, trivial, by omega, e2⟩, ?_⟩
      rintro i m H2 ⟨Z2, ρ2, S2, Sa, acc, ys, st2, dj2, er2, hys, nL, ra, him, ci⟩
      obtain ⟨w3, w4⟩ := wk Z2 H2 st2.zz st2.wd.same
      by_cases hi : i < ds.length
      · obtain ⟨go, yl⟩ := w4 i ds[i] (List.getElem?_eq_getElem hi)
        have ed : ds.drop i = ds[i] :: ds.drop (i + 1) := List.drop_eq_getElem_cons hi
        rw [ed] at ci
        refine .inr ⟨go, fun H' => ∃ Z' ρ' S' Sa acc ys, Step Z1 H1 S1 Z' H' (fun a => S' a ∨ (a = L ∨ Sa a)) ∧ (∀ a, S' a → (a = L ∨ Sa a) → False) ∧ EnvR K Z' H' (wipeE ρ' own) (L2.wipe σ own) S' ∧ H' L = some (.lst ys) ∧ ¬ Sa L ∧ RepL K Z' H' acc ys Sa ∧ (i + 1) + (m - 1) = ds.length ∧
          compIt own g c e (ds.drop (i + 1)) (wipeE ρ' own) acc = .ok accF ρF, fun H' q => ⟨m - 1, by omega, q⟩, fun x H3 y => ?_⟩
        obtain ⟨Z3, st3, k3, r3⟩ := yl x H3 (fun a => S2 a ∨ (a = L ∨ Sa a)) st2.wd y
        have er3 : EnvR K Z3 H3 (wipeE ρ2 own) (L2.wipe σ own) S2 := er2.move st3.zz (fun a o _ e => k3 a o e) fun _ x => x
        have w3' : Wd Z3 H3 (fun a => S2 a ∨ Fp0 a) := st3.wd.less fun a x => x.elim .inl False.elim
        refine ⟨Z3, wipeE ρ2 own, S2, Fp0, ds[i], w3', fun _ _ x => x, er3, r3, ?_⟩
        simp only [compIt] at ci
        cases e3 : g ds[i] (wipeE ρ2 own) with
        | stuck => rw [e3] at ci; cases ci
        | exc x ρ3 => rw [e3] at ci; cases ci
        | ok u ρ3 =>
          simp only [e3] at ci
          intro σ4 Z4 H4 S4 kp4 st4 er4
          have hw4 : L2.wipe σ4 own = L2.wipe σ own := (wipe_keep kp4).trans wipe_wipe
          refine ⟨hw4, ?_⟩
          obtain ⟨F, hF⟩ : ∃ F : Fp, F = fun a => a = L ∨ Sa a := ⟨_, rfl⟩
          have dF : ∀ a, S2 a → F a → False := fun a x y => dj2 a x (by rw [hF] at y; exact y)
          have w3F : Wd Z3 H3 (fun a => S2 a ∨ F a) := by rw [hF]; exact st3.wd
          have st13 : Step Z1 H1 S1 Z3 H3 (fun a => S2 a ∨ F a) := by rw [hF]; exact st2.trans st3
          have st4' : Step Z3 H3 S2 Z4 H4 S4 := (Step.less (Step.refl (w3F.less fun a x => .inl x)) (S2 := fun a => S2 a ∨ Fp0 a) (fun a x => x.elim id False.elim)).trans st4
          have st4F := st4'.frame w3F dF
          have dF4 := st4'.apart (fun a x => w3F.live a (.inr x)) dF
          have ra3 : RepL K Z3 H3 acc ys Sa := ra.move st3.zz (fun a o _ e => k3 a o e) fun _ x => x
          have subSa : ∀ a, Sa a → F a := fun a x => by rw [hF]; exact .inr x
          have inL : F L := by rw [hF]; exact .inl rfl
          have ra4 : RepL K Z4 H4 acc ys Sa := st4'.stayL (fun a x y => dF a x (subSa a y)) ra3
          have hy4 : H4 L = some (.lst ys) := st4'.fr L _ (fun x => dF L x inL) (k3 _ _ hys) nt_lst
          refine ⟨Z4, ρ3, S4, st4.wd, er4, ?_⟩
          cases e4 : c ρ3 with
          | stuck => rw [e4] at ci; cases ci
          | exc x ρ4 => rw [e4] at ci; cases ci
          | ok t ρ4 =>
            intro Z5 H5 S5 st5 er5
            have st5F := st5.frame st4F.wd dF4
            have dF5 := st5.apart (fun a x => st4F.wd.live a (.inr x)) dF4
            have ra5 : RepL K Z5 H5 acc ys Sa := st5.stayL (fun a x y => dF4 a x (subSa a y)) ra4
            have hy5 : H5 L = some (.lst ys) := st5.fr L _ (fun x => dF4 L x inL) hy4 nt_lst
            have st15 : Step Z1 H1 S1 Z5 H5 (fun a => S5 a ∨ F a) := (st13.trans st4F).trans st5F
            cases t with
            | false =>
              rw [if_neg Bool.false_ne_true]
              simp only [e4] at ci
              refine ⟨Z5, ρ4, S5, Sa, acc, ys, by rw [hF] at st15; exact st15, fun a x y => dF5 a x (by rw [hF]; exact y), ?_, hy5, nL, ra5, by omega, ci⟩
              have q := er5.wipe (own := own)
              rw [hw4] at q
              exact q
            | true =>
              rw [if_pos rfl]
              simp only [e4] at ci
              refine ⟨Z5, ρ4, S5, st5.wd, er5, ?_⟩
              cases e5 : e ρ4 with
              | stuck => rw [e5] at ci; cases ci
              | exc x ρ5 => rw [e5] at ci; cases ci
              | ok ev ρ5 =>
                simp only [e5] at ci
                intro v Z6 H6 S6 Sd st6 dj6 er6 r6
                have st6F := st6.frame st5F.wd dF5
                have dF6 := st6.apart (fun a x => st5F.wd.live a (.inr x)) dF5
                have ra6 : RepL K Z6 H6 acc ys Sa := st6.stayL (fun a x y => dF5 a x (subSa a y)) ra5
                have hy6 : H6 L = some (.lst ys) := st6.fr L _ (fun x => dF5 L x inL) hy5 nt_lst
                cases e6 : use1 ev ρ5 with
                | stuck => rw [e6] at ci; cases ci
                | exc x ρ6 => rw [e6] at ci; cases ci
                | ok d' ρ6 =>
                  simp only [e6] at ci
                  by_cases hz : acc.length < cap
                  · rw [if_pos hz] at ci
                    have w6 : Wd Z6 H6 (fun a => (S6 a ∨ Sd a) ∨ F a) := st6F.wd
                    obtain ⟨Z7, S7, st7, m7, er7, r7⟩ := use1_ok w6 dj6 dF6 er6 r6 e6
                    have ra7 : RepL K Z7 H6 acc ys Sa := ra6.move st7.zz (fun _ _ _ x => x) fun _ x => x
                    refine ⟨ys, hy6, by rw [← ra.length]; exact Nat.lt_trans hz (by rw [sizeLine_eq]; decide), ?_⟩
                    have st8 : Step Z7 H6 (fun a => (S7 a ∨ Sd a) ∨ F a) Z7 (upd H6 L (.lst (ys ++ [v]))) (fun a => (S7 a ∨ Sd a) ∨ F a) := Step.write st7.wd (.inr inL)
                    have neL : ∀ {T : Fp}, (∀ a, T a → a = L → False) → ∀ a o, T a → H6 a = some o → upd H6 L (.lst (ys ++ [v])) a = some o := fun {T} n a o t e => by rw [upd_ne fun q => n a t q]; exact e
                    refine ⟨Z7, ρ6, S7, fun a => Sa a ∨ Sd a, acc ++ [d'], ys ++ [v], ?_, ?_, ?_, upd_same, ?_, ?_, by omega, ci⟩
                    · refine ((((st15.trans st6F).trans st7).trans st8)).less fun a x => ?_
                      rcases x with x | x | x | x
                      · exact .inl (.inl x)
                      · exact .inr (by rw [hF]; exact .inl x)
                      · exact .inr (subSa a x)
                      · exact .inl (.inr x)
                    · intro a x y
                      rcases y with y | y | y
                      · exact dF6 a (.inl (m7 a x)) (by rw [hF]; exact .inl y)
                      · exact dF6 a (.inl (m7 a x)) (subSa a y)
                      · exact dj6 a (m7 a x) y
                    · have q := er7.wipe (own := own)
                      rw [hw4] at q
                      exact q.move (Same.refl _) (neL fun a t q => dF6 a (.inl (m7 a t)) (by rw [q]; exact inL)) fun _ x => x
                    · rintro (x | x)
                      · exact nL x
                      · exact dF6 L (.inr x) inL
                    · exact RepL.append (ra7.move (Same.refl _) (neL fun a t q => nL (by rw [← q]; exact t)) fun _ x => x) ⟨Sd, Fp0, fun _ x => x, fun _ x => x.elim, fun _ _ x => x, r7.move (Same.refl _) (neL fun a t q => dF6 a (.inr t) (by rw [q]; exact inL)) fun _ x => x, trivial⟩ (fun a x => .inl x) (fun a x => .inr x) fun a x y => dF6 a (.inr y) (subSa a x)
                  · rw [if_neg hz] at ci
                    cases ci
      · refine .inl ⟨w3 i (by omega), ?_⟩
        rw [List.drop_eq_nil_of_le (by omega)] at ci
        simp only [compIt, Res.ok.injEq] at ci
        obtain ⟨rfl, rfl⟩ := ci
        have er2' := wipeE_back er1 st2.zz (own := own) er2.unwipe
        exact o (.ref L) Z2 H2 S2 (fun a => a = L ∨ Sa a) (st.trans st2) dj2 er2' ⟨L, ys, Sa, rfl, hys, .inl rfl, nL, fun a x => .inr x, ra⟩
end
end Pm
namespace Pm
open PySem PySem.Spec PyProof.Rows L2
section
variable {K : PySem.W.Frag} {mg : Str → Option Value} {W : WX} {Z H : Hp} {S : Fp} {σ : Sl} {X : Cx} {A : Nat → Bool}
def yesT : M Bool := ret true
theorem tT_yes {Q : Bool → Hp → Prop} (h : tT K mg W yesT σ H Q) : tYes σ H Q := by
  obtain ⟨Z, ρ, S, w, er, o⟩ := h
  exact o Z H S (Step.refl w) er
theorem PTs.of {es : List Expr} {t t' : TT} (h : PTs X es t) (i : ∀ σ H Q, t' σ H Q → t σ H Q) : PTs X es t' := ⟨fun p s σ H Q I q => h.run p s σ H Q I (i σ H Q q)⟩
theorem pts_N : PTs X [] (tT X.K X.mg W yesT) := PTs.of pts_nil fun _ _ _ q => tT_yes q
abbrev ownA (own : List (Str × Nat)) : Nat → Bool := fun j => decide (j ∈ own.map (·.2))
theorem pe_C {elt tg iter : Expr} {ifs : List Expr} {scope : Scope} {own : List (Str × Nat)} {pos : Pos} {s : M (List D)} {g : Tg} {c : M Bool} {e : M EV} (hc : X.calm = true) (hN : X.N.Nodup) (hi : PI X tg iter (tI X.K X.mg W s)) (ok : BlkOk X.N X.env.scope scope own)
    (hg : ∀ (s : Shared) (H : Hp) (C : Addr) (cl : List (Str × Addr)) (fp : List Addr), PG (X.blk s H scope (compEnvC scope cl C X.env) fp) tg (tG X.K (ownA own) g)) (ht : ∀ (s : Shared) (H : Hp) (C : Addr) (cl : List (Str × Addr)) (fp : List Addr), PTs (X.blk s H scope (compEnvC scope cl C X.env) fp) ifs (tT X.K X.mg wF c))
    (he : ∀ (s : Shared) (H : Hp) (C : Addr) (cl : List (Str × Addr)) (fp : List Addr), PE (X.blk s H scope (compEnvC scope cl C X.env) fp) elt (tE X.K X.mg wF e)) (hs : ∀ x, foldedSetIterable iter X.env x = pure x) :
    PE X (.ListComp elt [⟨tg, iter, ifs, 0⟩] scope pos) (tE X.K X.mg W (comp (own.map (·.2)) s g c e)) := PE.of (pe_lc hc hN hi ok hg ht he hs) fun _ _ _ q => tE_comp q
theorem ps_C {i : Nat} {y : Str} {py : Pos} {elt tg iter : Expr} {ifs : List Expr} {scope : Scope} {own : List (Str × Nat)} {pos spos : Pos} {s : M (List D)} {g : Tg} {c : M Bool} {e : M EV} (hc : X.calm = true) (hN : X.N.Nodup) (hy : X.N[i]? = some y) (hyl : X.env.scope.names.lookup y = some .local) (hA : A i = true)
    (hsw : swapsWith (.ListComp elt [⟨tg, iter, ifs, 0⟩] scope pos) (some (.Name y py)) spos.line X.env = pure true) (hi : PI X tg iter (tI X.K X.mg W s)) (ok : BlkOk X.N X.env.scope scope own)
    (hg : ∀ (s : Shared) (H : Hp) (C : Addr) (cl : List (Str × Addr)) (fp : List Addr), PG (X.blk s H scope (compEnvC scope cl C X.env) fp) tg (tG X.K (ownA own) g)) (ht : ∀ (s : Shared) (H : Hp) (C : Addr) (cl : List (Str × Addr)) (fp : List Addr), PTs (X.blk s H scope (compEnvC scope cl C X.env) fp) ifs (tT X.K X.mg wF c))
    (he : ∀ (s : Shared) (H : Hp) (C : Addr) (cl : List (Str × Addr)) (fp : List Addr), PE (X.blk s H scope (compEnvC scope cl C X.env) fp) elt (tE X.K X.mg wF e)) (hs : ∀ x, foldedSetIterable iter X.env x = pure x) :
    PS X (.Assign [.Name y py] (.ListComp elt [⟨tg, iter, ifs, 0⟩] scope pos) spos) (tS X.K X.mg W A (asg (comp (own.map (·.2)) s g c e) (gN i))) :=
  PS.of (ps_setLc hc hN hy hyl hsw hi ok hg ht he hs) fun D σ H q => by
    have q1 := tS_asg q
    refine tE_comp (Q := _) ?_
    exact tE_mono (fun v H1 r => tG_N hA r) q1
theorem pg_N {i : Nat} {x : Str} {pos : Pos} (hN : X.N.Nodup) (hi : X.N[i]? = some x) (hx : Loc X.env.scope x) (hA : A i = true) (hf : X.fn x = true ∨ X.env.scope.names.lookup x = some .local) : PG X (.Name x pos) (tG X.K A (gN i)) := PG.of (pg_name hN hi hx hf) fun _ _ _ _ q => tG_N hA q
theorem ps_N {i : Nat} {x : Str} {e : Expr} {f : M EV} {pos pos' : Pos} (hN : X.N.Nodup) (hi : X.N[i]? = some x) (hx : Loc X.env.scope x) (hA : A i = true) (he : PE X e (tE X.K X.mg W f)) (hs : swapsWith e (some (.Name x pos')) pos.line X.env = pure false) (hf : X.fn x = true ∨ X.env.scope.names.lookup x = some .local) :
    PS X (.Assign [.Name x pos'] e pos) (tS X.K X.mg W A (asg f (gN i))) := PS.of (ps_set hN hi hx he hs hf) fun D σ H q => tE_mono (fun v H1 r => tG_N hA r) (tS_asg q)
theorem ps_G {tg e : Expr} {f : M EV} {g : Tg} {pos : Pos} (he : PE X e (tE X.K X.mg W f)) (hg : PG X tg (tG X.K A g)) (hs : swapsWithSole [tg] e pos.line X.env = pure false) (hw : swappedStores [tg] e X.env = pure none)
    (h1 : (assignEach [tg] X.env).map (·.2) = [assign tg X.env]) : PS X (.Assign [tg] e pos) (tS X.K X.mg W A (asg f g)) := PS.of (ps_asg he hg hs hw h1) fun D σ H q => tS_asg q
theorem pgs_0 : PGs X [] (tGs X.K A gs0) := PGs.of pgs_nil fun _ _ _ _ q => tGs_0 q
theorem pgs_C {e : Expr} {es : List Expr} {g : Tg} {gs : List D → M Unit} (h1 : PG X e (tG X.K A g)) (h2 : PGs X es (tGs X.K A gs)) (hs : (assignEach (e :: es) X.env).map (·.2) = assign e X.env :: (assignEach es X.env).map (·.2)) : PGs X (e :: es) (tGs X.K A (gsC g gs)) :=
  PGs.of (pgs_cons h1 h2 hs) fun _ _ _ _ q => tGs_C q
theorem pg_T {es : List Expr} {k n : Nat} {gs : List D → M Unit} {pos : Pos} (hc : X.calm = true) (h : PGs X es (tGs X.K A gs)) (hn : (assignEach es X.env).length = n) (hst : (assignEach es X.env).findIdx? (·.1) = none) : PG X (.Tuple es k pos) (tG X.K A (gT gs n)) :=
  PG.of (pg_tup hc h hn hst) fun _ _ _ _ q => tG_T q
def gI (j : Nat) (fi : M EV) : Tg := fun d ρ0 => match ρ0.getD j none with
  | some _ => bnd fi (fun ei => fun ρ => match ρ.getD j none, peek1 ρ ei with
    | some (.node true .lst xs), some (.int k) => match ixN xs.length k with
      | some i => .ok () (ρ.set j (some (.node true .lst (xs.set i d))))
      | none => .stuck
    | _, _ => .stuck) ρ0
  | none => .stuck
/-- an item of an owned list of a slot, stored -/
theorem set_item {j i : Nat} {xs : List D} {ρ : Env} {d : D} {v : V} {T : Fp} (w : Wd Z H (fun a => S a ∨ T a)) (dj : ∀ a, S a → T a → False) (er : EnvR K Z H ρ σ S) (e : ρ.getD j none = some (.node true .lst xs)) (hi : i < xs.length) (rv : Rep K Z H d v T) :
    ∃ p ys, σ[j]? = some (some (.ref p)) ∧ H p = some (.lst ys) ∧ ys.length = xs.length ∧ ∃ S', (∀ a, S' a → S a ∨ T a) ∧ S p ∧ EnvR K Z (upd H p (.lst (ys.set i v))) (ρ.set j (some (.node true .lst (xs.set i d)))) σ S' := by
  obtain ⟨u, U1, U2, hv, u1, u2, uj, ru, eu⟩ := er.take (getD_some e)
  obtain ⟨p, ys, U', rfl, c, sa, na, sub, rl⟩ := ru
  obtain ⟨hj, ej⟩ := List.getElem?_eq_some_iff.mp hv
  have es : σ.set j (some (.ref p)) = σ := by rw [← ej, List.set_getElem_self]
  have hl : j < ρ.length := by rw [er.length]; exact hj
  obtain ⟨y, T1, T2, hy, t1, t2, tj, ry, put⟩ := rl.take (List.getElem?_eq_getElem hi)
  have keep : ∀ {B : Fp}, (∀ a, B a → a = p → False) → ∀ a o, B a → H a = some o → upd H p (.lst (ys.set i v)) a = some o := fun {B} n a o b q => by rw [upd_ne fun z => n a b z]; exact q
  have nT : ∀ a, T a → a = p → False := fun a x y => dj p (u1 p sa) (by rw [← y]; exact x)
  have rv' : Rep K Z (upd H p (.lst (ys.set i v))) d v T := rv.move (Same.refl Z) (keep nT) fun _ x => x
  have pl := put Z (upd H p (.lst (ys.set i v))) d v T (fun a => T2 a ∨ T a) (Same.refl Z) (keep fun a x y => na (t2 p (by rw [← y]; exact x))) rv' (fun _ x => .inr x) (fun _ x => .inl x) fun a x y => dj a (u1 a (sub a (t2 a y))) x
  have rn : Rep K Z (upd H p (.lst (ys.set i v))) (.node true .lst (xs.set i d)) (.ref p) (fun a => a = p ∨ (T2 a ∨ T a)) := ⟨p, ys.set i v, _, rfl, upd_same, .inl rfl, fun x => x.elim (fun z => na (t2 p z)) fun z => nT p z rfl, fun _ x => .inr x, pl⟩
  have q := EnvR.put (S := fun a => (a = p ∨ (T2 a ∨ T a)) ∨ U2 a) (eu.move (Same.refl Z) (keep fun a x y => uj p sa (by rw [← y]; exact x)) fun _ x => x) hl rn (fun _ x => .inl x) (fun _ x => .inr x) fun a x y => by
    rcases x with x | x | x
    · exact uj p sa (by rw [← x]; exact y)
    · exact uj a (sub a (t2 a x)) y
    · exact dj a (u2 a y) x
  rw [es] at q
  refine ⟨p, ys, hv, c, rl.length.symm, _, fun a x => ?_, u1 p sa, q⟩
  rcases x with (x | x | x) | x
  · exact .inl (by rw [x]; exact u1 p sa)
  · exact .inl (u1 a (sub a (t2 a x)))
  · exact .inr x
  · exact .inl (u2 a x)
theorem tG_I {j : Nat} {fi : M EV} {v : V} {Q : Sl → Hp → Prop} (h : tG K A (gI j fi) v σ H Q) : gSub (tVar j) (tE K mg wF fi) rSetL v σ H Q := by
  obtain ⟨Z, ρ, S, Sd, d, w, dj, er, r, o⟩ := h
  simp only [gI] at o
  cases e0 : ρ.getD j none with
  | none => simp only [e0] at o
  | some d0 =>
    simp only [e0, bnd] at o
    obtain ⟨u, U1, U2, hv, _⟩ := er.take (getD_some e0)
    refine ⟨u, hv, Z, ρ, S, w.less fun a x => .inl x, er, ?_⟩
    cases e1 : fi ρ with
    | stuck => rw [e1] at o; exact o.elim
    | exc x ρ1 => rw [e1] at o; exact o.elim
    | ok ei ρ1 =>
      simp only [e1] at o
      intro vi Z1 H1 S1 Sa st dja er1 r1
      have stF := st.frame w dj
      have apF := st.apart (fun a x => w.live a (.inr x)) dj
      have r' : Rep K Z1 H1 d v Sd := st.stay dj r
      split at o
      · rename_i ρ' hm
        split at hm
        · rename_i xs k h1 h2
          split at hm
          · rename_i i hi
            cases hm
            have il : i < xs.length := (ixN_seq hi).2.1
            have hvi : vi = .int k := peek1_rep er1 r1 h2
            subst hvi
            have wA : Wd Z1 H1 (fun a => S1 a ∨ Sd a) := stF.wd.less fun a x => x.elim (fun y => .inl (.inl y)) .inr
            obtain ⟨p, ys, hv2, hp, hl, S', m', sp, er'⟩ := set_item wA (fun a x y => apF a (.inl x) y) er1 h1 il r'
            rw [hv] at hv2
            cases hv2
            refine ⟨p, ys, k, i, rfl, rfl, hp, by rw [hl]; exact hi, ?_⟩
            have st2 : Step Z1 H1 (fun a => S1 a ∨ Sd a) Z1 (upd H1 p (.lst (ys.set i v))) (fun a => S1 a ∨ Sd a) := Step.write wA (.inl sp)
            have stA : Step Z H (fun a => S a ∨ Sd a) Z1 H1 (fun a => S1 a ∨ Sd a) := stF.less fun a x => x.elim (fun y => .inl (.inl y)) .inr
            exact o σ Z1 _ S' (Keep.refl σ) ((stA.trans st2).less m') er'
          · cases hm
        · cases hm
      · exact o.elim
theorem pg_I {j : Nat} {x : Str} {b : Expr} {fi : M EV} {pos p2 : Pos} (hj : X.N[j]? = some x) (hv : Vis X.env.scope x) (hd : (x == ("__debug__" : Str)) = false) (hcd : (x == ("__classdict__" : Str)) = false) (hi : PE X b (tE X.K X.mg wF fi))
    (ha : ∀ v, assign (.Subscript (.Name x p2) b pos) X.env v = (do
      let ov ← holding [v] (eval (.Name x p2) X.env)
      let iv ← holding [v, ov] (eval b X.env)
      standAt pos
      holding [v, ov, iv] (setItem ov iv v)
      release [v, ov, iv] [])) : PG X (.Subscript (.Name x p2) b pos) (tG X.K A (gI j fi)) := PG.of (pg_sub (pe_var hj hv hd hcd) hi set_list ha) fun _ _ _ _ q => tG_I q
end
end Pm
namespace Pm
open PySem PySem.Spec PyProof.Rows L2
section
variable {K : PySem.W.Frag} {mg : Str → Option Value} {W : WX} {Z H : Hp} {S : Fp} {σ : Sl} {X : Cx} {A : Nat → Bool}
def par (i j : Nat) (fs : M (List EV)) : M Fl := bnd fs fun es => bnd (useL es) fun ds => fun ρ => match ds with
  | [a, b] => if i < ρ.length ∧ j < ρ.length then .ok .nx ((ρ.set i (some a)).set j (some b)) else .stuck
  | _ => .stuck
theorem useL_noexc : ∀ {es : List EV} {ρ ρ' : Env} {x : XD}, useL es ρ ≠ .exc x ρ'
  | [], _, _, _, q => nomatch q
  | e :: es, ρ, ρ', x, q => by
    simp only [useL, bnd] at q
    cases u1 : use1 e ρ with
    | stuck => rw [u1] at q; cases q
    | exc y ρ3 => exact use1_noexc u1
    | ok d ρ3 =>
      simp only [u1] at q
      cases u2 : useL es ρ3 with
      | stuck => rw [u2] at q; cases q
      | exc y ρ4 => exact useL_noexc u2
      | ok ds ρ4 => simp only [u2, ret] at q; cases q
theorem tS_par {i j : Nat} {fs : M (List EV)} {D : Ends} (hi : A i = true) (hj : A j = true) (h : tS K mg W A (par i j fs) D σ H) : tPar i j (tA K mg W fs) D σ H := by
  obtain ⟨Z, ρ, S, w, er, o⟩ := h
  refine ⟨Z, ρ, S, w, er, ?_⟩
  simp only [par, bnd] at o
  cases e1 : fs ρ with
  | stuck => rw [e1] at o; exact o
  | exc x ρ1 => rw [e1] at o; exact o σ (Keep.refl σ)
  | ok es ρ1 =>
    simp only [e1] at o
    intro vs Z1 H1 S1 Sa st1 dj1 er1 r1
    cases e2 : useL es ρ1 with
    | stuck => rw [e2] at o; exact o.elim
    | exc x ρ2 => exact absurd e2 useL_noexc
    | ok ds ρ2 =>
      simp only [e2] at o
      have w1 : Wd Z1 H1 (fun a => (S1 a ∨ Sa a) ∨ Fp0 a) := st1.wd.less fun a x => x.elim id False.elim
      obtain ⟨Z2, S2, st2, m2, er2, r2⟩ := useL_ok w1 dj1 (fun _ _ x => x) er1 r1 e2
      have st2' : Step Z1 H1 (fun a => S1 a ∨ Sa a) Z2 H1 (fun a => S2 a ∨ Sa a) := ⟨st2.wd.less fun a x => .inl x, st2.zz, fun a o n e _ => e, fun a x => .inl (x.elim (fun y => .inl (m2 a y)) .inr), fun a o e => (st2.znew a o e).elim .inl fun y => .inr (y.elim (fun z => z.elim .inl False.elim) .inr)⟩
      split at o
      · rename_i a b
        split at o
        · rename_i hl
          cases vs with
          | nil => exact r2.elim
          | cons v vs =>
            obtain ⟨A1, A2, a1, a2, aj, ra, q⟩ := r2
            cases vs with
            | nil => exact q.elim
            | cons u us =>
              obtain ⟨B1, B2, b1, b2, bj, rb, q2⟩ := q
              cases us with
              | cons => exact q2.elim
              | nil =>
                have p1 := EnvR.put (S := fun x => S2 x ∨ A1 x) (er2.drop i) hl.1 ra (fun a x => .inr x) (fun a x => .inl x) fun a x y => dj1 a (m2 a y) (a1 a x)
                have p2 := EnvR.put (S := fun x => (S2 x ∨ A1 x) ∨ B1 x) (p1.drop j) (by rw [List.length_set]; exact hl.2) rb (fun a x => .inr x) (fun a x => .inl x) fun a x y => y.elim (fun z => dj1 a (m2 a z) (a2 a (b1 a x))) fun z => aj a z (b1 a x)
                refine ⟨v, u, rfl, ?_⟩
                refine o _ .non Z2 H1 _ Fp0 ⟨fun k hk => ?_, by rw [List.length_set, List.length_set]⟩ ((st1.trans st2').less fun a x => ?_) (fun _ _ x => x) p2 trivial
                · rw [List.getElem?_set_ne (fun e => by rw [← e, hj] at hk; cases hk), List.getElem?_set_ne (fun e => by rw [← e, hi] at hk; cases hk)]
                · rcases x with ((x | x) | x) | x
                  · exact .inl x
                  · exact .inr (a1 a x)
                  · exact .inr (a2 a (b1 a x))
                  · exact x.elim
        · exact o.elim
      · exact o.elim
theorem ps_P {i j : Nat} {x y : Str} {a b : Expr} {fs : M (List EV)} {px py pt pos : Pos} {kt k2 pt2} (hc : X.calm = true) (hN : X.N.Nodup) (hi : X.N[i]? = some x) (hj : X.N[j]? = some y) (hij : i ≠ j) (hAi : A i = true) (hAj : A j = true)
    (hx : X.env.scope.names.lookup x = some .local) (hy : X.env.scope.names.lookup y = some .local) (ha : PA X [a, b] (tA X.K X.mg W fs)) (hw : swappedStores [.Tuple [.Name x px, .Name y py] kt pt] (.Tuple [a, b] k2 pt2) X.env = pure (some [x, y]))
    (hs : swapsWithSole [.Tuple [.Name x px, .Name y py] kt pt] (.Tuple [a, b] k2 pt2) pos.line X.env = pure false) : PS X (.Assign [.Tuple [.Name x px, .Name y py] kt pt] (.Tuple [a, b] k2 pt2) pos) (tS X.K X.mg W A (par i j fs)) :=
  PS.of (ps_par hc hN hi hj hij hx hy ha hw hs) fun _ _ _ q => tS_par hAi hAj q
def appd (j : Nat) (fe : M EV) : M EV := fun ρ0 => match ρ0.getD j none with
  | some (.node true .lst _) => bnd fe (fun ev => bnd (use1 ev) fun d => fun ρ => match ρ.getD j none with
    | some (.node true .lst xs) => if xs.length < cap then .ok (.val .non) (ρ.set j (some (.node true .lst (xs ++ [d])))) else .stuck
    | _ => .stuck) ρ0
  | _ => .stuck
theorem push_item {j : Nat} {xs : List D} {ρ : Env} {d : D} {v : V} {T : Fp} (w : Wd Z H (fun a => S a ∨ T a)) (dj : ∀ a, S a → T a → False) (er : EnvR K Z H ρ σ S) (e : ρ.getD j none = some (.node true .lst xs)) (rv : Rep K Z H d v T) :
    ∃ p ys, σ[j]? = some (some (.ref p)) ∧ H p = some (.lst ys) ∧ ys.length = xs.length ∧ ∃ S', (∀ a, S' a → S a ∨ T a) ∧ S p ∧ EnvR K Z (upd H p (.lst (ys ++ [v]))) (ρ.set j (some (.node true .lst (xs ++ [d])))) σ S' := by
  obtain ⟨u, U1, U2, hv, u1, u2, uj, ru, eu⟩ := er.take (getD_some e)
  obtain ⟨p, ys, U', rfl, c, sa, na, sub, rl⟩ := ru
  obtain ⟨hj, ej⟩ := List.getElem?_eq_some_iff.mp hv
  have es : σ.set j (some (.ref p)) = σ := by rw [← ej, List.set_getElem_self]
  have hl : j < ρ.length := by rw [er.length]; exact hj
  have keep : ∀ {B : Fp}, (∀ a, B a → a = p → False) → ∀ a o, B a → H a = some o → upd H p (.lst (ys ++ [v])) a = some o := fun {B} n a o b q => by rw [upd_ne fun z => n a b z]; exact q
  have nT : ∀ a, T a → a = p → False := fun a x y => dj p (u1 p sa) (by rw [← y]; exact x)
  have rv' : Rep K Z (upd H p (.lst (ys ++ [v]))) d v T := rv.move (Same.refl Z) (keep nT) fun _ x => x
  have pl : RepL K Z (upd H p (.lst (ys ++ [v]))) (xs ++ [d]) (ys ++ [v]) (fun a => U' a ∨ T a) := RepL.append (rl.move (Same.refl Z) (keep fun a x y => na (by rw [← y]; exact x)) fun _ x => x) ⟨T, Fp0, fun _ x => x, fun _ x => x.elim, fun _ _ x => x, rv', trivial⟩ (fun _ x => .inl x) (fun _ x => .inr x) fun a x y => dj a (u1 a (sub a x)) y
  have rn : Rep K Z (upd H p (.lst (ys ++ [v]))) (.node true .lst (xs ++ [d])) (.ref p) (fun a => a = p ∨ (U' a ∨ T a)) := ⟨p, ys ++ [v], _, rfl, upd_same, .inl rfl, fun x => x.elim na fun z => nT p z rfl, fun _ x => .inr x, pl⟩
  have q := EnvR.put (S := fun a => (a = p ∨ (U' a ∨ T a)) ∨ U2 a) (eu.move (Same.refl Z) (keep fun a x y => uj p sa (by rw [← y]; exact x)) fun _ x => x) hl rn (fun _ x => .inl x) (fun _ x => .inr x) fun a x y => by
    rcases x with x | x | x
    · exact uj p sa (by rw [← x]; exact y)
    · exact uj a (sub a x) y
    · exact dj a (u2 a y) x
  rw [es] at q
  refine ⟨p, ys, hv, c, rl.length.symm, _, fun a x => ?_, u1 p sa, q⟩
  rcases x with (x | x | x) | x
  · exact .inl (by rw [x]; exact u1 p sa)
  · exact .inl (u1 a (sub a x))
  · exact .inr x
  · exact .inl (u2 a x)
theorem tE_appd {j : Nat} {fe : M EV} {Q : VK} (h : tE K mg W (appd j fe) σ H Q) : tBM K "list" rAppend (tVar j) (tCons (tE K mg W fe) tNil) σ H Q := by
  obtain ⟨Z, ρ, S, w, er, o⟩ := h
  simp only [appd] at o
  split at o
  · rename_i xs0 h0
    obtain ⟨u, U1, U2, hv, u1, u2, uj, ru, eu⟩ := er.take (getD_some h0)
    obtain ⟨p, ys0, U', rfl, c0, _⟩ := ru
    refine ⟨.ref p, hv, .inl ⟨rfl, ys0, SqL.of c0⟩, Z, ρ, S, w, er, ?_⟩
    simp only [bnd] at o
    cases e1 : fe ρ with
    | stuck => rw [e1] at o; exact o
    | exc x ρ1 => rw [e1] at o; exact o
    | ok ev ρ1 =>
      simp only [e1] at o
      intro v Z1 H1 S1 Sa st1 dj1 er1 r1
      cases e2 : use1 ev ρ1 with
      | stuck => rw [e2] at o; exact o.elim
      | exc x ρ2 => exact absurd e2 use1_noexc
      | ok d ρ2 =>
        simp only [e2] at o
        have w1 : Wd Z1 H1 (fun a => (S1 a ∨ Sa a) ∨ Fp0 a) := st1.wd.less fun a x => x.elim id False.elim
        obtain ⟨Z2, S2, st2, m2, er2, r2⟩ := use1_ok w1 dj1 (fun _ _ x => x) er1 r1 e2
        have st2' : Step Z1 H1 (fun a => S1 a ∨ Sa a) Z2 H1 (fun a => S2 a ∨ Sa a) := ⟨st2.wd.less fun a x => .inl x, st2.zz, fun a o n e _ => e, fun a x => .inl (x.elim (fun y => .inl (m2 a y)) .inr), fun a o e => (st2.znew a o e).elim .inl fun y => .inr (y.elim (fun z => z.elim .inl False.elim) .inr)⟩
        split at o
        · rename_i xs h1
          split at o
          · rename_i hz
            obtain ⟨p', ys, hv2, hp, hl, S', m', sp, er'⟩ := push_item st2'.wd (fun a x y => dj1 a (m2 a x) y) er2 h1 r2
            rw [hv] at hv2
            cases hv2
            refine ⟨p, ys, v, rfl, rfl, hp, by rw [hl]; exact Nat.lt_trans hz (by rw [sizeLine_eq]; decide), ?_⟩
            exact o .non Z2 _ S' Fp0 ((((st1.trans st2').trans (Step.write st2'.wd (.inl sp))).less m').less fun a x => x.elim id False.elim) (fun _ _ x => x) er' rfl
          · exact o.elim
        · exact o.elim
  · exact o.elim
theorem pe_append {j : Nat} {x : Str} {e : Expr} {fe : M EV} {p2 apos cpos : Pos} (hj : X.N[j]? = some x) (hv : Vis X.env.scope x) (hd : (x == ("__debug__" : Str)) = false) (hcd : (x == ("__classdict__" : Str)) = false) (he : PE X e (tE X.K X.mg W fe))
    (hbase : attributeBase (.Name x p2) "append" X.env (eval (.Name x p2) X.env) = eval (.Name x p2) X.env)
    (hfew : ((backTo cpos (starEach [e] X.env)).all (fun x => !x.1) && (backToKw cpos (keywordEach [] X.env)).all (fun x => x.1.isSome)
      && decide ([e].length + ([] : List Keyword).length + (if ([] : List Keyword).isEmpty then 0 else 1) < 30)) = true)
    (hline : (apos.endLine == cpos.line) = true) (hs : starEach [e] X.env = (false, eval e X.env) :: starEach [] X.env) (hplain : (backTo cpos (starEach [] X.env)).any (·.1) = false) :
    PE X (.Call (.Attribute (.Name x p2) "append" apos) [e] [] cpos) (tE X.K X.mg W (appd j fe)) :=
  PE.of (pe_bm PySem.F.plainAttrs_list PySem.F.slot_list_append PySem.F.type_list_append mt_append (pe_var hj hv hd hcd) (pa_cons he pa_nil hs) hbase hfew hline hs hplain) fun _ _ _ q => tE_appd q
end
end Pm
namespace Pm
open PySem PySem.Spec PyProof.Rows L2
section
variable {K : PySem.W.Frag} {mg : Str → Option Value} {W : WX} {Z H : Hp} {S : Fp} {σ : Sl} {X : Cx}
/-- two argument lists, one behind the other -/
def aApp (n1 n2 : Nat) (fs fk : M (List EV)) : M (List EV) := bnd fs fun es => bnd fk fun ks => fun ρ => if es.length = n1 ∧ ks.length = n2 then .ok (es ++ ks) ρ else .stuck
theorem EVsR.app : ∀ {es ks : List EV} {vs zs : List V} {S1 S2 U : Fp}, EVsR K Z H σ es vs S1 → EVsR K Z H σ ks zs S2 → (∀ a, S1 a → U a) → (∀ a, S2 a → U a) → (∀ a, S1 a → S2 a → False) → EVsR K Z H σ (es ++ ks) (vs ++ zs) U
  | [], ks, [], zs, _, _, _, _, h2, _, m2, _ => h2.more m2
  | [], _, _ :: _, _, _, _, _, h, _, _, _, _ => h.elim
  | _ :: _, _, [], _, _, _, _, h, _, _, _, _ => h.elim
  | e :: es, ks, v :: vs, zs, S1, S2, U, ⟨T1, T2, t1, t2, tj, r, q⟩, h2, m1, m2, dj =>
    ⟨T1, fun a => T2 a ∨ S2 a, fun a x => m1 a (t1 a x), fun a x => x.elim (fun y => m1 a (t2 a y)) (m2 a), fun a x y => y.elim (tj a x) (dj a (t1 a x)), r, EVsR.app (U := fun a => T2 a ∨ S2 a) q h2 (fun _ x => .inl x) (fun _ x => .inr x) fun a x y => dj a (t2 a x) y⟩
theorem EVsR.stay : ∀ {es : List EV} {vs : List V} {Z' H' : Hp} {S1 Sa S' : Fp}, EVsR K Z H σ es vs Sa → Step Z H S1 Z' H' S' → (∀ a, S1 a → Sa a → False) → EVsR K Z' H' σ es vs Sa
  | [], [], _, _, _, _, _, _, _, _ => trivial
  | [], _ :: _, _, _, _, _, _, h, _, _ => h.elim
  | _ :: _, [], _, _, _, _, _, h, _, _ => h.elim
  | e :: es, v :: vs, _, _, _, _, _, ⟨T1, T2, t1, t2, tj, r, q⟩, st, dj => ⟨T1, T2, t1, t2, tj, r.stay st fun a x y => dj a x (t1 a y), EVsR.stay q st fun a x y => dj a x (t2 a y)⟩
theorem EVsR.length : ∀ {es : List EV} {vs : List V} {S : Fp}, EVsR K Z H σ es vs S → es.length = vs.length
  | [], [], _, _ => rfl
  | [], _ :: _, _, h => h.elim
  | _ :: _, [], _, h => h.elim
  | _ :: _, _ :: _, _, ⟨_, _, _, _, _, _, q⟩ => by rw [List.length_cons, List.length_cons, EVsR.length q]
theorem tA_app {n1 n2 : Nat} {fs fk : M (List EV)} {Q : List V → Hp → Prop} (h : tA K mg W (aApp n1 n2 fs fk) σ H Q) : tA K mg W fs σ H fun vs H1 => tA K mg W fk σ H1 fun zs H2 => vs.length = n1 ∧ zs.length = n2 ∧ Q (vs ++ zs) H2 := by
  obtain ⟨Z, ρ, S, w, er, o⟩ := h
  refine ⟨Z, ρ, S, w, er, ?_⟩
  simp only [aApp, bnd] at o
  cases e1 : fs ρ with
  | stuck => rw [e1] at o; exact o
  | exc x ρ1 => rw [e1] at o; exact o
  | ok es ρ1 =>
    rw [e1] at o
    intro vs Z1 H1 S1 Sa st1 dj1 er1 r1
    refine ⟨Z1, ρ1, S1, st1.wd.less fun a x => .inl x, er1, ?_⟩
    cases e2 : fk ρ1 with
    | stuck => simp only [e2] at o; exact o
    | exc x ρ2 => simp only [e2] at o; exact o.behind st1 dj1
    | ok ks ρ2 =>
      simp only [e2] at o
      intro zs Z2 H2 S2 Sb st2 dj2 er2 r2
      by_cases hn : es.length = n1 ∧ ks.length = n2
      · rw [if_pos hn] at o
        have ap := st2.apart (T := Sa) (fun a x => st1.wd.live a (.inr x)) dj1
        refine ⟨r1.length.symm.trans hn.1, r2.length.symm.trans hn.2, o (vs ++ zs) Z2 H2 S2 (fun a => Sa a ∨ Sb a) ((st1.trans (st2.frame st1.wd dj1)).less fun a x => ?_) (fun a x y => y.elim (ap a (.inl x)) (dj2 a x)) er2 ?_⟩
        · rcases x with x | x | x
          · exact .inl (.inl x)
          · exact .inr x
          · exact .inl (.inr x)
        · exact EVsR.app (r1.stay st2 dj1) r2 (fun _ x => .inl x) (fun _ x => .inr x) fun a x y => ap a (.inr y) x
      · rw [if_neg hn] at o
        exact o.elim
/-- the arguments put in the order of the parameters -/
def sel {α : Type} (p : List Nat) (xs : List α) : List α := p.filterMap (xs[·]?)
theorem sel_set {α : Type} {xs : List α} {y : α} {i : Nat} : ∀ {p : List Nat}, i ∉ p → sel p (xs.set i y) = sel p xs
  | [], _ => rfl
  | j :: p, h => by
    have e : (xs.set i y)[j]? = xs[j]? := List.getElem?_set_ne fun e => h (by rw [e]; exact List.mem_cons_self)
    have q := sel_set (xs := xs) (y := y) (i := i) (p := p) fun z => h (List.mem_cons_of_mem _ z)
    unfold sel at q ⊢
    rw [List.filterMap_cons, List.filterMap_cons, e, q]
theorem EVsR.pick : ∀ {es : List EV} {vs : List V} {S : Fp} {i : Nat} {e : EV}, EVsR K Z H σ es vs S → es[i]? = some e →
    ∃ v, ∃ S1 S2 : Fp, vs[i]? = some v ∧ (∀ a, S1 a → S a) ∧ (∀ a, S2 a → S a) ∧ (∀ a, S1 a → S2 a → False) ∧ EVR K Z H σ e v S1 ∧ EVsR K Z H σ (es.set i (.val .non)) (vs.set i .non) S2
  | [], _, _, _, _, _, e => by simp at e
  | _ :: _, [], _, _, _, h, _ => h.elim
  | e :: es, v :: vs, S, 0, e', ⟨T1, T2, t1, t2, tj, r, q⟩, h => by
    simp only [List.getElem?_cons_zero, Option.some.injEq] at h
    subst h
    exact ⟨v, T1, T2, rfl, t1, t2, tj, r, Fp0, T2, fun _ x => x.elim, fun _ x => x, fun _ x _ => x, rfl, q⟩
  | e :: es, v :: vs, S, i + 1, e', ⟨T1, T2, t1, t2, tj, r, q⟩, h => by
    simp only [List.getElem?_cons_succ] at h
    obtain ⟨u, U1, U2, hu, u1, u2, uj, ru, rest⟩ := EVsR.pick q h
    exact ⟨u, U1, fun a => T1 a ∨ U2 a, by simpa using hu, fun a x => t2 a (u1 a x), fun a x => x.elim (t1 a) fun y => t2 a (u2 a y), fun a x y => y.elim (fun z => tj a z (u1 a x)) (uj a x), ru, T1, U2, fun _ x => .inl x, fun _ x => .inr x, fun a x y => tj a x (u2 a y), r, rest⟩
theorem EVsR.sel : ∀ {p : List Nat} {es : List EV} {vs : List V} {S : Fp}, p.Nodup → (∀ i ∈ p, i < es.length) → EVsR K Z H σ es vs S → EVsR K Z H σ (Pm.sel p es) (Pm.sel p vs) S
  | [], _, _, _, _, _, _ => trivial
  | i :: p, es, vs, S, nd, hl, r => by
    have hi := hl i List.mem_cons_self
    obtain ⟨v, S1, S2, hv, s1, s2, dj, re, rest⟩ := r.pick (List.getElem?_eq_getElem hi)
    have nd' := List.nodup_cons.mp nd
    have ih := EVsR.sel nd'.2 (fun j hj => by rw [List.length_set]; exact hl j (List.mem_cons_of_mem _ hj)) rest
    have same : ∀ {α : Type} (xs : List α) (y : α), Pm.sel p (xs.set i y) = Pm.sel p xs := fun {α} xs y => sel_set nd'.1
    rw [same, same] at ih
    have e1 : Pm.sel (i :: p) es = es[i] :: Pm.sel p es := by
      unfold Pm.sel
      rw [List.filterMap_cons, List.getElem?_eq_getElem hi]
    have e2 : Pm.sel (i :: p) vs = v :: Pm.sel p vs := by
      unfold Pm.sel
      rw [List.filterMap_cons, hv]
    rw [e1, e2]
    exact ⟨S1, S2, s1, s2, dj, re, ih⟩
def selA (n : Nat) (p : List Nat) (fs : M (List EV)) : M (List EV) := bnd fs fun es => fun ρ => if es.length = n ∧ p.Nodup ∧ (∀ i ∈ p, i < n) then .ok (sel p es) ρ else .stuck
theorem tA_sel {p : List Nat} {fs : M (List EV)} {Q : List V → Hp → Prop} {n : Nat} (h : tA K mg W (selA n p fs) σ H Q) : tA K mg W fs σ H fun vs H1 => vs.length = n ∧ Q (sel p vs) H1 := by
  obtain ⟨Z, ρ, S, w, er, o⟩ := h
  refine ⟨Z, ρ, S, w, er, ?_⟩
  simp only [selA, bnd] at o
  cases e1 : fs ρ with
  | stuck => rw [e1] at o; exact o
  | exc x ρ1 => rw [e1] at o; exact o
  | ok es ρ1 =>
    simp only [e1] at o
    intro vs Z1 H1 S1 Sa st1 dj1 er1 r1
    by_cases hn : es.length = n ∧ p.Nodup ∧ (∀ i ∈ p, i < n)
    · rw [if_pos hn] at o
      exact ⟨r1.length.symm.trans hn.1, o (sel p vs) Z1 H1 S1 Sa st1 dj1 er1 (r1.sel hn.2.1 fun i hi => by rw [hn.1]; exact hn.2.2 i hi)⟩
    · rw [if_neg hn] at o
      exact o.elim
/-- how n values and the keywords ks behind them bind: in the order p -/
def KwB (K : PySem.W.Frag) (fd : FuncData) (ps ks : List Str) (n : Nat) (p : List Nat) : Prop := ∀ (s : Shared) (us ws : List Value), K.In s.heap → us.length = n → ws.length = ks.length → BindsTo s fd ⟨us, ks.zip ws⟩ (ps.zip (sel p (us ++ ws)))
theorem KwB.of {fd : FuncData} {ps ks : List Str} {n : Nat} {p : List Nat} (h : ∀ us ws : List Value, us.length = n → ws.length = ks.length → bindArgs fd ⟨us, ks.zip ws⟩ = pure (ps.zip (sel p (us ++ ws)))) : KwB K fd ps ks n p := fun _ us ws _ h1 h2 => .of_eq (h us ws h1 h2)
theorem vals_sel {p : List Nat} {vs : List V} {us : List Value} (r : Vals vs us) : Vals (sel p vs) (sel p us) := by
  induction p with
  | nil => exact .nil
  | cons i p ih =>
    unfold Pm.sel
    rw [List.filterMap_cons, List.filterMap_cons]
    cases e : vs[i]? with
    | none =>
      have e2 : us[i]? = none := by
        rw [List.getElem?_eq_none_iff] at e ⊢
        rw [← r.length]; exact e
      rw [e2]
      exact ih
    | some v =>
      obtain ⟨u, e2, ru⟩ := r.get e
      rw [e2]
      exact .cons ru ih
theorem vals_app : ∀ {xs ys : List V} {us ws : List Value}, Vals xs us → Vals ys ws → Vals (xs ++ ys) (us ++ ws)
  | _, _, _, _, .nil, r2 => r2
  | _, _, _, _, .cons h r, r2 => .cons h (vals_app r r2)
theorem PK.of {kws : List Keyword} {t t' : TA} (h : PK X kws t) (i : ∀ σ H Q, t' σ H Q → t σ H Q) : PK X kws t' := ⟨fun o p s σ H Q I q => h.run o p s σ H Q I (i σ H Q q)⟩
theorem pk_N : PK X [] (tA X.K X.mg W aNil) := PK.of pk_nil fun _ _ _ => tA_nil
theorem pk_C {nm : Option Str} {e : Expr} {kpos : Pos} {kws : List Keyword} {f : M EV} {fs : M (List EV)} (h : PE X e (tE X.K X.mg W f)) (hs : PK X kws (tA X.K X.mg W fs)) : PK X (⟨nm, e, kpos⟩ :: kws) (tA X.K X.mg W (aCons f fs)) := PK.of (pk_cons h hs) fun _ _ _ => tA_cons
end
end Pm
namespace Pm
open PySem PySem.Spec PyProof.Rows L2
section
variable {K : PySem.W.Frag} {mg : Str → Option Value} {W : WX} {Z H : Hp} {S : Fp} {σ : Sl} {X : Cx} {A : Nat → Bool} {a b c e l tg iter : Expr} {es rest : List Expr} {pos p2 : Pos} {f fa fb fc : M EV} {fs : M (List EV)} {ta tb : M Bool}
theorem E_loc (i : Nat) {x : Str} (hN : X.N[i]? = some x := by rfl) (hv : Vis X.env.scope x := by first | exact Or.inl rfl | exact Or.inr (Or.inl rfl) | exact Or.inr (Or.inr rfl)) (hd : (x == ("__debug__" : Str)) = false := by decide) (hcd : (x == ("__classdict__" : Str)) = false := by decide) :
    PE X (.Name x pos) (tE X.K X.mg W (loc i)) := pe_loc hN hv hd hcd
theorem E_int {i j} : PE X (.Constant (.int i) j pos) (tE X.K X.mg W (con (.int i))) := PE.of pe_int fun _ _ _ => tE_con fun _ _ => rfl
theorem E_str {x j} : PE X (.Constant (.str x) j pos) (tE X.K X.mg W (con (.str x))) := PE.of pe_str fun _ _ _ => tE_con fun _ _ => rfl
theorem E_bl {x j} : PE X (.Constant (.bool x) j pos) (tE X.K X.mg W (con (.bl x))) := PE.of pe_bl fun _ _ _ => tE_con fun _ _ => rfl
theorem E_non {j} : PE X (.Constant .none j pos) (tE X.K X.mg W (con .non)) := PE.of pe_non fun _ _ _ => tE_con fun _ _ => rfl
/-- a builtin's name as a value -/
theorem E_blt {x : Str} {u : V} {w : Value} (hm : X.mg x = none) (hv : bootBuiltins x = some w) (r : RelV u w := by rfl) (hg : Gl X x := by rfl) (hn : x ≠ "__name__" := by decide) (hd : (x == ("__debug__" : Str)) = false := by decide) : PE X (.Name x pos) (tE X.K X.mg W (con (.op u))) :=
  PE.of (pe_bltn hg hm hv r hn hd) fun _ _ _ => tE_con fun _ _ => rfl
theorem A_0 : PA X [] (tA X.K X.mg W aNil) := pa_n
theorem A_c (h : PE X e (tE X.K X.mg W f)) (hr : PA X es (tA X.K X.mg W fs)) (hs : starEach (e :: es) X.env = (false, eval e X.env) :: starEach es X.env := by rfl) : PA X (e :: es) (tA X.K X.mg W (aCons f fs)) := pa_c h hr hs
theorem E_op {op : Operator} {g : List D → Option D} (ho : Opd X (binaryOp op) g) (ha : PE X a (tE X.K X.mg W fa)) (hb : PE X b (tE X.K X.mg W fb)) : PE X (.BinOp a op b pos) (tE X.K X.mg W (bin g fa fb)) := pe_bin ho ha hb
theorem E_cmp {op : CmpOp} {g : List D → Option D} (ho : Opd X (compareOp op) g) (ha : PE X a (tE X.K X.mg W fa)) (hb : PE X b (tE X.K X.mg W fb)) (hm : behindInMarks op b = false := by first | exact nomark _ | rfl) : PE X (.Compare a [op] [b] pos) (tE X.K X.mg W (bin g fa fb)) := pe_cmpG ho ha hb hm
theorem T_cmp {op : CmpOp} {g : List D → Option D} (ho : Opd X (compareOp op) g) (ha : PE X a (tE X.K X.mg W fa)) (hb : PE X b (tE X.K X.mg W fb)) (hm : behindInMarks op b = false := by first | exact nomark _ | rfl) : PT X (.Compare a [op] [b] pos) (tT X.K X.mg W (tst (bin g fa fb))) := pt_cmpG ho ha hb hm
theorem T_v (h : PE X e (tE X.K X.mg W f)) (he : ∀ whole, isTrue e X.env whole = (do let v ← whole; standAt e.pos; holding [v] (truthy v)) := by intro _; rfl) : PT X e (tT X.K X.mg W (tst f)) := pt_v h he
theorem T_not (h : PT X a (tT X.K X.mg W ta)) : PT X (.UnaryOp .Not a pos) (tT X.K X.mg W (notT ta)) := PT.of (pt_not h) fun _ _ _ q => tT_not q
theorem W_and1 (h : PT X a (tT X.K X.mg W ta)) : PW X (.BoolOp .And [a] pos) (tT X.K X.mg W ta) := pw_and1 h
theorem W_and (h : PT X a (tT X.K X.mg W ta)) (h2 : PW X (.BoolOp .And (b :: rest) pos) (tT X.K X.mg W tb)) : PW X (.BoolOp .And (a :: b :: rest) pos) (tT X.K X.mg W (andT ta tb)) := PW.of (pw_and h h2) fun _ _ _ q => tT_and q
theorem E_one {op} (h : PE X a (tE X.K X.mg W f)) : PE X (.BoolOp op [a] pos) (tE X.K X.mg W f) := pe_one h
theorem E_and (h : PE X a (tE X.K X.mg W fa)) (h2 : PE X (.BoolOp .And (b :: rest) pos) (tE X.K X.mg W fb)) : PE X (.BoolOp .And (a :: b :: rest) pos) (tE X.K X.mg W (andE fa fb)) := PE.of (pe_and h h2) fun _ _ _ q => tE_and q
theorem E_or (h : PE X a (tE X.K X.mg W fa)) (h2 : PE X (.BoolOp .Or (b :: rest) pos) (tE X.K X.mg W fb)) : PE X (.BoolOp .Or (a :: b :: rest) pos) (tE X.K X.mg W (orE fa fb)) := PE.of (pe_or h h2) fun _ _ _ q => tE_or q
theorem E_not (h : PE X a (tE X.K X.mg W fa)) : PE X (.UnaryOp .Not a pos) (tE X.K X.mg W (notE fa)) := PE.of (pe_not h) fun _ _ _ q => tE_not q
theorem E_if (h : PT X c (tT X.K X.mg W ta)) (h1 : PE X a (tE X.K X.mg W fa)) (h2 : PE X b (tE X.K X.mg W fb)) : PE X (.IfExp c a b pos) (tE X.K X.mg W (ifE ta fa fb)) := PE.of (pe_ifExp h h1 h2) fun _ _ _ q => tE_if q
def opNeg : List D → Option D
  | [.int i] => some (.int (-i))
  | _ => none
theorem snd_neg : Snd X (fun vs H Q => ∃ x, vs = [x] ∧ rU (fun i => .int (-i)) x H Q) opNeg := by
  refine snd_pure fun Z H S ds vs d Q w r e q => ?_
  unfold opNeg at e
  split at e
  · rename_i i
    simp only [Option.some.injEq] at e
    subst e
    obtain ⟨v, rfl, rv⟩ := rb1 r
    have rv' : v = .int i := rv
    subst rv'
    exact ⟨_, rfl, i, rfl, q _ rfl⟩
  · cases e
theorem one_of {r : V → Hp → VK → Prop} {Q : VK} (h : tA K mg W (aCons f aNil) σ H fun vs H1 => ∃ x, vs = [x] ∧ r x H1 Q) : tUn r (tE K mg W f) σ H Q := by
  refine tE_mono (fun v H1 q => ?_) (tA_cons h)
  obtain ⟨x, hx, q⟩ := tA_nil q
  cases hx
  exact q
theorem E_neg (h : PE X a (tE X.K X.mg W fa)) : PE X (.UnaryOp .USub a pos) (tE X.K X.mg W (un opNeg fa)) := PE.of (pe_un un_neg h) fun _ _ _ q => one_of (tE_app snd_neg q)
theorem E_idx (ha : PE X a (tE X.K X.mg W fa)) (hb : PE X b (tE X.K X.mg W fb)) (hs : PlainIx b := by exact fun _ _ => rfl) : PE X (.Subscript a b pos) (tE X.K X.mg W (idx (aCons fa (aCons fb aNil)))) := pe_idx ha hb hs
theorem E_cut {lo hi : Option Expr} {lf hf : Option (M EV)} (he : PE X e (tE X.K X.mg W f)) (hl : PO X lo (tO X.K X.mg W (partO lf))) (hh : PO X hi (tO X.K X.mg W (partO hf))) : PE X (.Subscript e (.Slice lo hi none p2) pos) (tE X.K X.mg W (cut f lf hf)) :=
  PE.of (pe_slice (SlR.or sl_list (SlR.or sl_tupA sl_str)) he hl hh) fun _ _ _ q => tE_cut q
theorem O_0 : PO X none (tO X.K X.mg W (partO none)) := po_N
theorem O_1 (h : PE X e (tE X.K X.mg W f)) : PO X (some e) (tO X.K X.mg W (partO (some f))) := po_S h
theorem E_T {x1 : Nat} (h : PA X es (tA X.K X.mg W fs)) : PE X (.Tuple es x1 pos) (tE X.K X.mg W (disp false .tup fs)) := pe_T h
theorem E_L (h : PA X es (tA X.K X.mg W fs)) : PE X (.List es pos) (tE X.K X.mg W (disp true .lst fs)) := pe_L h
theorem E_blF {x : Str} {id : String} {p : Pos} {r : List V → Hp → VK → Prop} {g : List D → Option D} (hs : Snd X r g) (hc : CallR X (.builtin id) r) (hm : X.mg x = none) (ha : PA X (e :: es) (tA X.K X.mg W fs)) (hv : bootBuiltins x = some (.builtin id) := by first | exact PySem.boot_len | rfl) (hg : Gl X x := by rfl)
    (hn : x ≠ "__name__" := by decide) (hdb : (x == ("__debug__" : Str)) = false := by decide) (he : starEach (e :: es) X.env = (false, eval e X.env) :: starEach es X.env := by rfl) (hpl : (backTo pos (starEach es X.env)).any (·.1) = false := by rfl) :
    PE X (.Call (.Name x p) (e :: es) [] pos) (tE X.K X.mg W (app g fs)) := pe_blt hs hc hg hm hv ha hn hdb he hpl
theorem E_blG {x : Str} {id : String} {p : Pos} {r : List V → Hp → VK → Prop} {g : List D → Option D} (hs : Snd X r g) (hc : CallR X (.builtin id) r) (hm : X.mg x = none) (ha : PA X (e :: es) (tA X.K X.mg W fs)) (hv : bootBuiltins x = some (.builtin id) := by rfl) (hg : Gl X x := by rfl)
    (hn : x ≠ "__name__" := by decide) (hdb : (x == ("__debug__" : Str)) = false := by decide) (he : starEach (e :: es) X.env = (false, eval e X.env) :: starEach es X.env := by rfl) (hpl : (backTo pos (starEach es X.env)).any (·.1) = false := by rfl) :
    PE X (.Call (.Name x p) (e :: es) [] pos) (tE X.K X.mg W (appF g fs)) := pe_bltF hs hc hg hm hv ha hn hdb he hpl
theorem E_ty {x : Str} {T : String} {p : Pos} {r : List V → Hp → VK → Prop} {g : List D → Option D} (hs : Snd X r g) (hc : CallR X (.type T) r) (hm : X.mg x = none) (ha : PA X (e :: es) (tA X.K X.mg W fs)) (hv : bootBuiltins x = some (.type T) := by rfl) (hg : Gl X x := by rfl)
    (hn : x ≠ "__name__" := by decide) (hdb : (x == ("__debug__" : Str)) = false := by decide) (he : starEach (e :: es) X.env = (false, eval e X.env) :: starEach es X.env := by rfl) (hpl : (backTo pos (starEach es X.env)).any (·.1) = false := by rfl) :
    PE X (.Call (.Name x p) (e :: es) [] pos) (tE X.K X.mg W (app g fs)) := pe_bty hs hc hg hm hv ha hn hdb he hpl
theorem E_app {j : Nat} {x : Str} {fe : M EV} {apos cpos : Pos} (he : PE X e (tE X.K X.mg W fe)) (hj : X.N[j]? = some x := by rfl) (hv : Vis X.env.scope x := by first | exact Or.inl rfl | exact Or.inr (Or.inl rfl) | exact Or.inr (Or.inr rfl)) (hd : (x == ("__debug__" : Str)) = false := by decide) (hcd : (x == ("__classdict__" : Str)) = false := by decide)
    (hbase : attributeBase (.Name x p2) "append" X.env (eval (.Name x p2) X.env) = eval (.Name x p2) X.env := by rfl)
    (hfew : ((backTo cpos (starEach [e] X.env)).all (fun x => !x.1) && (backToKw cpos (keywordEach [] X.env)).all (fun x => x.1.isSome)
      && decide ([e].length + ([] : List Keyword).length + (if ([] : List Keyword).isEmpty then 0 else 1) < 30)) = true := by rfl)
    (hline : (apos.endLine == cpos.line) = true := by rfl) (hs : starEach [e] X.env = (false, eval e X.env) :: starEach [] X.env := by rfl) (hplain : (backTo cpos (starEach [] X.env)).any (·.1) = false := by rfl) :
    PE X (.Call (.Attribute (.Name x p2) "append" apos) [e] [] cpos) (tE X.K X.mg W (appd j fe)) := pe_append hj hv hd hcd he hbase hfew hline hs hplain
/-- what a body needs to call a def -/
structure Fit (X : Cx) (W : WX) (k : Nat) : Prop where
  gd : X.A.guards = some []
  room : Room k X.A
  tk : Takes X W
theorem Fit.blk {k : Nat} {s : Shared} {H0 : Hp} {scope : Scope} {cenv : PySem.Env} {fp : List Addr} (h : Fit X W k) : Fit (X.blk s H0 scope cenv fp) wF k := ⟨h.gd, h.room, fun u s' ⟨_, _, _, _, _, _, _, _, _, _, _, _, _, _, _, _, z⟩ => z.elim⟩
theorem E_ty1 {T : String} (hm : X.mg T = none) (hv : bootBuiltins (T : Str) = some (.type T) := by rfl) (hg : Gl X (T : Str) := by rfl) (hn : (T : Str) ≠ "__name__" := by decide) (hd : ((T : Str) == ("__debug__" : Str)) = false := by decide) : PE X (.Name (T : Str) pos) (tE X.K X.mg W (con (.op (.ty T)))) :=
  E_blt hm hv rfl hg hn hd
/-- a def as the module knows it -/
structure Def (P : Program) (w : World) (K : PySem.W.Frag) (mg : Str → Option Value) (base : Heap) (k : Nat) (x : Str) (f : Addr) (fd : FuncData) (ps : List Str) (g : FSem) : Prop where
  ok : FnG P w K mg base k f fd ps g
  mg : mg x = some (.ref f)
  kp : PySem.W.keepIn K (.ref f) = true
  bd : Binds K fd ps []
theorem E_call {k n : Nat} {fA : Addr} {fd : FuncData} {ps : List Str} {g : FSem} {x : Str} {p : Pos} (F : Def X.prog X.w X.K X.mg X.base k x fA fd ps g) (ft : Fit X W n) (ha : PA X (e :: es) (tA X.K X.mg W fs)) (hk : k ≤ n := by first | decide | omega) (hg : Gl X x := by rfl) (hdb : (x == ("__debug__" : Str)) = false := by decide)
    (he : starEach (e :: es) X.env = (false, eval e X.env) :: starEach es X.env := by rfl) (hpl : (backTo pos (starEach es X.env)).any (·.1) = false := by rfl) : PE X (.Call (.Name x p) (e :: es) [] pos) (tE X.K X.mg W (callF g fs)) :=
  pe_callG F.ok ft.gd (ft.room.mono hk) ft.tk hg F.mg F.kp F.bd ha hdb he hpl
theorem K_0 : PK X [] (tA X.K X.mg W aNil) := pk_N
theorem K_c {nm : Option Str} {kpos : Pos} {kws : List Keyword} (h : PE X e (tE X.K X.mg W f)) (hs : PK X kws (tA X.K X.mg W fs)) : PK X (⟨nm, e, kpos⟩ :: kws) (tA X.K X.mg W (aCons f fs)) := pk_C h hs
variable {st : Stmt} {sts s1 s2 : List Stmt} {m1 m2 : M Fl}
theorem B_0 : PSs X [] (tS X.K X.mg W A sNx) := PSs.of pss_nil fun _ _ _ q => tS_nx q
theorem B_c (h : PS X st (tS X.K X.mg W A m1)) (h2 : PSs X sts (tS X.K X.mg W A m2)) : PSs X (st :: sts) (tS X.K X.mg W A (seq m1 m2)) := PSs.of (pss_cons h h2) fun _ _ _ q => tS_seq q
theorem B_1 (h : PS X st (tS X.K X.mg W A m1)) : PSs X [st] (tS X.K X.mg W A m1) := pss_one h
theorem S_if (h : PT X c (tT X.K X.mg W ta)) (h1 : PSs X s1 (tS X.K X.mg W A m1)) (h2 : PSs X s2 (tS X.K X.mg W A m2)) : PS X (.If c s1 s2 pos) (tS X.K X.mg W A (ite ta m1 m2)) := PS.of (ps_if h h1 h2) fun _ _ _ q => tS_if q
theorem S_ret (h : PE X e (tE X.K X.mg W f)) : PS X (.Return (some e) pos) (tS X.K X.mg W A (rtn f)) := PS.of (ps_ret h) fun _ _ _ q => tS_rtn q
/-- a def's own local handed back: it moves -/
theorem E_mov (i : Nat) {x : Str} (hN : X.N[i]? = some x := by rfl) (hv : Vis X.env.scope x := by first | exact Or.inl rfl | exact Or.inr (Or.inl rfl) | exact Or.inr (Or.inr rfl)) (hd : (x == ("__debug__" : Str)) = false := by decide) (hcd : (x == ("__classdict__" : Str)) = false := by decide) :
    PE X (.Name x pos) (tE X.K X.mg W (mov i)) := PE.of (pe_var hN hv hd hcd) fun _ _ _ => tE_mov
theorem S_ex (h : PE X e (tE X.K X.mg W f)) (hs : swapsWith e none pos.line X.env = pure false := by rfl) : PS X (.Expr e pos) (tS X.K X.mg W A (drp f)) := PS.of (ps_expr h hs) fun _ _ _ q => tS_drp q
theorem S_for {s : M (List D)} {g : Tg} (hp : PassesOwn (model X.prog X.w) X.A X.env X.xe) (hi : PI X tg iter (tI X.K X.mg W s)) (hg : PG X tg (tG X.K A g)) (hb : PSs X s1 (tS X.K X.mg W A m1)) (hc : X.calm = true := by rfl) (hs : ∀ x, foldedSetIterable iter X.env x = pure x := by intro _; rfl) :
    PS X (.For tg iter s1 [] pos) (tS X.K X.mg W A (forS s g m1)) := ps_forS hp hc hi hg hb hs
theorem S_set {i : Nat} {x : Str} {pos' : Pos} (he : PE X e (tE X.K X.mg W f)) (hN : X.N.Nodup) (hA : A i = true := by rfl) (hi : X.N[i]? = some x := by rfl) (hx : Loc X.env.scope x := by first | exact .inl rfl | exact .inr rfl) (hs : swapsWith e (some (.Name x pos')) pos.line X.env = pure false := by rfl)
    (hf : X.fn x = true ∨ X.env.scope.names.lookup x = some .local := by first | exact .inl rfl | exact .inr rfl) : PS X (.Assign [.Name x pos'] e pos) (tS X.K X.mg W A (asg f (gN i))) := ps_N hN hi hx hA he hs hf
theorem S_tg {g : Tg} (he : PE X e (tE X.K X.mg W f)) (hg : PG X tg (tG X.K A g)) (hs : swapsWithSole [tg] e pos.line X.env = pure false := by rfl) (hw : swappedStores [tg] e X.env = pure none := by rfl) (h1 : (assignEach [tg] X.env).map (·.2) = [assign tg X.env] := by rfl) :
    PS X (.Assign [tg] e pos) (tS X.K X.mg W A (asg f g)) := ps_G he hg hs hw h1
theorem G_n {i : Nat} {x : Str} (hN : X.N.Nodup) (hA : A i = true := by rfl) (hi : X.N[i]? = some x := by rfl) (hx : Loc X.env.scope x := by first | exact .inl rfl | exact .inr rfl) (hf : X.fn x = true ∨ X.env.scope.names.lookup x = some .local := by first | exact .inl rfl | exact .inr rfl) :
    PG X (.Name x pos) (tG X.K A (gN i)) := pg_N hN hi hx hA hf
theorem G_i {j : Nat} {x : Str} {fi : M EV} (hi : PE X b (tE X.K X.mg wF fi)) (hj : X.N[j]? = some x := by rfl) (hv : Vis X.env.scope x := by first | exact Or.inl rfl | exact Or.inr (Or.inl rfl) | exact Or.inr (Or.inr rfl)) (hd : (x == ("__debug__" : Str)) = false := by decide) (hcd : (x == ("__classdict__" : Str)) = false := by decide)
    (ha : ∀ v, assign (.Subscript (.Name x p2) b pos) X.env v = (do
      let ov ← holding [v] (eval (.Name x p2) X.env)
      let iv ← holding [v, ov] (eval b X.env)
      standAt pos
      holding [v, ov, iv] (setItem ov iv v)
      release [v, ov, iv] []) := by intro _; rfl) : PG X (.Subscript (.Name x p2) b pos) (tG X.K A (gI j fi)) := pg_I hj hv hd hcd hi ha
theorem Gs_0 : PGs X [] (tGs X.K A gs0) := pgs_0
theorem Gs_c {g : Tg} {gs : List D → M Unit} (h1 : PG X e (tG X.K A g)) (h2 : PGs X es (tGs X.K A gs)) (hs : (assignEach (e :: es) X.env).map (·.2) = assign e X.env :: (assignEach es X.env).map (·.2) := by rfl) : PGs X (e :: es) (tGs X.K A (gsC g gs)) := pgs_C h1 h2 hs
theorem G_t {k n : Nat} {gs : List D → M Unit} (h : PGs X es (tGs X.K A gs)) (hc : X.calm = true := by rfl) (hn : (assignEach es X.env).length = n := by rfl) (hst : (assignEach es X.env).findIdx? (·.1) = none := by rfl) : PG X (.Tuple es k pos) (tG X.K A (gT gs n)) := pg_T hc h hn hst
theorem S_par {i j : Nat} {x y : Str} {px py pt : Pos} {kt k2 pt2} (ha : PA X [a, b] (tA X.K X.mg W fs)) (hN : X.N.Nodup) (hAi : A i = true := by rfl) (hAj : A j = true := by rfl) (hi : X.N[i]? = some x := by rfl) (hj : X.N[j]? = some y := by rfl) (hij : i ≠ j := by decide) (hc : X.calm = true := by rfl)
    (hx : X.env.scope.names.lookup x = some .local := by rfl) (hy : X.env.scope.names.lookup y = some .local := by rfl) (hw : swappedStores [.Tuple [.Name x px, .Name y py] kt pt] (.Tuple [a, b] k2 pt2) X.env = pure (some [x, y]) := by rfl)
    (hs : swapsWithSole [.Tuple [.Name x px, .Name y py] kt pt] (.Tuple [a, b] k2 pt2) pos.line X.env = pure false := by rfl) : PS X (.Assign [.Tuple [.Name x px, .Name y py] kt pt] (.Tuple [a, b] k2 pt2) pos) (tS X.K X.mg W A (par i j fs)) := ps_P hc hN hi hj hij hAi hAj hx hy ha hw hs
theorem I_r1 {p : Pos} (hm : X.mg "range" = none) (ha : PE X a (tE X.K X.mg W fa)) (hg : Gl X "range" := by rfl) (h1 : starEach [a] X.env = [(false, eval a X.env)] := by rfl) : PI X tg (.Call (.Name "range" p) [a] [] pos) (tI X.K X.mg W (srcR1 (aCons fa aNil))) := pi_R1 hg hm (A_c ha A_0 h1) h1
theorem I_a (h : PE X l (tE X.K X.mg W f)) : PI X tg l (tI X.K X.mg W (srcA f)) := pi_A h
theorem E_lc {elt : Expr} {ifs : List Expr} {scope : Scope} {own : List (Str × Nat)} {s : M (List D)} {g : Tg} {cc : M Bool} {ee : M EV} (hN : X.N.Nodup) (hi : PI X tg iter (tI X.K X.mg W s)) (ok : BlkOk X.N X.env.scope scope own)
    (hg : ∀ (s : Shared) (H : Hp) (C : Addr) (cl : List (Str × Addr)) (fp : List Addr), PG (X.blk s H scope (compEnvC scope cl C X.env) fp) tg (tG X.K (ownA own) g)) (ht : ∀ (s : Shared) (H : Hp) (C : Addr) (cl : List (Str × Addr)) (fp : List Addr), PTs (X.blk s H scope (compEnvC scope cl C X.env) fp) ifs (tT X.K X.mg wF cc))
    (he : ∀ (s : Shared) (H : Hp) (C : Addr) (cl : List (Str × Addr)) (fp : List Addr), PE (X.blk s H scope (compEnvC scope cl C X.env) fp) elt (tE X.K X.mg wF ee)) (hc : X.calm = true := by rfl) (hs : ∀ x, foldedSetIterable iter X.env x = pure x := by intro _; rfl) :
    PE X (.ListComp elt [⟨tg, iter, ifs, 0⟩] scope pos) (tE X.K X.mg W (comp (own.map (·.2)) s g cc ee)) := pe_C hc hN hi ok hg ht he hs
theorem S_lc {i : Nat} {y : Str} {py spos : Pos} {elt : Expr} {ifs : List Expr} {scope : Scope} {own : List (Str × Nat)} {s : M (List D)} {g : Tg} {cc : M Bool} {ee : M EV} (hN : X.N.Nodup) (hi : PI X tg iter (tI X.K X.mg W s)) (ok : BlkOk X.N X.env.scope scope own)
    (hg : ∀ (s : Shared) (H : Hp) (C : Addr) (cl : List (Str × Addr)) (fp : List Addr), PG (X.blk s H scope (compEnvC scope cl C X.env) fp) tg (tG X.K (ownA own) g)) (ht : ∀ (s : Shared) (H : Hp) (C : Addr) (cl : List (Str × Addr)) (fp : List Addr), PTs (X.blk s H scope (compEnvC scope cl C X.env) fp) ifs (tT X.K X.mg wF cc))
    (he : ∀ (s : Shared) (H : Hp) (C : Addr) (cl : List (Str × Addr)) (fp : List Addr), PE (X.blk s H scope (compEnvC scope cl C X.env) fp) elt (tE X.K X.mg wF ee)) (hc : X.calm = true := by rfl) (hs : ∀ x, foldedSetIterable iter X.env x = pure x := by intro _; rfl)
    (hA : A i = true := by rfl) (hy : X.N[i]? = some y := by rfl) (hyl : X.env.scope.names.lookup y = some .local := by rfl) (hsw : swapsWith (.ListComp elt [⟨tg, iter, ifs, 0⟩] scope pos) (some (.Name y py)) spos.line X.env = pure true := by rfl) :
    PS X (.Assign [.Name y py] (.ListComp elt [⟨tg, iter, ifs, 0⟩] scope pos) spos) (tS X.K X.mg W A (asg (comp (own.map (·.2)) s g cc ee) (gN i))) := ps_C hc hN hy hyl hA hsw hi ok hg ht he hs
theorem Ts_0 : PTs X [] (tT X.K X.mg W yesT) := pts_N
end
end Pm
namespace Pm
open PySem PySem.Spec PyProof.Rows L2
noncomputable def penS : FSem := mkF 1 1 [] (rtn (disp true .lst (aCons (app opList (aCons (cut (loc 0) none (some (con (.int 63)))) aNil)) (aCons (con (.int 0)) (aCons (con (.int 0)) aNil)))))
/-- f comes out at ρ with the value e and leaves ρ' -/
theorem seq_ok {a b : M Fl} {ρ ρ' : Env} (h : a ρ = .ok .nx ρ') : seq a b ρ = b ρ' := by unfold seq bnd; rw [h]
theorem ite_T {c : M Bool} {a b : M Fl} {ρ ρ' : Env} (h : c ρ = .ok true ρ') : ite c a b ρ = a ρ' := by unfold ite bnd; rw [h]; rfl
theorem ite_F {c : M Bool} {a b : M Fl} {ρ ρ' : Env} (h : c ρ = .ok false ρ') : ite c a b ρ = b ρ' := by unfold ite bnd; rw [h]; rfl
theorem shp_ints (n : Nat) : ∀ ns : List Int, (ns.map D.int).all (shp n) = true
  | [] => rfl
  | x :: ns => by
    rw [List.map_cons, List.all_cons, shp_ints n ns]
    cases n <;> rfl
theorem plain_ints : ∀ ns : List Int, plainL (ns.map D.int) = true
  | [] => rfl
  | x :: ns => by rw [List.map_cons, plainL, plain_ints ns]; rfl
theorem frz_ints : ∀ ns : List Int, frzL (ns.map D.int) = ns.map D.int
  | [] => rfl
  | x :: ns => by rw [List.map_cons, frzL, frz_ints ns]; rfl
theorem neNil (b c : Bool) (ns : List Int) : opNe [.node b .lst (ns.map D.int), .node c .lst []] = some (.bl (decide (ns ≠ []))) := by
  have h1 : shp 60 (.node b .lst (ns.map D.int)) = true := by
    show (ns.map D.int).all (shp 59) = true
    exact shp_ints 59 ns
  have h2 : shp 60 (.node c .lst []) = true := rfl
  show (if (shp 60 (.node b .lst (ns.map D.int)) && shp 60 (.node c .lst [])) = true then some (D.bl !deq (.node b .lst (ns.map D.int)) (.node c .lst [])) else none) = _
  rw [h1, h2]
  cases ns <;> rfl
/-- the pen: the cells, the place, what is left -/
def Pen (ns : List Int) (a : Int) (d : D) : Prop := ∃ (b : Bool) (at' left : Int), d = .node true .lst [.node b .lst (ns.map D.int), .int at', .int left] ∧ 0 ≤ at' ∧ at' ≤ a ∧ 0 ≤ left
theorem Pen.mono {ns : List Int} {a a' : Int} {d : D} (h : Pen ns a d) (l : a ≤ a') : Pen ns a' d := by
  obtain ⟨b, p, q, e, h1, h2, h3⟩ := h
  exact ⟨b, p, q, e, h1, by omega, h3⟩
theorem mulOkL {i j : Int} (h : i.natAbs < 2 ^ 64) : mulOk i j = true := decide_eq_true (.inl h)
theorem mulOkR {i j : Int} (h : j.natAbs < 2 ^ 64) : mulOk i j = true := decide_eq_true (.inr (.inl h))
theorem mulL {i j : Int} (h : i.natAbs < 2 ^ 64) : iMul i j = some (.int (i * j)) := by unfold iMul; rw [mulOkL h]; rfl
theorem mulR {i j : Int} (h : j.natAbs < 2 ^ 64) : iMul i j = some (.int (i * j)) := by unfold iMul; rw [mulOkR h]; rfl
theorem powN {i : Int} {j : Nat} (h : i.natAbs < 2 ^ 64) (hj : j ≤ 1000000) : iPow i (j : Int) = some (.int (i ^ j)) := by
  unfold iPow
  rw [if_pos]
  · rw [Int.toNat_natCast]
  · exact decide_eq_true ⟨by omega, by omega, h⟩
theorem pow10_18 : iPow 10 18 = some (.int 1000000000000000000) := rfl
theorem at_ints {ns : List Int} {p : Int} (hp : 0 ≤ p) (hn : ns ≠ []) : ∃ c, atI (ns.map D.int) (p % (ns.length : Int)) = some (.int c) := by
  have h1 : 0 < ns.length := List.length_pos_iff.mpr hn
  have h2 := Int.emod_nonneg p (show (ns.length : Int) ≠ 0 by omega)
  have h3 := Int.emod_lt_of_pos p (show (0 : Int) < ns.length by omega)
  have hi : (p % (ns.length : Int)).toNat < ns.length := by omega
  refine ⟨ns[(p % (ns.length : Int)).toNat], ?_⟩
  unfold atI ixN
  rw [List.length_map, if_pos h2, if_pos h3]
  simp [List.getElem?_map, List.getElem?_eq_getElem hi]
end Pm
namespace Pm
open PySem PySem.Spec PyProof.Rows L2
theorem whl_T {c : M Bool} {b : M Fl} {ρ ρ1 ρ2 : Env} (h : c ρ = .ok true ρ1) (h2 : b ρ1 = .ok .nx ρ2) : whl c b ρ = whl c b ρ2 := by rw [whl_eq, h]; simp only [h2]
theorem whl_C {c : M Bool} {b : M Fl} {ρ ρ1 ρ2 : Env} (h : c ρ = .ok true ρ1) (h2 : b ρ1 = .ok .ct ρ2) : whl c b ρ = whl c b ρ2 := by rw [whl_eq, h]; simp only [h2]
theorem whl_F {c : M Bool} {b : M Fl} {ρ ρ1 : Env} (h : c ρ = .ok false ρ1) : whl c b ρ = .ok .nx ρ1 := by rw [whl_eq, h]
theorem range_get {lo : Int} {n j : Nat} {d : D} (h : (rangeD lo n)[j]? = some d) : j < n ∧ d = .int (lo + (j : Int)) := by
  unfold rangeD at h
  rw [List.getElem?_map] at h
  by_cases hj : j < n
  · rw [List.getElem?_eq_getElem (by simpa using hj)] at h
    simp at h
    exact ⟨hj, h.symm⟩
  · rw [List.getElem?_eq_none (by simpa using Nat.le_of_not_lt hj)] at h
    cases h
theorem range_len {lo : Int} {n : Nat} : (rangeD lo n).length = n := by simp [rangeD]
theorem pen_ok {ns : List Int} (hl : ns.length ≤ 63) : ∃ d, penS [.scr (ns.map D.int)] = .ret d [.scr (ns.map D.int)] ∧ Pen ns 0 d := by
  have e1 : gCut none (some 63) (.node false .scr (ns.map D.int)) = some (.lst true (ns.map D.int)) := by
    have h := HT.sIx_nat (ns.map D.int).length (ns.map D.int).length 63
    have h' : HT.sIx (ns.map D.int).length (ns.map D.int).length (some 63) = (ns.map D.int).length := by
      rw [show ((63 : Nat) : Int) = (63 : Int) from rfl] at h
      rw [h, List.length_map]
      omega
    show (if plainL (ns.map D.int) = true then some (D.lst true (cutD (ns.map D.int) none (some 63))) else none) = _
    rw [if_pos (plain_ints ns)]
    unfold cutD
    rw [h', HT.sIx_none, List.drop_zero, Nat.sub_zero, List.take_length]
  have pl := plain_ints ns
  refine ⟨_, ?_, true, 0, 0, rfl, by omega, by omega, by omega⟩
  simp [penS, mkF, reFrz, rtn, bnd, app, aCons, aNil, loc, con, ret, peek1, peeks, use1, useL, D.plain, argsBack, disp, cap, cut, e1, pl, opList]
theorem Pen.owned {ns : List Int} {a : Int} {d : D} (h : Pen ns a d) : ∃ xs, d = .node true .lst xs := by
  obtain ⟨b, p, q, e, _⟩ := h
  exact ⟨_, e⟩
end Pm
namespace Pm
open PySem PySem.Spec PyProof.Rows L2
structure DK where
  c1 : Int
  c2 : Int
  p1 : Int
  q1 : Int
  r1 : Int
  p2 : Int
  s : Int
  t : Int
  p3 : Int
def DK.ok (k : DK) : Prop := (0 < k.c1 ∧ k.c1 < 4294967296) ∧ (0 < k.c2 ∧ k.c2 < 4294967296) ∧ (0 < k.p1 ∧ k.p1 < 4294967296) ∧ (0 < k.q1 ∧ k.q1 < 1000000) ∧ (0 < k.r1 ∧ k.r1 < 4294967296) ∧ (0 < k.p2 ∧ k.p2 < 4294967296) ∧ (0 < k.s ∧ k.s < 1000000) ∧ (0 < k.t ∧ k.t < 1000000) ∧ 0 < k.p3
/-- what a draw is to a law: a number below the bound, the pen one place further -/
def Draws (S : FSem) : Prop := ∀ (ns : List Int) (d : D) (a m : Int), ns.length ≤ 63 → Pen ns a d → a ≤ 1000000 → 0 < m → divOk m = true → ∃ (r : Int) (d' : D), S [d, .int m] = .ret (.int r) [d', .int m] ∧ 0 ≤ r ∧ r < m ∧ Pen ns (a + 1) d'
def mxA (k : DK) (cell p : Int) : Int := (cell % k.p1 + k.q1 * p + k.r1) ^ 5 % k.p2
theorem mxA_lt {k : DK} (h : k.ok) (cell p : Int) : 0 ≤ mxA k cell p ∧ mxA k cell p < 4294967296 := by
  obtain ⟨_, _, _, _, _, h6, _⟩ := h
  exact ⟨Int.emod_nonneg _ (by omega), Int.lt_trans (Int.emod_lt_of_pos _ h6.1) h6.2⟩
theorem k_pow5 {k : DK} (h : k.ok) {cell p : Int} (hp0 : 0 ≤ p) (hp : p ≤ 1000000) : iPow (cell % k.p1 + k.q1 * p + k.r1) 5 = some (.int ((cell % k.p1 + k.q1 * p + k.r1) ^ 5)) := by
  obtain ⟨_, _, h3, h4, h5, _⟩ := h
  have h1 := Int.emod_nonneg cell (show k.p1 ≠ 0 by omega)
  have h2 := Int.emod_lt_of_pos cell h3.1
  have h6 : k.q1 * p ≤ 1000000 * 1000000 := Int.mul_le_mul (by omega) hp hp0 (by decide)
  have h7 : 0 ≤ k.q1 * p := Int.mul_nonneg (by omega) hp0
  exact powN (j := 5) (by omega) (by decide)
end Pm
namespace Pm
open PySem PySem.Spec PyProof.Rows L2
noncomputable def drawEB (k : DK) : M Fl := (seq (ite (tst (bin (on2I iGt) (idx (aCons (loc 0) (aCons (con (.int 2)) aNil))) (con (.int 0)))) (seq (asg (bin (on2I iMod) (idx (aCons (loc 0) (aCons (con (.int 2)) aNil))) (loc 1)) (gN 2))
    (seq (asg (bin (on2I iDiv) (idx (aCons (loc 0) (aCons (con (.int 2)) aNil))) (loc 1)) (gI 0 (con (.int 2))))
    (rtn (mov 2)))) sNx)
    (seq (asg (idx (aCons (loc 0) (aCons (con (.int 1)) aNil))) (gN 3))
    (seq (asg (bin (on2I iAdd) (loc 3) (con (.int 1))) (gI 0 (con (.int 1))))
    (seq (asg (bin (on2I iAdd) (bin (on2I iMul) (con (.int k.c1)) (loc 3)) (con (.int k.c2))) (gN 4))
    (seq (ite (tst (bin opNe (idx (aCons (loc 0) (aCons (con (.int 0)) aNil))) (disp true .lst aNil))) (asg (idx (aCons (idx (aCons (loc 0) (aCons (con (.int 0)) aNil))) (aCons (bin (on2I iMod) (loc 3) (app opLen (aCons (idx (aCons (loc 0) (aCons (con (.int 0)) aNil))) aNil))) aNil))) (gN 4)) sNx)
    (seq (ite (andT (tst (bin (on2I iLt) (loc 3) (app opLen (aCons (idx (aCons (loc 0) (aCons (con (.int 0)) aNil))) aNil)))) (tst (bin (on2I iGe) (app opAbs (aCons (loc 4) aNil)) (bin (on2I iPow) (con (.int 10)) (con (.int 18)))))) (seq (asg (bin (on2I iAdd) (bin (on2I iMul) (con (.int 2)) (bin (on2I iSub) (app opAbs (aCons (loc 4) aNil)) (bin (on2I iPow) (con (.int 10)) (con (.int 18))))) (app opInt1 (aCons (bin (on2I iLt) (loc 4) (con (.int 0))) aNil))) (gN 5))
    (seq (asg (bin (on2I iDiv) (loc 5) (loc 1)) (gI 0 (con (.int 2))))
    (rtn (bin (on2I iMod) (loc 5) (loc 1))))) sNx)
    (seq (asg (bin (on2I iMod) (bin (on2I iPow) (bin (on2I iAdd) (bin (on2I iAdd) (bin (on2I iMod) (loc 4) (con (.int k.p1))) (bin (on2I iMul) (con (.int k.q1)) (loc 3))) (con (.int k.r1))) (con (.int 5))) (con (.int k.p2))) (gN 6))
    (seq (asg (bin (on2I iMod) (bin (on2I iPow) (bin (on2I iAdd) (bin (on2I iAdd) (bin (on2I iMul) (loc 6) (bin (on2I iAdd) (bin (on2I iMul) (con (.int 2)) (loc 3)) (con (.int k.s)))) (bin (on2I iMul) (bin (on2I iMul) (con (.int k.t)) (loc 3)) (loc 3))) (con (.int 7))) (con (.int 3))) (con (.int k.p3))) (gN 6))
    (rtn (bin (on2I iMod) (bin (on2I iDiv) (loc 6) (con (.int 32))) (loc 1)))))))))))
noncomputable def drawE (k : DK) : FSem := mkF 2 7 [] (drawEB k)
def mvE (k : DK) (cell p : Int) : Int := (mxA k cell p * (2 * p + k.s) + k.t * p * p + 7) ^ 3 % k.p3
theorem pw3E {k : DK} (h : k.ok) {cell p : Int} (hp0 : 0 ≤ p) (hp : p ≤ 1000000) : iPow (mxA k cell p * (2 * p + k.s) + k.t * p * p + 7) 3 = some (.int ((mxA k cell p * (2 * p + k.s) + k.t * p * p + 7) ^ 3)) := by
  obtain ⟨h1, h2⟩ := mxA_lt h cell p
  obtain ⟨_, _, _, _, _, _, h7, h8, _⟩ := h
  have h3 : mxA k cell p * (2 * p + k.s) ≤ 4294967296 * 3000000 := Int.mul_le_mul (by omega) (by omega) (by omega) (by decide)
  have h4 : 0 ≤ mxA k cell p * (2 * p + k.s) := Int.mul_nonneg h1 (by omega)
  have h5 : k.t * p ≤ 1000000 * 1000000 := Int.mul_le_mul (by omega) hp hp0 (by decide)
  have h6 : 0 ≤ k.t * p := Int.mul_nonneg (by omega) hp0
  have h9 : k.t * p * p ≤ 1000000 * 1000000 * 1000000 := Int.mul_le_mul h5 hp hp0 (by decide)
  have h10 : 0 ≤ k.t * p * p := Int.mul_nonneg h6 hp0
  exact powN (j := 3) (by omega) (by decide)
theorem drawE_left {k : DK} {c : D} {p left m : Int} (h0 : 0 < left) (hm : 0 < m) (hd : divOk m = true) : drawE k [.node true .lst [c, .int p, .int left], .int m] = .ret (.int (left % m)) [.node true .lst [c, .int p, .int (left / m)], .int m] := by
  simp [drawE, drawEB, mkF, reFrz, seq, Pm.ite, rtn, mov, asg, bnd, Pm.bin, app, aCons, aNil, idx, loc, con, Pm.ret, peek1, peeks, itemOf, on2I, iGt, iDiv, iMod, use1, gI, gN, tst, ixN, D.plain, plainL, argsBack, plainL, hm, hd, h0]
theorem drawE_small {k : DK} (hk : k.ok) {ns : List Int} {c : Int} {b : Bool} {p left m : Int} (h0 : ¬ 0 < left) (hm : 0 < m) (hd : divOk m = true) (hp : 0 ≤ p) (hp2 : p ≤ 1000000) (hl : ns.length ≤ 63) (hc : (ns = [] ∧ c = k.c1 * p + k.c2) ∨ (ns ≠ [] ∧ atI (ns.map D.int) (p % (ns.length : Int)) = some (.int c)))
    (hs : ¬ (p < (ns.length : Int) ∧ 1000000000000000000 ≤ (if c < 0 then -c else c))) :
    drawE k [.node true .lst [.node b .lst (ns.map D.int), .int p, .int left], .int m] = .ret (.int (mvE k c p / 32 % m)) [.node true .lst [.node false .lst (ns.map D.int), .int (p + 1), .int left], .int m] := by
  have e1 := k_pow5 hk (cell := c) hp hp2
  have e2 := pw3E hk (cell := c) hp hp2
  obtain ⟨x1, x2⟩ := mxA_lt hk c p
  obtain ⟨h1, h2, h3, h4, h5, h6, h7, h8, h9⟩ := hk
  have e3 : iMul k.c1 p = some (.int (k.c1 * p)) := mulL (by omega)
  have e4 : iMul k.q1 p = some (.int (k.q1 * p)) := mulL (by omega)
  have e5 : iMul 2 p = some (.int (2 * p)) := mulL (by decide)
  have e9 : iMul k.t p = some (.int (k.t * p)) := mulL (by omega)
  have e10 : iMul (k.t * p) p = some (.int (k.t * p * p)) := mulR (by omega)
  have e6 : iMul (mxA k c p) (2 * p + k.s) = some (.int (mxA k c p * (2 * p + k.s))) := mulR (by omega)
  have e8 : divOk 32 = true := by decide
  have y1 := h3.1
  have y2 := h6.1
  have pl := plain_ints ns
  have fz := frz_ints ns
  simp only [mxA] at e2 e6
  rcases hc with ⟨rfl, rfl⟩ | ⟨hn, hc⟩
  · have z1 : ¬ p < 0 := by omega
    have e7 : opNe [.node false .lst [], .node true .lst []] = some (.bl false) := rfl
    cases b <;> simp [drawE, drawEB, mkF, reFrz, seq, Pm.ite, rtn, mov, asg, drp, sNx, bnd, Pm.bin, Pm.un, app, aCons, aNil, idx, loc, con, Pm.ret, peek1, peeks, itemOf, on2I, iAdd, iSub, iGt, iGe, iLt, iLe, iDiv, iMod, use1, useL, gI, gN, tst, andT, orT, notT, ixN, D.frz, D.plain, plainL, argsBack, opLen, disp, cap, frzL, plainL, hm, h0, e1, e2, e3, e4, e5, e6, e7, e8, e9, e10, y1, y2, h9, z1, frzL, mvE, mxA]
  · have e7 : opNe [.node false .lst (ns.map D.int), .node true .lst []] = some (.bl true) := by rw [neNil, decide_eq_true hn]
    have z1 : 0 < ns.length := List.length_pos_iff.mpr hn
    have z2 : ns.length ≤ 1000000 := by omega
    by_cases q : p < (ns.length : Int)
    · have q2 : ¬ 1000000000000000000 ≤ (if c < 0 then -c else c) := fun z => hs ⟨q, z⟩
      cases b <;> simp [drawE, drawEB, mkF, reFrz, seq, Pm.ite, rtn, asg, sNx, bnd, Pm.bin, app, aCons, aNil, idx, loc, con, Pm.ret, peek1, peeks, itemOf, on2I, iAdd, iGt, iGe, iLt, iDiv, iMod, use1, useL, gI, gN, tst, andT, ixN, D.frz, D.plain, plainL, argsBack, opLen, opAbs, disp, cap, plainL, hm, h0, e1, e2, e3, e4, e5, e6, e7, e8, e9, e10, y1, y2, h9, z1, pl, fz, hc, q, q2, mvE, mxA, pow10_18]
    · cases b <;> simp [drawE, drawEB, mkF, reFrz, seq, Pm.ite, rtn, asg, sNx, bnd, Pm.bin, app, aCons, aNil, idx, loc, con, Pm.ret, peek1, peeks, itemOf, on2I, iAdd, iGt, iLt, iDiv, iMod, use1, useL, gI, gN, tst, andT, ixN, D.frz, D.plain, plainL, argsBack, opLen, disp, cap, plainL, hm, h0, e1, e2, e3, e4, e5, e6, e7, e8, e9, e10, y1, y2, h9, z1, pl, fz, hc, q, mvE, mxA]
theorem drawE_great {k : DK} (hk : k.ok) {ns : List Int} {c : Int} {b : Bool} {p left m : Int} (h0 : ¬ 0 < left) (hm : 0 < m) (hd : divOk m = true) (hn : ns ≠ []) (hl : ns.length ≤ 63) (hp0 : 0 ≤ p) (hp2 : p ≤ 1000000) (hc : atI (ns.map D.int) (p % (ns.length : Int)) = some (.int c))
    (q : p < (ns.length : Int)) (q2 : 1000000000000000000 ≤ (if c < 0 then -c else c)) :
    ∃ g : Int, 0 ≤ g ∧ drawE k [.node true .lst [.node b .lst (ns.map D.int), .int p, .int left], .int m] = .ret (.int (g % m)) [.node true .lst [.node false .lst (ns.map D.int), .int (p + 1), .int (g / m)], .int m] := by
  obtain ⟨h1, h2, h3, h4, h5, h6, h7, h8, h9⟩ := hk
  have e3 : iMul k.c1 p = some (.int (k.c1 * p)) := mulL (by omega)
  have e7 : opNe [.node false .lst (ns.map D.int), .node true .lst []] = some (.bl true) := by rw [neNil, decide_eq_true hn]
  have z1 : 0 < ns.length := List.length_pos_iff.mpr hn
  have z2 : ns.length ≤ 1000000 := by omega
  have pl := plain_ints ns
  have fz := frz_ints ns
  refine ⟨2 * ((if c < 0 then -c else c) - 1000000000000000000) + (if c < 0 then 1 else 0), by split at q2 <;> split <;> omega, ?_⟩
  have e4 : iMul 2 ((if c < 0 then -c else c) - 1000000000000000000) = some (.int (2 * ((if c < 0 then -c else c) - 1000000000000000000))) := mulL (by decide)
  by_cases hc0 : c < 0
  · rw [if_pos hc0] at q2 e4
    cases b <;> simp [drawE, drawEB, mkF, reFrz, seq, Pm.ite, rtn, asg, sNx, bnd, Pm.bin, app, aCons, aNil, idx, loc, con, Pm.ret, peek1, peeks, itemOf, on2I, iAdd, iSub, iGt, iGe, iLt, iDiv, iMod, use1, useL, gI, gN, tst, andT, ixN, D.frz, D.plain, plainL, argsBack, opLen, opAbs, opInt1, disp, cap, plainL, hm, hd, h0, e3, e4, e7, z1, pl, fz, hc, q, q2, hc0, pow10_18]
  · rw [if_neg hc0] at q2 e4
    cases b <;> simp [drawE, drawEB, mkF, reFrz, seq, Pm.ite, rtn, asg, sNx, bnd, Pm.bin, app, aCons, aNil, idx, loc, con, Pm.ret, peek1, peeks, itemOf, on2I, iAdd, iSub, iGt, iGe, iLt, iDiv, iMod, use1, useL, gI, gN, tst, andT, ixN, D.frz, D.plain, plainL, argsBack, opLen, opAbs, opInt1, disp, cap, plainL, hm, hd, h0, e3, e4, e7, z1, pl, fz, hc, q, q2, hc0, pow10_18]
theorem drawsE (k : DK) (hk : k.ok) : Draws (drawE k) := by
  intro ns d a m hl h ha hm hd
  obtain ⟨b, p, left, rfl, hp, hpa, hl0⟩ := h
  have rng : ∀ x : Int, 0 ≤ x % m ∧ x % m < m := fun x => ⟨Int.emod_nonneg x (by omega), Int.emod_lt_of_pos x hm⟩
  by_cases h0 : 0 < left
  · exact ⟨_, _, drawE_left h0 hm hd, (rng _).1, (rng _).2, b, _, _, rfl, by omega, by omega, Int.ediv_nonneg hl0 (by omega)⟩
  · by_cases hn : ns = []
    · subst hn
      refine ⟨_, _, drawE_small hk (c := k.c1 * p + k.c2) h0 hm hd hp (by omega) hl (.inl ⟨rfl, rfl⟩) (fun z => ?_), (rng _).1, (rng _).2, false, _, _, rfl, by omega, by omega, hl0⟩
      have z1 := z.1
      rw [List.length_nil] at z1
      omega
    · obtain ⟨c, hc⟩ := at_ints hp hn
      by_cases hs : p < (ns.length : Int) ∧ 1000000000000000000 ≤ (if c < 0 then -c else c)
      · obtain ⟨g, hg, e⟩ := drawE_great hk (b := b) h0 hm hd hn hl hp (by omega) hc hs.1 hs.2
        exact ⟨_, _, e, (rng _).1, (rng _).2, false, _, _, rfl, by omega, by omega, Int.ediv_nonneg hg (by omega)⟩
      · exact ⟨_, _, drawE_small hk h0 hm hd hp (by omega) hl (.inr ⟨hn, hc⟩) hs, (rng _).1, (rng _).2, false, _, _, rfl, by omega, by omega, hl0⟩
end Pm
set_option maxHeartbeats 2000000
namespace Pm
open PySem PySem.Spec PyProof.Rows L2
end Pm
namespace Pm
open PySem PySem.Spec PyProof.Rows L2
section
variable {K : PySem.W.Frag} {mg : Str → Option Value} {W : WX} {Z H : Hp} {S : Fp} {σ : Sl} {X : Cx} {A : Nat → Bool}
/-- what stands within a clause: the slots and what was made so far -/
abbrev In := Env → List D → Res (List D)
variable {elt tg0 i0 tg1 i1 tg2 i2 : Expr} {ifs0 ifs1 ifs2 : List Expr} {scope : Scope} {own : List (Str × Nat)} {vs1 vs2 : List Nat} {pos : Pos} {s0 s1 s2 : M (List D)} {g0 g1 g2 : Tg} {c0 c1 c2 : M Bool} {e : M EV}
end
end Pm
namespace Pm
open PySem PySem.Spec PyProof.Rows L2
section
variable {K : PySem.W.Frag} {mg : Str → Option Value} {W : WX} {Z H : Hp} {S : Fp} {σ : Sl} {X : Cx}
def strRep (x : Str) (n : Int) : Str := if n < 1 then Str.empty else if (n == 1 || x.length == 0) = true then x else ⟨(List.replicate n.toNat x.cps).foldl (· ++ ·) #[]⟩
theorem op_repS : OpR X (binaryOp .Mult) (fun x y H Q => ∃ a k, x = .str a ∧ y = .int k ∧ k ≤ 1000000 ∧ -1000000 ≤ k ∧ a.length * k.toNat ≤ sizeLine ∧ Q (.str (strRep a k)) H) := by
  intro pins s σ H x y v u Q I rx ry h
  obtain ⟨a, k, rfl, rfl, h1, h2, hz, q⟩ := h
  obtain ⟨t, rfl⟩ := rx
  obtain ⟨t', rfl⟩ := ry
  refine PySem.P.mul_str (by
    rw [decide_eq_false (show ¬ k < -(2 ^ 63 : Int) by omega), decide_eq_false (show ¬ k ≥ 2 ^ 63 by omega)]; rfl) (fun h3 _ => ?_) (fun h3 _ => ?_) ?_
  · have e : (a.length : Int) ≤ (2 ^ 63 - 1) / k := by
      rw [Int.le_ediv_iff_mul_le (by omega)]
      have e2 : ((a.length * k.toNat : Nat) : Int) = (a.length : Int) * k := by rw [Int.natCast_mul, Int.toNat_of_nonneg (by omega)]
      have e3 : a.length * k.toNat ≤ 2 ^ 63 - 1 := Nat.le_trans hz (by rw [sizeLine_eq]; decide)
      omega
    omega
  · exact decide_eq_false (Nat.not_lt.mpr hz)
  · unfold strRep at q
    split
    · rename_i c
      rw [if_pos c] at q
      exact ⟨by decide, ⟨.str _, H, I.tok _, ⟨_, rfl⟩, q⟩⟩
    · rename_i c
      rw [if_neg c] at q
      split
      · rename_i c2
        rw [if_pos c2] at q
        exact ⟨.str _, H, I, ⟨_, rfl⟩, q⟩
      · rename_i c2
        rw [if_neg c2] at q
        exact ⟨fits_reps (decide_eq_false (Nat.not_lt.mpr hz)), ⟨.str _, H, I.tok _, ⟨_, rfl⟩, q⟩⟩
def gAddS : List D → Option D
  | [.str a, .str b] => if a.length + b.length ≤ cap then some (.str (a ++ b)) else none
  | _ => none
def gMulS : List D → Option D
  | [.str a, .int k] => if k ≤ 1000000 ∧ -1000000 ≤ k ∧ a.length * k.toNat ≤ cap then some (.str (strRep a k)) else none
  | _ => none
theorem opd_addS : Opd X (binaryOp .Add) gAddS := by
  refine ⟨_, op_add_str, snd_pure fun Z H S ds vs d Q w rb e k => ?_⟩
  unfold gAddS at e
  split at e
  · split at e
    · rename_i a b c
      obtain ⟨v, u, rfl, rv, ru⟩ := rb2 rb
      obtain rfl : v = .str a := rv
      obtain rfl : u = .str b := ru
      cases e
      exact ⟨_, _, rfl, a, b, rfl, rfl, cap_le c, k _ rfl⟩
    · cases e
  · cases e
theorem opd_mulS : Opd X (binaryOp .Mult) gMulS := by
  refine ⟨_, op_repS, snd_pure fun Z H S ds vs d Q w rb e k => ?_⟩
  unfold gMulS at e
  split at e
  · split at e
    · rename_i a b c
      obtain ⟨v, u, rfl, rv, ru⟩ := rb2 rb
      obtain rfl : v = .str a := rv
      obtain rfl : u = .int b := ru
      cases e
      exact ⟨_, _, rfl, a, b, rfl, rfl, c.1, c.2.1, cap_le c.2.2, k _ rfl⟩
    · cases e
  · cases e
def gAdd : List D → Option D
  | [.str a, .str b] => gAddS [.str a, .str b]
  | ds => on2I iAdd ds
def gMul : List D → Option D
  | [.str a, .int k] => gMulS [.str a, .int k]
  | ds => on2I iMul ds
theorem opd_gAdd : Opd X (binaryOp .Add) gAdd := Opd.or opd_addS opd_addI fun ds d h => by
  unfold gAdd at h
  split at h
  · exact .inl h
  · exact .inr h
theorem opd_gMul : Opd X (binaryOp .Mult) gMul := Opd.or opd_mulS opd_mulI fun ds d h => by
  unfold gMul at h
  split at h
  · exact .inl h
  · exact .inr h
def opInt : List D → Option D
  | [.str a] => if a.length ≤ 640 then (PySem.intText? a).map D.int else none
  | ds => opInt1 ds
end
end Pm
namespace Pm
open PySem PySem.Spec PyProof.Rows L2
section
variable {K : PySem.W.Frag} {mg : Str → Option Value} {W : WX} {Z Z' H H' : Hp} {S S' : Fp} {σ : Sl} {X : Cx} {a b c e : Expr} {pos : Pos} {fa fb fc : M EV}
def chI (p q : Int → Int → Bool) (fa fb fc : M EV) : M EV := bnd fa fun ea => bnd fb fun eb => fun ρ => match peek1 ρ ea, peek1 ρ eb with
  | some (.int i), some (.int j) => if p i j = true then (bnd fc fun ec => fun ρ' => match peek1 ρ' ec with
      | some (.int l) => .ok (.val (.bl (q j l))) ρ'
      | _ => .stuck) ρ else .ok (.val (.bl false)) ρ
  | _, _ => .stuck
theorem int_of {ev : EV} {v : V} {i : Int} {ρ : Env} (h : peek1 ρ ev = some (.int i)) (r : EVR K Z H σ ev v S) (er : EnvR K Z' H' ρ σ S') : v = .int i := by
  cases ev with
  | val d =>
    have e : d = .int i := Option.some.inj h
    subst e
    exact r
  | ref j => exact peek1_rep (Z := Z') (H := H') (Sa := Fp0) (e := .ref j) er r h
theorem tE_chI {p q : Int → Int → Bool} {Q : VK} (h : tE K mg W (chI p q fa fb fc) σ H Q) : tChain (rI0 fun i j => .bl (p i j)) (rI0 fun i j => .bl (q i j)) (tE K mg W fa) (tE K mg W fb) (tE K mg W fc) σ H Q := by
  obtain ⟨Z, ρ, S, w, er, o⟩ := h
  refine ⟨Z, ρ, S, w, er, ?_⟩
  simp only [chI, bnd] at o
  cases e1 : fa ρ with
  | stuck => rw [e1] at o; exact o
  | exc x ρ1 => rw [e1] at o; exact o
  | ok ea ρ1 =>
    rw [e1] at o
    intro x Z1 H1 S1 Sa st1 dj1 er1 r1
    have t1 := st1.less (S2 := S1) fun a x => .inl x
    refine ⟨Z1, ρ1, S1, t1.wd, er1, ?_⟩
    have o1 := OutE.after (K := K) (mg := mg) (W := W) (σ := σ) (Q := Q) t1 o
    cases e2 : fb ρ1 with
    | stuck => simp only [e2] at o1; exact o1
    | exc x ρ2 => simp only [e2] at o1; exact o1
    | ok eb ρ2 =>
      simp only [e2] at o1
      intro y Z2 H2 S2 Sb st2 dj2 er2 r2
      have t2 := st2.less (S2 := S2) fun a x => .inl x
      have o2 := OutE.after (K := K) (mg := mg) (W := W) (σ := σ) (Q := Q) t2 o1
      split at o2
      · rename_i i j h1 h2
        have ex := int_of h1 r1 er2
        have ey := int_of h2 r2 er2
        refine ⟨i, j, ex, ey, p i j, rfl, ?_⟩
        cases hp : p i j with
        | false =>
          rw [hp] at o2
          exact o2 (.bl false) Z2 H2 S2 Fp0 t2.wd.nil (fun _ _ x => x) er2 rfl
        | true =>
          rw [hp] at o2
          simp only [if_true] at o2 ⊢
          refine ⟨Z2, ρ2, S2, t2.wd, er2, ?_⟩
          cases e3 : fc ρ2 with
          | stuck => simp only [e3] at o2; exact o2
          | exc x ρ3 => simp only [e3] at o2; exact o2
          | ok ec ρ3 =>
            simp only [e3] at o2
            intro z Z3 H3 S3 Sc st3 dj3 er3 r3
            have t3 := st3.less (S2 := S3) fun a x => .inl x
            have o3 := OutE.after (K := K) (mg := mg) (W := W) (σ := σ) (Q := Q) t3 o2
            split at o3
            · rename_i l h3
              exact ⟨j, l, ey, int_of h3 r3 er3, o3 (.bl (q j l)) Z3 H3 S3 Fp0 t3.wd.nil (fun _ _ x => x) er3 rfl⟩
            · exact o3.elim
      · exact o2.elim
theorem E_ch {op op' : CmpOp} {p q : Int → Int → Bool} (h1 : OpR X (compareOp op) (rI0 fun i j => .bl (p i j))) (h2 : OpR X (compareOp op') (rI0 fun i j => .bl (q i j))) (ha : PE X a (tE X.K X.mg W fa)) (hb : PE X b (tE X.K X.mg W fb)) (hc : PE X c (tE X.K X.mg W fc))
    (hm : lastMarks [op, op'] [b, c] = false := by with_unfolding_all rfl) : PE X (.Compare a [op, op'] [b, c] pos) (tE X.K X.mg W (chI p q fa fb fc)) := PE.of (pe_chain h1 h2 ha hb hc hm) fun _ _ _ q => tE_chI q
def cLe (i j : Int) : Bool := decide (i ≤ j)
theorem oc_le : OpR X (compareOp .LtE) (rI0 fun i j => .bl (cLe i j)) := op_le
def subS (i j : Str) : Bool := !(Builtin.Str.occurrences j i 0 j.length 1).isEmpty
def opInS : List D → Option D
  | [.str i, .str j] => some (.bl (subS i j))
  | _ => none
end
end Pm
namespace Pm
open PySem PySem.Spec PyProof.Rows L2
section
variable {K : PySem.W.Frag} {mg : Str → Option Value} {W : WX} {Z Z' H H' : Hp} {S S' : Fp} {σ : Sl} {X : Cx} {a b c e : Expr} {pos : Pos} {fa fb fc : M EV}
theorem RepL.joinP : ∀ {ds es : List D} {vs ws : List V}, RepL K Z H ds vs Fp0 → RepL K Z H es ws Fp0 → RepL K Z H (ds ++ es) (vs ++ ws) Fp0 := fun {ds es vs ws} h1 h2 => RepL.append h1 h2 (fun _ x => x) (fun _ x => x) fun _ x _ => x
def opCatL : List D → Option D
  | [.node _ .lst xs, .node _ .lst ys] => if plainL xs = true ∧ plainL ys = true ∧ xs.length + ys.length ≤ cap then some (.lst true (xs ++ ys)) else none
  | _ => none
theorem opd_catL : Opd X (binaryOp .Add) opCatL := by
  refine ⟨_, op_cat, fun Z H S ds vs d Q w rb e k => ?_⟩
  unfold opCatL at e
  split at e
  · split at e
    · rename_i hp
      obtain ⟨v, u, rfl, rv, ru⟩ := rb2 rb
      obtain ⟨a, ys, rfl, c, rl⟩ := rep_lst w.same rv
      obtain ⟨a', ys', rfl, c', rl'⟩ := rep_lst w.same ru
      cases e
      refine ⟨_, _, rfl, a, a', ys, ys', rfl, rfl, c, c', by rw [← rl.length, ← rl'.length]; exact cap_le hp.2.2, fun p np => ?_⟩
      obtain ⟨f1, f2, f3, f4⟩ := fresh_lst w np ((rl.plain hp.1).joinP (rl'.plain hp.2.1))
      exact k _ _ _ _ f1 f2 f3 f4
    · cases e
  · cases e
def opCatT : List D → Option D
  | [.node _ .tup xs, .node _ .tup ys] => if plainL xs = true ∧ plainL ys = true ∧ xs.length + ys.length ≤ cap then some (.tup (xs ++ ys)) else none
  | _ => none
theorem opd_catT : Opd X (binaryOp .Add) opCatT := by
  refine ⟨_, op_catA, fun Z H S ds vs d Q w rb e k => ?_⟩
  unfold opCatT at e
  split at e
  · split at e
    · rename_i o1 xs o2 zs hp
      obtain ⟨v, u, rfl, rv, ru⟩ := rb2 rb
      have rv0 : Rep X.K Z H (.tup xs) v Fp0 := Rep.plain (rep_wk rv) (by simp [D.plain, hp.1])
      have ru0 : Rep X.K Z H (.tup zs) u Fp0 := Rep.plain (rep_wk ru) (by simp [D.plain, hp.2.1])
      obtain ⟨a, ys, rfl, c, rl⟩ := rep_tup w.same rv0
      obtain ⟨a', ys', rfl, c', rl'⟩ := rep_tup w.same ru0
      cases e
      have l1 := rl.length
      have l2 := rl'.length
      refine ⟨_, _, rfl, a, a', ys, ys', rfl, rfl, c, c', by rw [← l1, ← l2]; exact cap_le hp.2.2, fun h => ?_, fun _ h => ?_, fun _ _ p np => ?_⟩
      · have ex : xs = [] := List.length_eq_zero_iff.mp (by rw [l1, h]; rfl)
        rw [ex, List.nil_append] at k
        exact k _ _ _ Fp0 w.nil (Same.refl H) (fun _ _ x => x) ru0
      · have ex : zs = [] := List.length_eq_zero_iff.mp (by rw [l2, h]; rfl)
        rw [ex, List.append_nil] at k
        exact k _ _ _ Fp0 w.nil (Same.refl H) (fun _ _ x => x) rv0
      · obtain ⟨f1, f2, f3⟩ := fresh_tup w np ((rl.plain hp.1).joinP (rl'.plain hp.2.1))
        exact k _ _ _ _ f1 f2 (fun _ _ x => x) f3
    · cases e
  · cases e
/-- everything that is added -/
def hAdd : List D → Option D
  | [.str a, .str b] => gAddS [.str a, .str b]
  | [.node p .lst xs, .node q .lst ys] => opCatL [.node p .lst xs, .node q .lst ys]
  | [.node p .tup xs, .node q .tup ys] => opCatT [.node p .tup xs, .node q .tup ys]
  | ds => on2I iAdd ds
theorem opd_hAdd : Opd X (binaryOp .Add) hAdd := by
  refine Opd.or (g1 := gAdd) (g2 := fun ds => match opCatL ds with | some d => some d | none => opCatT ds) opd_gAdd (Opd.or opd_catL opd_catT fun ds d h => ?_) fun ds d h => ?_
  · cases e : opCatL ds with
    | some d' => simp only [e] at h; exact .inl h
    | none => simp only [e] at h; exact .inr h
  · unfold hAdd at h
    split at h
    · exact .inl h
    · exact .inr (by simp only [h])
    · exact .inr (by
        rename_i p xs q ys
        have e : opCatL [D.node p .tup xs, .node q .tup ys] = none := rfl
        simp only [e]
        exact h)
    · refine .inl ?_
      unfold gAdd
      split
      · rename_i n1 _ _
        exact absurd rfl (n1 _ _)
      · exact h
def flt : D → Option V
  | .non => some .non
  | .bl b => some (.bl b)
  | .int i => some (.int i)
  | .str x => some (.str x)
  | _ => none
def fltL : List D → Option (List V)
  | [] => some []
  | d :: ds => match flt d, fltL ds with
    | some v, some vs => some (v :: vs)
    | _, _ => none
def opInQ (neg : Bool) : List D → Option D
  | [x, .node _ .lst xs] => match flt x, fltL xs with
    | some v, some vs => some (.bl (if neg then !inV v vs else inV v vs))
    | _, _ => none
  | [x, .node _ .tup xs] => match flt x, fltL xs with
    | some v, some vs => some (.bl (if neg then !inV v vs else inV v vs))
    | _, _ => none
  | _ => none
def opIn : List D → Option D
  | [.str i, .str j] => opInS [.str i, .str j]
  | ds => opInQ false ds
end
end Pm
namespace Pm
open PySem PySem.Spec PyProof.Rows L2
section
variable {K : PySem.W.Frag} {mg : Str → Option Value} {W : WX} {Z Z' H H' : Hp} {S S' : Fp} {σ : Sl} {X : Cx} {a b c e o : Expr} {pos : Pos} {fa fb fc : M EV}
def smet1 (g : List D → Option D) (f fe : M EV) : M EV := bnd f fun e1 => fun ρ => match peek1 ρ e1 with
  | some (.str a) => (bnd fe fun e2 => fun ρ' => match peek1 ρ' e2 with
    | some d => match g [.str a, d] with
      | some d' => .ok (.val d') ρ'
      | none => .stuck
    | none => .stuck) ρ
  | _ => .stuck
theorem str_of {ev : EV} {v : V} {x : Str} {ρ : Env} (h : peek1 ρ ev = some (.str x)) (r : EVR K Z H σ ev v S) (er : EnvR K Z' H' ρ σ S') : v = .str x := by
  cases ev with
  | val d =>
    have e : d = .str x := Option.some.inj h
    subst e
    exact r
  | ref j => exact peek1_rep (Z := Z') (H := H') (Sa := Fp0) (e := .ref j) er r h
theorem tE_smet1 {g : List D → Option D} {r : V → List V → Hp → VK → Prop} {Q : VK} (hs : Snd X (fun vs H Q => ∃ x y, vs = [x, y] ∧ r x [y] H Q) g) (h : tE X.K X.mg W (smet1 g fa fb) σ H Q) : tM1 r (tE X.K X.mg W fa) (tE X.K X.mg W fb) σ H Q := by
  obtain ⟨Z, ρ, S, w, er, o⟩ := h
  refine ⟨Z, ρ, S, w, er, ?_⟩
  simp only [smet1, bnd] at o
  cases e1 : fa ρ with
  | stuck => rw [e1] at o; exact o
  | exc x ρ1 => rw [e1] at o; exact o
  | ok ea ρ1 =>
    rw [e1] at o
    intro x Z1 H1 S1 Sa st1 dj1 er1 r1
    have t1 := st1.less (S2 := S1) fun a x => .inl x
    simp only at o
    have o1 := OutE.after (K := X.K) (mg := X.mg) (W := W) (σ := σ) (Q := Q) t1 o
    split at o1
    · rename_i z hz
      have ex := str_of hz r1 er1
      subst ex
      refine ⟨⟨z, rfl⟩, Z1, ρ1, S1, t1.wd, er1, ?_⟩
      cases e2 : fb ρ1 with
      | stuck => simp only [e2] at o1; exact o1
      | exc x ρ2 => simp only [e2] at o1; exact o1
      | ok eb ρ2 =>
        simp only [e2] at o1
        intro y Z2 H2 S2 Sb st2 dj2 er2 r2
        have o2 := OutE.after (K := X.K) (mg := X.mg) (W := W) (σ := σ) (Q := Q) st2 o1
        split at o2
        · rename_i d hd
          split at o2
          · rename_i d' hg
            obtain ⟨x', y', hx, q⟩ := hs Z2 H2 _ [.str z, d] [.str z, y] d' Q st2.wd ⟨rfl, peek1_rep er2 r2 hd, trivial⟩ hg fun v Z3 H3 Sd st3 sm dj3 rd =>
              o2 v Z3 H3 S2 Sd (st3.less fun a x => x.elim (fun y => .inl (.inl y)) .inr) (fun a x y => dj3 a (.inl x) y) (er2.move st3.zz (fun a ob _ e => sm a ob e) fun _ x => x) rd
            cases hx
            exact q
          · exact o2.elim
        · exact o2.elim
    · exact o1.elim
def strsD : List D → Option (List Str)
  | [] => some []
  | .str x :: ds => (strsD ds).map (x :: ·)
  | _ => none
theorem strsD_map : ∀ xs : List Str, strsD (xs.map D.str) = some xs
  | [] => rfl
  | x :: xs => by rw [List.map_cons, strsD, strsD_map xs]; rfl
theorem strsD_inv : ∀ {ds : List D} {xs : List Str}, strsD ds = some xs → ds = xs.map D.str
  | [], xs, h => by
    simp only [strsD, Option.some.injEq] at h
    subst h
    rfl
  | d :: ds, xs, h => by
    cases d with
    | str x =>
      simp only [strsD, Option.map_eq_some_iff] at h
      obtain ⟨ys, h1, rfl⟩ := h
      rw [strsD_inv h1]
      rfl
    | _ => simp [strsD] at h
theorem reps_strs : ∀ {xs : List Str} {vs : List V} {S : Fp}, RepL K Z H (xs.map D.str) vs S → vs = xs.map V.str
  | [], [], _, _ => rfl
  | [], _ :: _, _, h => h.elim
  | _ :: _, [], _, h => h.elim
  | x :: xs, v :: vs, S, ⟨_, _, _, _, _, r, q⟩ => by
    have e : v = .str x := r
    rw [e, reps_strs q]
    rfl
def opJoin : List D → Option D
  | [.str a, .node _ .lst xs] => match strsD xs with
    | some ys => if (ys.map (·.length)).sum + ys.length * a.length ≤ cap then some (.str (Txt.join a ys)) else none
    | none => none
  | [.str a, .node _ .tup xs] => match strsD xs with
    | some ys => if (ys.map (·.length)).sum + ys.length * a.length ≤ cap then some (.str (Txt.join a ys)) else none
    | none => none
  | _ => none
def rJoin (K : PySem.W.Frag) : V → List V → Hp → VK → Prop := fun x xs H Q => ∃ a p, ∃ ys : List Str, x = .str a ∧ xs = [.ref p] ∧ (SqL K H p (ys.map V.str) ∨ SqT K H p (ys.map V.str)) ∧ (ys.map (·.length)).sum + ys.length * a.length ≤ 16777216 ∧ Q (.str (Txt.join a ys)) H
theorem snd_join : Snd X (fun vs H Q => ∃ x y, vs = [x, y] ∧ rJoin X.K x [y] H Q) opJoin := by
  refine snd_pure fun Z H S ds vs d Q w rb e k => ?_
  unfold opJoin at e
  split at e
  · split at e
    · rename_i ys hy
      split at e
      · rename_i hl
        obtain ⟨v, u, rfl, rv, ru⟩ := rb2 rb
        obtain ⟨p, zs, rfl, c, rl⟩ := rep_lst w.same ru
        rw [strsD_inv hy] at rl
        have ez := reps_strs rl
        subst ez
        cases e
        exact ⟨_, _, rfl, _, p, ys, rv, rfl, .inl (SqL.of c), Nat.le_trans hl (by decide), k _ rfl⟩
      · cases e
    · cases e
  · split at e
    · rename_i ys hy
      split at e
      · rename_i hl
        obtain ⟨v, u, rfl, rv, ru⟩ := rb2 rb
        obtain ⟨p, zs, rfl, c, rl⟩ := rep_tup w.same ru
        rw [strsD_inv hy] at rl
        have ez := reps_strs rl
        subst ez
        cases e
        exact ⟨_, _, rfl, _, p, ys, rv, rfl, .inr c, Nat.le_trans hl (by decide), k _ rfl⟩
      · cases e
    · cases e
  · cases e
theorem E_join {apos : Pos} (ho : PE X o (tE X.K X.mg W fa)) (he : PE X e (tE X.K X.mg W fb)) (hs : starEach [e] X.env = [(false, eval e X.env)] := by rfl) (hbase : attributeBase o "join" X.env (eval o X.env) = eval o X.env := by rfl) (hline : (apos.endLine == pos.line) = true := by rfl) :
    PE X (.Call (.Attribute o "join" apos) [e] [] pos) (tE X.K X.mg W (smet1 opJoin fa fb)) := PE.of (pe_join ho he hs hbase hline) fun _ _ _ q => tE_smet1 (r := rJoin X.K) snd_join q
def onSS (g : Str → Str → D) : List D → Option D
  | [.str a, .str b] => some (g a b)
  | _ => none
theorem snd_SS {r : V → List V → Hp → VK → Prop} {g : Str → Str → D} {hv : Str → Str → V} (hr : ∀ a b H Q, Q (hv a b) H → r (.str a) [.str b] H Q) (hg : ∀ a b Z H, Rep X.K Z H (g a b) (hv a b) Fp0) : Snd X (fun vs H Q => ∃ x y, vs = [x, y] ∧ r x [y] H Q) (onSS g) := by
  refine snd_pure fun Z H S ds vs d Q w rb e k => ?_
  unfold onSS at e
  split at e
  · rename_i a b
    obtain ⟨v, u, rfl, rv, ru⟩ := rb2 rb
    obtain rfl : v = .str a := rv
    obtain rfl : u = .str b := ru
    cases e
    exact ⟨_, _, rfl, hr _ _ _ _ (k _ (hg a b Z H))⟩
  · cases e
abbrev opCountS : List D → Option D := onSS fun a b => .int (Txt.count a b)
theorem snd_count : Snd X (fun vs H Q => ∃ x y, vs = [x, y] ∧ (fun (x : V) (xs : List V) (H : Hp) (Q : VK) => ∃ a b, x = .str a ∧ xs = [.str b] ∧ Q (.int (Txt.count a b)) H) x [y] H Q) opCountS :=
  snd_SS (r := fun (x : V) (xs : List V) (H : Hp) (Q : VK) => ∃ a b, x = .str a ∧ xs = [.str b] ∧ Q (.int (Txt.count a b)) H) (g := fun a b => .int (Txt.count a b)) (hv := fun a b => .int (Txt.count a b)) (fun a b H Q h => ⟨a, b, rfl, rfl, h⟩) fun _ _ _ _ => rfl
theorem E_count {apos : Pos} (ho : PE X o (tE X.K X.mg W fa)) (he : PE X e (tE X.K X.mg W fb)) (hs : starEach [e] X.env = [(false, eval e X.env)] := by rfl) (hbase : attributeBase o "count" X.env (eval o X.env) = eval o X.env := by rfl) (hline : (apos.endLine == pos.line) = true := by rfl) :
    PE X (.Call (.Attribute o "count" apos) [e] [] pos) (tE X.K X.mg W (smet1 opCountS fa fb)) :=
  PE.of (pe_m1 F.slot_str_count F.type_str_count mt_count ho he hs hbase hline) fun _ _ _ q => tE_smet1 (g := opCountS) snd_count q
end
end Pm
namespace Pm
open PySem PySem.Spec PyProof.Rows L2
section
variable {K : PySem.W.Frag} {mg : Str → Option Value} {W : WX} {Z Z' H H' : Hp} {S S' : Fp} {σ : Sl} {X : Cx} {a b c e o : Expr} {pos : Pos} {fa fb fc : M EV}
theorem RepL.erase : ∀ {ds : List D} {vs : List V} {S : Fp} {i : Nat} {d : D}, RepL K Z H ds vs S → ds[i]? = some d →
    ∃ v, ∃ S1 S2 : Fp, vs[i]? = some v ∧ (∀ a, S1 a → S a) ∧ (∀ a, S2 a → S a) ∧ (∀ a, S1 a → S2 a → False) ∧ Rep K Z H d v S1 ∧ RepL K Z H (ds.eraseIdx i) (vs.eraseIdx i) S2
  | [], _, _, _, _, _, e => by simp at e
  | _ :: _, [], _, _, _, h, _ => h.elim
  | d :: ds, v :: vs, S, 0, d', ⟨S1, S2, s1, s2, dj, r, q⟩, e => by
    simp only [List.getElem?_cons_zero, Option.some.injEq] at e
    subst e
    exact ⟨v, S1, S2, rfl, s1, s2, dj, r, q⟩
  | d :: ds, v :: vs, S, i + 1, d', ⟨S1, S2, s1, s2, dj, r, q⟩, e => by
    simp only [List.getElem?_cons_succ] at e
    obtain ⟨u, U1, U2, hu, u1, u2, uj, ru, rest⟩ := RepL.erase q e
    exact ⟨u, U1, fun a => S1 a ∨ U2 a, by simpa using hu, fun a x => s2 a (u1 a x), fun a x => x.elim (s1 a) fun y => s2 a (u2 a y), fun a x y => y.elim (fun z => dj a z (u1 a x)) (uj a x), ru, S1, U2, fun _ x => .inl x, fun _ x => .inr x, fun a x y => dj a x (u2 a y), r, rest⟩
theorem pop_item {i j : Nat} {xs : List D} {ρ : Env} {d : D} (w : Wd Z H S) (er : EnvR K Z H ρ σ S) (e : ρ.getD j none = some (.node true .lst xs)) (hi : xs[i]? = some d) :
    ∃ p ys y, ∃ S' T : Fp, σ[j]? = some (some (.ref p)) ∧ H p = some (.lst ys) ∧ ys.length = xs.length ∧ ys[i]? = some y ∧ (∀ a, S' a → S a) ∧ (∀ a, T a → S a) ∧ (∀ a, S' a → T a → False) ∧ S p ∧
      Rep K Z (upd H p (.lst (ys.eraseIdx i))) d y T ∧ EnvR K Z (upd H p (.lst (ys.eraseIdx i))) (ρ.set j (some (.node true .lst (xs.eraseIdx i)))) σ S' := by
  obtain ⟨u, U1, U2, hv, u1, u2, uj, ru, eu⟩ := er.take (getD_some e)
  obtain ⟨p, ys, U', rfl, c, sa, na, sub, rl⟩ := ru
  obtain ⟨hj, ej⟩ := List.getElem?_eq_some_iff.mp hv
  have es : σ.set j (some (.ref p)) = σ := by rw [← ej, List.set_getElem_self]
  have hl : j < ρ.length := by rw [er.length]; exact hj
  obtain ⟨y, T1, T2, hy, t1, t2, tj, ry, rest⟩ := rl.erase hi
  have keep : ∀ {B : Fp}, (∀ a, B a → a = p → False) → ∀ a o, B a → H a = some o → upd H p (.lst (ys.eraseIdx i)) a = some o := fun {B} n a o b q => by rw [upd_ne fun z => n a b z]; exact q
  have n1 : ∀ a, U' a → a = p → False := fun a x y => na (by rw [← y]; exact x)
  have rn : Rep K Z (upd H p (.lst (ys.eraseIdx i))) (.node true .lst (xs.eraseIdx i)) (.ref p) (fun a => a = p ∨ T2 a) := ⟨p, ys.eraseIdx i, T2, rfl, upd_same, .inl rfl, fun x => n1 p (t2 p x) rfl, fun _ x => .inr x, rest.move (Same.refl Z) (keep fun a x => n1 a (t2 a x)) fun _ x => x⟩
  have q := EnvR.put (S := fun a => (a = p ∨ T2 a) ∨ U2 a) (eu.move (Same.refl Z) (keep fun a x y => uj p sa (by rw [← y]; exact x)) fun _ x => x) hl rn (fun _ x => .inl x) (fun _ x => .inr x) fun a x y => by
    rcases x with x | x
    · exact uj p sa (by rw [← x]; exact y)
    · exact uj a (sub a (t2 a x)) y
  rw [es] at q
  refine ⟨p, ys, y, _, T1, hv, c, rl.length.symm, hy, fun a x => ?_, fun a x => u1 a (sub a (t1 a x)), fun a x t => ?_, u1 p sa, ry.move (Same.refl Z) (keep fun a x => n1 a (t1 a x)) fun _ x => x, q⟩
  · rcases x with (x | x) | x
    · rw [x]; exact u1 p sa
    · exact u1 a (sub a (t2 a x))
    · exact u2 a x
  · rcases x with (x | x) | x
    · exact n1 a (t1 a t) x
    · exact tj a t x
    · exact uj a (sub a (t1 a t)) x
def popi (j : Nat) (fi : M EV) : M EV := fun ρ0 => match ρ0.getD j none with
  | some (.node true .lst _) => bnd fi (fun ei => fun ρ => match ρ.getD j none, peek1 ρ ei with
    | some (.node true .lst xs), some (.int k) => match ixN xs.length k with
      | some i => match xs[i]? with
        | some d => if xs.length ≤ cap then .ok (.val d) (ρ.set j (some (.node true .lst (xs.eraseIdx i)))) else .stuck
        | none => .stuck
      | none => .stuck
    | _, _ => .stuck) ρ0
  | _ => .stuck
theorem tE_popi {j : Nat} {Q : VK} (h : tE K mg W (popi j fa) σ H Q) : tBM K "list" rPopAt (tVar j) (tCons (tE K mg W fa) tNil) σ H Q := by
  obtain ⟨Z, ρ, S, w, er, o⟩ := h
  simp only [popi] at o
  split at o
  · rename_i xs0 h0
    obtain ⟨u, U1, U2, hv, u1, u2, uj, ru, eu⟩ := er.take (getD_some h0)
    obtain ⟨p0, ys0, U', rfl, c0, _⟩ := ru
    refine ⟨.ref p0, hv, .inl ⟨rfl, ys0, SqL.of c0⟩, Z, ρ, S, w, er, ?_⟩
    simp only [bnd] at o
    cases e1 : fa ρ with
    | stuck => rw [e1] at o; exact o
    | exc x ρ1 => rw [e1] at o; exact o
    | ok ev ρ1 =>
      simp only [e1] at o
      intro v Z1 H1 S1 Sa st1 dj1 er1 r1
      have t1 := st1.less (S2 := S1) fun a x => .inl x
      have o1 := OutE.after (K := K) (mg := mg) (W := W) (σ := σ) (Q := Q) t1 o
      split at o1
      · rename_i xs k hx hk
        have ev' := int_of hk r1 er1
        subst ev'
        split at o1
        · rename_i i hi
          split at o1
          · rename_i d hd
            split at o1
            · rename_i hz
              obtain ⟨p, ys, y, S', T, hv2, hp, hl, hy, m1, m2, dj, sp, rd, er'⟩ := pop_item t1.wd er1 hx hd
              rw [hv] at hv2
              cases hv2
              obtain ⟨q1, q2, q3, q4⟩ := ixN_seq hi
              have hz' : xs.length ≤ 1000000 := hz
              refine ⟨p0, ys, k, i, y, rfl, rfl, hp, by omega, by omega, by rw [hl]; exact q1, hy, ?_⟩
              exact o1 y Z1 _ S' T ((Step.write t1.wd sp).less fun a x => x.elim (m1 a) (m2 a)) dj er' rd
            · exact o1.elim
          · exact o1.elim
        · exact o1.elim
      · exact o1.elim
  · exact o.elim
theorem E_popi {j : Nat} {x : Str} {p2 apos cpos : Pos} (he : PE X e (tE X.K X.mg W fa)) (hj : X.N[j]? = some x := by rfl) (hv : Vis X.env.scope x := by first | exact Or.inl rfl | exact Or.inr (Or.inl rfl) | exact Or.inr (Or.inr rfl)) (hd : (x == ("__debug__" : Str)) = false := by decide) (hcd : (x == ("__classdict__" : Str)) = false := by decide)
    (hbase : attributeBase (.Name x p2) "pop" X.env (eval (.Name x p2) X.env) = eval (.Name x p2) X.env := by rfl)
    (hfew : ((backTo cpos (starEach [e] X.env)).all (fun x => !x.1) && (backToKw cpos (keywordEach [] X.env)).all (fun x => x.1.isSome)
      && decide ([e].length + ([] : List Keyword).length + (if ([] : List Keyword).isEmpty then 0 else 1) < 30)) = true := by rfl)
    (hline : (apos.endLine == cpos.line) = true := by rfl) (hs : starEach [e] X.env = (false, eval e X.env) :: starEach [] X.env := by rfl) (hplain : (backTo cpos (starEach [] X.env)).any (·.1) = false := by rfl) :
    PE X (.Call (.Attribute (.Name x p2) "pop" apos) [e] [] cpos) (tE X.K X.mg W (popi j fa)) :=
  PE.of (pe_bm PySem.F.plainAttrs_list PySem.F.slot_list_pop PySem.F.type_list_pop mt_popAt (pe_var hj hv hd hcd) (pa_cons he pa_nil hs) hbase hfew hline hs hplain) fun _ _ _ q => tE_popi q
end
end Pm
namespace Pm
open PySem PySem.Spec PyProof.Rows L2
section
variable {K : PySem.W.Frag} {mg : Str → Option Value} {W : WX} {Z Z' H H' : Hp} {S S' : Fp} {σ : Sl} {X : Cx} {a b c e o : Expr} {pos : Pos} {fa fb fc : M EV}
def sortI (ns : List Int) : List Int := ns.mergeSort fun i j => decide (i ≤ j)
theorem sortI_perm (ns : List Int) : (sortI ns).Perm ns := List.mergeSort_perm ns _
theorem sortI_pair (ns : List Int) : (sortI ns).Pairwise (· ≤ ·) := by
  have h := List.pairwise_mergeSort (le := fun (i j : Int) => decide (i ≤ j)) (fun a b c h1 h2 => by simp at *; omega) (fun a b => by simp; omega) ns
  exact h.imp fun h => of_decide_eq_true h
theorem sortI_of {ns ms : List Int} (h : ms.Perm ns) (h2 : ms.Pairwise (· ≤ ·)) : ms = sortI ns := List.Perm.eq_of_pairwise (le := (· ≤ ·)) (fun a b _ _ h1 h2 => by omega) h2 (sortI_pair ns) (h.trans (sortI_perm ns).symm)
def leS (x y : Str) : Bool := !decide (y.cps.toList < x.cps.toList)
theorem leS_trans (a b c : Str) (h1 : leS a b = true) (h2 : leS b c = true) : leS a c = true := by
  unfold leS at *
  simp only [Bool.not_eq_true', decide_eq_false_iff_not] at *
  exact List.not_lt.mpr (List.le_trans (List.not_lt.mp h1) (List.not_lt.mp h2))
theorem leS_total (a b : Str) : (leS a b || leS b a) = true := by
  unfold leS
  rcases List.le_total a.cps.toList b.cps.toList with h | h
  · have h' : ¬ b.cps.toList < a.cps.toList := List.not_lt.mpr h
    simp [h']
  · have h' : ¬ a.cps.toList < b.cps.toList := List.not_lt.mpr h
    simp [h']
theorem leS_anti (a b : Str) (h1 : leS a b = true) (h2 : leS b a = true) : a = b := by
  unfold leS at *
  simp only [Bool.not_eq_true', decide_eq_false_iff_not] at *
  have e := List.le_antisymm (List.not_lt.mp h1) (List.not_lt.mp h2)
  cases a
  cases b
  congr
  exact Array.toList_inj.mp e
def sortS (xs : List Str) : List Str := xs.mergeSort leS
theorem sortS_perm (xs : List Str) : (sortS xs).Perm xs := List.mergeSort_perm xs _
theorem sortS_pair (xs : List Str) : (sortS xs).Pairwise fun x y => leS x y = true := List.pairwise_mergeSort leS_trans leS_total xs
theorem rising_pair : ∀ (p : Str) (xs : List Str), risingS p xs = true → (p :: xs).Pairwise fun x y => leS x y = true
  | p, [], _ => List.pairwise_singleton _ _
  | p, x :: xs, h => by
    unfold risingS at h
    rw [Bool.and_eq_true] at h
    have ih := rising_pair x xs h.2
    have hp : leS p x = true := (PyProof.Rows.le_meets p x).trans h.1
    refine List.Pairwise.cons (fun y hy => ?_) ih
    rcases List.mem_cons.mp hy with rfl | hy
    · exact hp
    · exact leS_trans _ _ _ hp ((List.pairwise_cons.mp ih).1 y hy)
theorem sortS_of {xs ys : List Str} (h : ys.Perm xs) (h2 : sortedS ys = true) : ys = sortS xs := by
  refine List.Perm.eq_of_pairwise (le := fun x y => leS x y = true) (fun a b _ _ h1 h2 => leS_anti a b h1 h2) ?_ (sortS_pair xs) (h.trans (sortS_perm xs).symm)
  cases ys with
  | nil => exact List.Pairwise.nil
  | cons y ys => exact rising_pair y ys h2
def opSorted : List D → Option D
  | [.node _ .lst xs] => match intsD xs with
    | some ns => some (.lst true ((sortI ns).map D.int))
    | none => match strsD xs with
      | some ys => if ys.length < 64 then some (.lst true ((sortS ys).map D.str)) else none
      | none => none
  | _ => none
theorem reps_strsV : ∀ xs : List Str, RepL K Z H (xs.map D.str) (xs.map V.str) Fp0
  | [] => trivial
  | x :: xs => ⟨Fp0, Fp0, fun _ x => x, fun _ x => x, fun _ x _ => x, rfl, reps_strsV xs⟩
theorem reps_ints0 : ∀ ns : List Int, RepL K Z H (ns.map D.int) (ns.map V.int) Fp0
  | [] => trivial
  | x :: xs => ⟨Fp0, Fp0, fun _ x => x, fun _ x => x, fun _ x _ => x, rfl, reps_ints0 xs⟩
theorem snd_sorted : Snd X (fun vs H Q => rSortedI X.K vs H Q ∨ rSortedS X.K vs H Q) opSorted := by
  intro Z H S ds vs d Q w rb e k
  unfold opSorted at e
  split at e
  · split at e
    · rename_i ns hn
      obtain ⟨v, rfl, rv⟩ := rb1 rb
      obtain ⟨a, ys, rfl, c, rl⟩ := rep_lst w.same rv
      rw [intsD_inv hn] at rl
      have ey := reps_intsV rl
      subst ey
      cases e
      refine .inl ⟨a, ns, rfl, SqL.of c, fun ms p h1 h2 np => ?_⟩
      rw [sortI_of h1 h2]
      obtain ⟨f1, f2, f3, f4⟩ := fresh_lst w np (reps_ints0 (K := X.K) (Z := Z) (H := H) (sortI ns))
      exact k _ _ _ _ f1 f2 f3 f4
    · split at e
      · rename_i ys hy
        split at e
        · rename_i hl
          obtain ⟨v, rfl, rv⟩ := rb1 rb
          obtain ⟨a, zs, rfl, c, rl⟩ := rep_lst w.same rv
          rw [strsD_inv hy] at rl
          have ez := reps_strs rl
          subst ez
          cases e
          refine .inr ⟨a, ys, rfl, SqL.of c, hl, fun ms p h1 h2 np => ?_⟩
          rw [sortS_of h1 h2]
          obtain ⟨f1, f2, f3, f4⟩ := fresh_lst w np (reps_strsV (K := X.K) (Z := Z) (H := H) (sortS ys))
          exact k _ _ _ _ f1 f2 f3 f4
        · cases e
      · cases e
  · cases e
theorem call_sortedA : CallR X (.builtin "sorted") (fun vs H Q => rSortedI X.K vs H Q ∨ rSortedS X.K vs H Q) := CallR.or cr_sortedI cr_sortedS
end
end Pm
namespace Pm
open PySem PySem.Spec PyProof.Rows L2
section
variable {K : PySem.W.Frag} {mg : Str → Option Value} {W : WX} {Z Z' H H' : Hp} {S S' : Fp} {σ : Sl} {X : Cx} {a b c e o : Expr} {pos : Pos} {fa fb fc : M EV}
def enumD : Nat → List D → List D
  | _, [] => []
  | i, d :: ds => .tup [.int (i : Int), d] :: enumD (i + 1) ds
theorem enumD_length : ∀ (ds : List D) (i : Nat), (enumD i ds).length = ds.length
  | [], _ => rfl
  | d :: ds, i => by rw [enumD, List.length_cons, List.length_cons, enumD_length ds]
theorem enumD_get : ∀ (ds : List D) (k i : Nat) (d' : D), (enumD k ds)[i]? = some d' → ∃ d, ds[i]? = some d ∧ d' = .tup [.int ((k + i : Nat) : Int), d]
  | [], _, _, _, h => by simp [enumD] at h
  | d :: ds, k, 0, d', h => by
    simp only [enumD, List.getElem?_cons_zero, Option.some.injEq] at h
    exact ⟨d, rfl, h.symm⟩
  | d :: ds, k, i + 1, d', h => by
    simp only [enumD, List.getElem?_cons_succ] at h
    obtain ⟨e, h1, h2⟩ := enumD_get ds (k + 1) i d' h
    exact ⟨e, by simpa using h1, by rw [h2, show k + 1 + i = k + (i + 1) by omega]⟩
theorem walk_enum {p : Addr} {ds : List D} (h : WalkR K (Itl K p) Z ds) : WalkR K (Ite K p) Z (enumD 0 ds) := by
  intro Z' H' z1 z2
  obtain ⟨h1, h2⟩ := h Z' H' z1 z2
  refine ⟨fun i hi => h1 i (by rw [enumD_length] at hi; exact hi), fun i d hd => ?_⟩
  obtain ⟨d0, hd0, rfl⟩ := enumD_get ds 0 i d hd
  obtain ⟨g, y⟩ := h2 i d0 hd0
  refine ⟨g, fun x H'' S' w hx => ?_⟩
  obtain ⟨T, u, rfl, nT, rfl, fu⟩ := hx
  obtain ⟨Z2, st, sm, ru⟩ := y u H' S' w ⟨rfl, fu⟩
  have st2 := Step.allocZ (o := .tup [.int ((i : Nat) : Int), u]) st.wd nT
  refine ⟨_, st.trans st2, fun a o e => by rw [upd_ne (ne_of_none e nT)]; exact e, T, [.int ((i : Nat) : Int), u], rfl, SqT.of upd_same, Fp0, Fp0, fun _ x => x, fun _ x => x, fun _ x _ => x, by rw [Nat.zero_add]; rfl, Fp0, Fp0, fun _ x => x, fun _ x => x, fun _ x _ => x, ?_, trivial⟩
  exact ru.move st2.zz (fun _ _ x => x.elim) fun _ x => x
def srcEnum (f : M EV) : M (List D) := bnd (srcSeq f .lst) fun ds => ret (enumD 0 ds)
theorem tI_enum {R : It → Hp → Prop} (h : tI K mg W (srcEnum fa) σ H R) : tI K mg W (srcSeq fa .lst) σ H fun J H1 => ∃ Z1 ds, WalkR K J Z1 ds ∧ ∀ J2, WalkR K J2 Z1 (enumD 0 ds) → R J2 H1 := by
  obtain ⟨Z, ρ, S, w, er, o⟩ := h
  refine ⟨Z, ρ, S, w, er, ?_⟩
  simp only [srcEnum, bnd] at o
  cases e1 : srcSeq fa .lst ρ with
  | stuck => rw [e1] at o; exact o
  | exc x ρ1 => rw [e1] at o; exact o
  | ok ds ρ1 =>
    simp only [e1, ret] at o
    exact fun J Z1 H1 S1 st er1 wk => ⟨Z1, ds, wk, fun J2 w2 => o J2 Z1 H1 S1 st er1 w2⟩
theorem I_enum {p tpos : Pos} {elts : List Expr} {kk : Nat} (hm : X.mg "enumerate" = none) (h : PE X e (tE X.K X.mg W fa)) (hg : Gl X "enumerate" := by rfl) (hs : starEach [e] X.env = [(false, eval e X.env)] := by rfl) :
    PI X (.Tuple elts kk tpos) (.Call (.Name "enumerate" p) [e] [] pos) (tI X.K X.mg W (srcEnum fa)) :=
  PI.of (pi_enum hg hm (pa_cons h pa_nil hs) hs) fun σ H R q => by
    have q1 := srcSeq_of (tI_enum q) (.inl rfl)
    refine tE_mono (fun x H1 q2 => ?_) q1
    obtain ⟨a, rfl, Z', ys, ds, sm, c, rl, k⟩ := q2
    obtain ⟨Z1, ds1, wk, f⟩ := k _ (walk_lst' (SqL.of c) rl)
    exact ⟨a, ys, rfl, Sam.seq sm (SqL.of c), f _ (walk_enum wk)⟩
end
end Pm
namespace Pm
open PySem PySem.Spec PyProof.Rows L2
section
variable {K : PySem.W.Frag} {mg : Str → Option Value} {W : WX} {Z Z' H H' : Hp} {S S' : Fp} {σ : Sl} {X : Cx} {a b c e e2 o : Expr} {pos : Pos} {fa fb fc : M EV}
def zipD : List D → List D → List D
  | d :: ds, e :: es => .tup [d, e] :: zipD ds es
  | _, _ => []
theorem zipD_length : ∀ ds es : List D, (zipD ds es).length = min ds.length es.length
  | [], es => by simp [zipD]
  | d :: ds, [] => by simp [zipD]
  | d :: ds, e :: es => by rw [zipD, List.length_cons, zipD_length ds es, List.length_cons, List.length_cons]; omega
theorem zipD_get : ∀ (ds es : List D) (i : Nat) (x : D), (zipD ds es)[i]? = some x → ∃ d e, ds[i]? = some d ∧ es[i]? = some e ∧ x = .tup [d, e]
  | [], _, _, _, h => by simp [zipD] at h
  | _ :: _, [], _, _, h => by simp [zipD] at h
  | d :: ds, e :: es, 0, x, h => by
    simp only [zipD, List.getElem?_cons_zero, Option.some.injEq] at h
    exact ⟨d, e, rfl, rfl, h.symm⟩
  | d :: ds, e :: es, i + 1, x, h => by
    simp only [zipD, List.getElem?_cons_succ] at h
    obtain ⟨d', e', h1, h2, h3⟩ := zipD_get ds es i x h
    exact ⟨d', e', by simpa using h1, by simpa using h2, h3⟩
theorem WalkR.more {J : It} {ds : List D} (h : WalkR K J Z ds) (s : Same Z Z') : WalkR K J Z' ds := fun Z1 H1 z1 z2 => h Z1 H1 (s.trans z1) z2
def srcZip (k : Kd) (f g : M EV) : M (List D) := bnd (srcSeq f k) fun ds => bnd (srcSeq g k) fun es => ret (zipD ds es)
theorem tI_zip {k : Kd} {R : It → Hp → Prop} (h : tI K mg W (srcZip k fa fb) σ H R) : tI K mg W (srcSeq fa k) σ H fun J H1 => ∃ ds, tI K mg W (srcSeq fb k) σ H1 fun J2 H2 => ∃ Z2 es, Sam Z2 H2 ∧ WalkR K J Z2 ds ∧ WalkR K J2 Z2 es ∧ ∀ J3, WalkR K J3 Z2 (zipD ds es) → R J3 H2 := by
  obtain ⟨Z, ρ, S, w, er, o⟩ := h
  refine ⟨Z, ρ, S, w, er, ?_⟩
  simp only [srcZip, bnd] at o
  cases e1 : srcSeq fa k ρ with
  | stuck => rw [e1] at o; exact o
  | exc x ρ1 => rw [e1] at o; exact o
  | ok ds ρ1 =>
    simp only [e1] at o
    intro J Z1 H1 S1 st1 er1 wk
    refine ⟨ds, Z1, ρ1, S1, st1.wd, er1, ?_⟩
    cases e2 : srcSeq fb k ρ1 with
    | stuck => simp only [e2] at o; exact o
    | exc x ρ2 => simp only [e2] at o; exact o.after st1
    | ok es ρ2 =>
      simp only [e2, ret] at o
      exact fun J2 Z2 H2 S2 st2 er2 wk2 => ⟨Z2, es, st2.wd.same, wk.more st2.zz, wk2, fun J3 w3 => o J3 Z2 H2 S2 (st1.trans st2) er2 w3⟩
theorem walk_zipL {p q : Addr} {ds es : List D} (h : WalkR K (Itl K p) Z ds) (h' : WalkR K (Itl K q) Z es) : WalkR K (Itz K p q) Z (zipD ds es) := by
  intro Z' H' z1 z2
  obtain ⟨h1, h2⟩ := h Z' H' z1 z2
  obtain ⟨h3, h4⟩ := h' Z' H' z1 z2
  refine ⟨fun i hi => ?_, fun i d hd => ?_⟩
  · obtain ⟨xs, c1, l1⟩ := h1 (max i ds.length) (by omega)
    obtain ⟨ys, c2, l2⟩ := h3 (max i es.length) (by omega)
    rw [zipD_length] at hi
    by_cases hc : ds.length ≤ i
    · obtain ⟨xs, c1, l1⟩ := h1 i hc
      exact ⟨xs, ys, c1, c2, .inl l1⟩
    · obtain ⟨ys, c2, l2⟩ := h3 i (by omega)
      exact ⟨xs, ys, c1, c2, .inr l2⟩
  · obtain ⟨d1, e1, hd1, he1, rfl⟩ := zipD_get ds es i d hd
    obtain ⟨⟨xs, x, c1, g1⟩, y1⟩ := h2 i d1 hd1
    obtain ⟨⟨ys, y, c2, g2⟩, y2⟩ := h4 i e1 he1
    refine ⟨⟨xs, ys, x, y, c1, c2, g1, g2⟩, fun v H'' S' w hx => ?_⟩
    obtain ⟨T, u, v', rfl, nT, rfl, f1, f2⟩ := hx
    obtain ⟨Z2, st, sm, ru⟩ := y1 u H' S' w ⟨rfl, f1⟩
    obtain ⟨_, y2'⟩ := (h'.more (z1.trans st.zz)) Z2 H' (Same.refl Z2) st.wd.same
    obtain ⟨Z3, st', sm', rv⟩ := (y2' i e1 he1).2 v' H' S' st.wd ⟨rfl, f2⟩
    have st2 := Step.allocZ (o := .tup [u, v']) st'.wd nT
    refine ⟨_, (st.trans st').trans st2, fun a o e => by rw [upd_ne (ne_of_none e nT)]; exact e, T, [u, v'], rfl, SqT.of upd_same, Fp0, Fp0, fun _ x => x, fun _ x => x, fun _ x _ => x, ru.move (st'.zz.trans st2.zz) (fun _ _ x => x.elim) fun _ x => x, Fp0, Fp0, fun _ x => x, fun _ x => x, fun _ x _ => x, ?_, trivial⟩
    exact rv.move st2.zz (fun _ _ x => x.elim) fun _ x => x
theorem I_zipL {p tpos : Pos} {elts : List Expr} {kk : Nat} (hm : X.mg "zip" = none) (h : PE X e (tE X.K X.mg W fa)) (h2 : PE X e2 (tE X.K X.mg W fb)) (hg : Gl X "zip" := by rfl) (hs : starEach [e, e2] X.env = (false, eval e X.env) :: starEach [e2] X.env := by rfl) (hs2 : starEach [e2] X.env = (false, eval e2 X.env) :: starEach [] X.env := by rfl) (hpl : (backTo pos (starEach [e2] X.env)).any (·.1) = false := by rfl) :
    PI X (.Tuple elts kk tpos) (.Call (.Name "zip" p) [e, e2] [] pos) (tI X.K X.mg W (srcZip .lst fa fb)) :=
  PI.of (RZ.pi_zipA hg hm (pa_cons h (pa_cons h2 pa_nil hs2) hs) hs hpl) fun σ H R q => by
    have q1 := srcSeq_of (tI_zip q) (.inl rfl)
    refine tE_mono (fun x H1 q2 => ?_) q1
    obtain ⟨p1, rfl, Z1, ys1, ds1, sm1, c, rl, k1⟩ := q2
    obtain ⟨ds, q3⟩ := k1 _ (walk_lst' (SqL.of c) rl)
    refine tE_mono (fun y H2 q4 => ?_) (srcSeq_of q3 (.inl rfl))
    obtain ⟨p2, rfl, Z2, ys2, es2, sm2, c, rl, k2⟩ := q4
    obtain ⟨Z3, es, sm3, wk1, wk2, f⟩ := k2 _ (walk_lst' (SqL.of c) rl)
    obtain ⟨xs, cx, _⟩ := (wk1 Z3 H2 (Same.refl Z3) sm3).1 ds.length (Nat.le_refl _)
    obtain ⟨zs, cz, _⟩ := (wk2 Z3 H2 (Same.refl Z3) sm3).1 es.length (Nat.le_refl _)
    exact ⟨p1, p2, xs, zs, rfl, .inl ⟨cx, cz, f _ (walk_zipL wk1 wk2)⟩⟩
end
end Pm
namespace Pm
open PySem PySem.Spec PyProof.Rows L2
section
variable {K : PySem.W.Frag} {mg : Str → Option Value} {W : WX} {Z Z' H H' : Hp} {S S' : Fp} {σ : Sl} {X : Cx} {A : Nat → Bool} {a b c e e2 o : Expr} {pos : Pos} {fa fb fc : M EV} {f : M EV} {g1 g2 g3 : Tg}
def asg3 (f : M EV) (g1 g2 g3 : Tg) : M Fl := bnd f fun e => bnd (use1 e) fun d => fun ρ => if d.plain = true then (match g1 d ρ with
  | .ok _ ρ1 => match g2 d ρ1 with
    | .ok _ ρ2 => match g3 d ρ2 with
      | .ok _ ρ3 => .ok .nx ρ3
      | _ => .stuck
    | _ => .stuck
  | _ => .stuck) else .stuck
end
end Pm
namespace Pm
open PySem PySem.Spec PyProof.Rows L2
end Pm
namespace Pm
open PySem PySem.Spec PyProof.Rows L2
end Pm
namespace Pm
open PySem PySem.Spec PyProof.Rows L2 StX
section
variable {K : PySem.W.Frag} {mg : Str → Option Value} {W : WX} {Z Z' H H' : Hp} {S S' : Fp} {σ : Sl} {X : Cx} {A : Nat → Bool} {a b c e o : Expr} {es : List Expr} {pos p : Pos} {fa fb fc f : M EV} {fs : M (List EV)}
def onS2 (g : Str → Str → Bool) : List D → Option D
  | [.str a, .str b] => some (.bl (g a b))
  | _ => none
theorem opd_S2 {fo : Value → Value → Sem Value} {g : Str → Str → Bool} (ho : OpR X fo (fun x y H Q => ∃ i j, x = .str i ∧ y = .str j ∧ Q (.bl (g i j)) H)) : Opd X fo (onS2 g) := by
  refine ⟨_, ho, snd_pure fun Z H S ds vs d Q w rb e k => ?_⟩
  unfold onS2 at e
  split at e
  · rename_i a b
    obtain ⟨v, u, rfl, rv, ru⟩ := rb2 rb
    obtain rfl : v = .str a := rv
    obtain rfl : u = .str b := ru
    cases e
    exact ⟨_, _, rfl, a, b, rfl, rfl, k _ rfl⟩
  · cases e
def ltS (a b : Str) : Bool := decide (a.cps.toList < b.cps.toList)
def opLtT : List D → Option D
  | [.node _ .tup xs, .node _ .tup ys] => match intsD xs, intsD ys with
    | some ns, some ms => some (.bl (HT.lexLt ns ms))
    | _, _ => none
  | _ => none
theorem opd_ltT (hu : X.A.units + 64 < cLine) : Opd X (compareOp .Lt) opLtT := by
  refine ⟨_, op_ltT (by omega), snd_pure fun Z H S ds vs d Q w rb e k => ?_⟩
  unfold opLtT at e
  split at e
  · split at e
    · rename_i ns ms h1 h2
      obtain ⟨v, u, rfl, rv, ru⟩ := rb2 rb
      obtain ⟨a, ys, rfl, c, rl⟩ := rep_tup w.same rv
      obtain ⟨b, zs, rfl, c2, rl2⟩ := rep_tup w.same ru
      rw [intsD_inv h1] at rl
      rw [intsD_inv h2] at rl2
      have e1 := reps_intsV rl
      have e2 := reps_intsV rl2
      subst e1
      subst e2
      cases e
      exact ⟨_, _, rfl, a, b, ns, ms, rfl, rfl, c, c2, k _ rfl⟩
    · cases e
  · cases e
/-- < of all kinds -/
def opLtA : List D → Option D
  | [.int i, .int j] => on2I iLt [.int i, .int j]
  | [.str i, .str j] => onS2 ltS [.str i, .str j]
  | ds => opLtT ds
theorem opd_ltA (hu : X.A.units + 64 < cLine) : Opd X (compareOp .Lt) opLtA := by
  refine Opd.or (g1 := on2I iLt) (g2 := fun ds => match onS2 ltS ds with | some d => some d | none => opLtT ds) opd_ltI (Opd.or (opd_S2 op_lt_str) (opd_ltT hu) fun ds d h => ?_) fun ds d h => ?_
  · cases e : onS2 ltS ds with
    | some d' => simp only [e] at h; exact .inl (show onS2 ltS ds = some d by rw [e]; exact h)
    | none => simp only [e] at h; exact .inr h
  · unfold opLtA at h
    split at h
    · exact .inl h
    · exact .inr (by simp only [h])
    · refine .inr ?_
      rename_i n1 n2
      have e : onS2 ltS ds = none := by
        unfold onS2
        split
        · first
            | exact (n2 _ _ rfl).elim
            | exact (n1 _ _ rfl).elim
        · rfl
      simp only [e]
      exact h
def orS (g : Int → Int → Option D) (q : Str → Str → Bool) : List D → Option D
  | [.str i, .str j] => onS2 q [.str i, .str j]
  | ds => on2I g ds
theorem opd_orS {fo : Value → Value → Sem Value} {g : Int → Int → Option D} {q : Str → Str → Bool} (h1 : Opd X fo (on2I g)) (h2 : Opd X fo (onS2 q)) : Opd X fo (orS g q) := Opd.or h1 h2 fun ds d h => by
  unfold orS at h
  split at h
  · exact .inr h
  · exact .inl h
abbrev opLeA : List D → Option D := orS iLe fun a b => !decide (b.cps.toList < a.cps.toList)
abbrev opGtA : List D → Option D := orS iGt fun a b => decide (b.cps.toList < a.cps.toList)
abbrev opGeA : List D → Option D := orS iGe fun a b => !decide (a.cps.toList < b.cps.toList)
theorem opd_leA : Opd X (compareOp .LtE) opLeA := opd_orS opd_leI (opd_S2 op_le_str)
theorem opd_geA : Opd X (compareOp .GtE) opGeA := opd_orS opd_geI (opd_S2 op_ge_str)
def opRepL : List D → Option D
  | [.node true .lst xs, .int k] => if plainL xs = true ∧ -(2 ^ 63) ≤ k ∧ k < 2 ^ 63 ∧ xs.length * k.toNat ≤ cap then some (.lst true (List.replicate k.toNat xs).flatten) else none
  | _ => none
theorem reps_rep {ds : List D} {vs : List V} (r : RepL K Z H ds vs Fp0) : ∀ n : Nat, RepL K Z H (List.replicate n ds).flatten (List.replicate n vs).flatten Fp0
  | 0 => trivial
  | n + 1 => by
    rw [List.replicate_succ, List.replicate_succ, List.flatten_cons, List.flatten_cons]
    exact r.joinP (reps_rep r n)
theorem opd_repL : Opd X (binaryOp .Mult) opRepL := by
  refine ⟨_, op_rep, fun Z H S ds vs d Q w rb e k => ?_⟩
  unfold opRepL at e
  split at e
  · split at e
    · rename_i xs n hp
      obtain ⟨v, u, rfl, rv, ru⟩ := rb2 rb
      obtain ⟨a, ys, S', rfl, c, sa, na, sub, rl⟩ := rv
      obtain rfl : u = .int n := ru
      cases e
      refine ⟨_, _, rfl, a, n, ys, rfl, rfl, c, hp.2.1, hp.2.2.1, by rw [← rl.length]; exact cap_le hp.2.2.2, fun p np => ?_⟩
      obtain ⟨f1, f2, f3, f4⟩ := fresh_lst w np (reps_rep (rl.plain (H' := H) hp.1) n.toNat)
      exact k _ _ _ _ f1 f2 f3 f4
    · cases e
  · cases e
/-- everything that is multiplied -/
def hMul : List D → Option D
  | [.node o .lst xs, .int k] => opRepL [.node o .lst xs, .int k]
  | ds => gMul ds
theorem opd_hMul : Opd X (binaryOp .Mult) hMul := Opd.or opd_gMul opd_repL fun ds d h => by
  unfold hMul at h
  split at h
  · exact .inr h
  · exact .inl h
end
end Pm
namespace Pm
open PySem PySem.Spec PyProof.Rows L2
section
variable {K : PySem.W.Frag} {mg : Str → Option Value} {W : WX} {Z Z' H H' : Hp} {S S' : Fp} {σ : Sl} {X : Cx} {A : Nat → Bool} {a b c e o : Expr} {pos : Pos} {fa fb fc f : M EV}
def keyP : Key → PyData
  | .inl i => .int i
  | .inr x => .str x
end
end Pm
namespace Pm
open PySem PySem.Spec PyProof.Rows L2
/-- of at most e bits -/
def Sm (e : Nat) (x : Int) : Prop := x.natAbs < 2 ^ e
theorem Sm.mono {e f : Nat} {x : Int} (h : Sm e x) (l : e ≤ f) : Sm f x := Nat.lt_of_lt_of_le h (Nat.pow_le_pow_right (by decide) l)
theorem Sm.mul {e f : Nat} {x y : Int} (h : Sm e x) (k : Sm f y) : Sm (e + f) (x * y) := by
  unfold Sm at *
  rw [Int.natAbs_mul, Nat.pow_add]
  exact Nat.mul_lt_mul'' h k
theorem Sm.add {e : Nat} {x y : Int} (h : Sm e x) (k : Sm e y) : Sm (e + 1) (x + y) := by
  unfold Sm at *
  have := Int.natAbs_add_le x y
  rw [Nat.pow_succ]
  omega
theorem Sm.between {e : Nat} {x y : Int} (h : Sm e y) (h0 : 0 ≤ x) (h1 : x ≤ y) : Sm e x := by unfold Sm at *; omega
theorem Sm.mod {e : Nat} {x m : Int} (h : Sm e m) (hm : 0 < m) : Sm e (x % m) := h.between (Int.emod_nonneg _ (by omega)) (Int.le_of_lt (Int.emod_lt_of_pos _ hm))
theorem Sm.divOk {e : Nat} {x : Int} (h : Sm e x) (l : e ≤ 9000) : divOk x = true := by
  refine decide_eq_true ?_
  by_cases hx : x.natAbs = 0
  · rw [hx]; decide
  · exact (Nat.log2_lt hx).mpr (h.mono l)
theorem ne_int (x y : Int) : opNe [.int x, .int y] = some (.bl (!(x == y))) := rfl
theorem eq_int' (x y : Int) : opEq [.int x, .int y] = some (.bl (x == y)) := rfl
theorem sum_ints (b : Bool) (l : List Int) : opSum [.node b .lst (l.map D.int)] = some (.int l.sum) := by
  unfold opSum
  simp only [intsD_map]
theorem comp_of {own : List Nat} {s : M (List D)} {g : Tg} {c : M Bool} {e : M EV} {ρ ρ1 ρ2 : Env} {ds acc : List D} (hs : s ρ = .ok ds ρ1) (hc : compIt own g c e ds (wipeE ρ1 own) [] = .ok acc ρ2) : comp own s g c e ρ = .ok (.val (.lst true acc)) (backE ρ1 ρ2 own) := by
  unfold comp bnd
  simp only [hs, hc]
theorem forS_of {s : M (List D)} {g : Tg} {b : M Fl} {ρ ρ1 : Env} {ds : List D} (hs : s ρ = .ok ds ρ1) : forS s g b ρ = forIt g b ds ρ1 := by
  unfold forS bnd
  simp only [hs]
theorem src_r1 {f : M (List EV)} {ρ ρ1 : Env} {es : List EV} {n : Nat} (h : f ρ = .ok es ρ1) (hp : peeks ρ1 es = some [.int n]) (hn : n ≤ 1000000) : srcR1 f ρ = .ok (rangeD 0 n) ρ1 := by
  have h62 : sm62 (n : Int) = true := sm62_of ⟨by omega, by omega⟩
  unfold srcR1 bnd
  simp only [h, hp, h62, if_true, Int.toNat_natCast]
theorem mkF_rt {n m : Nat} {reb : List Nat} {b : M Fl} {ds as : List D} {d : D} {ρ : Env} (h : b ((reFrz reb 0 ds).map some ++ List.replicate (m - n) none) = .ok (.rt d) ρ) (ha : argsBack reb ρ 0 (reFrz reb 0 ds) = some as) (hl : ds.length = n ∧ n ≤ m := by exact ⟨rfl, by decide⟩) : mkF n m reb b ds = .ret d as := by
  unfold mkF
  rw [if_pos hl, h]
  simp only [ha]
end Pm
namespace Pm
open PySem PySem.Spec PyProof.Rows L2
end Pm
namespace Pm
open PySem PySem.Spec PyProof.Rows L2
def ItES (x : Str) : It := ⟨fun i _ => i < x.cps.size, fun i H v H' => ∃ T c, v = .ref T ∧ H T = none ∧ H' = upd H T (.tup [.int (i : Nat), .str ⟨#[c]⟩]) ∧ x.cps[i]? = some c, fun i _ => x.cps.size ≤ i⟩
theorem turn_enumS {P : Program} {w : World} {K : PySem.W.Frag} {elts : List Expr} {kk : Nat} {tpos : Pos} (e it : Addr) (x : Str) (t : Tok) (ty : String) (hty : ty = "str_ascii_iterator" ∨ ty = "str_iterator") :
    Turn P w K (.Tuple elts kk tpos) (ItES x) [e, it] e (fun i h => i ≤ x.cps.size ∧ (∃ old, IsEnum h e it ((i : Nat) : Int) old) ∧ h.IsStrIter it ty x t i ∧ e ≠ it) where
  mem := by simp
  obj := fun i h st b hb => by
    obtain ⟨_, ⟨old, he⟩, ⟨o, ho, hc, hd⟩, _⟩ := st
    have e' : b = e ∨ b = it := by simpa using hb
    rcases e' with z | z
    · rw [z]; exact ⟨_, he, fun v q => nomatch q⟩
    · rw [z]; exact ⟨o, ho, fun v q => by rw [hd] at q; cases q⟩
  keep := fun i h h' st k => let ⟨hi, ⟨old, he⟩, ⟨o, ho, r⟩, hne⟩ := st; ⟨hi, ⟨old, k e (by simp) _ he⟩, ⟨o, k it (by simp) o ho, r⟩, hne⟩
  item := by
    intro X hP hw hK hc i pins s σ H E I hf st hg
    subst hP hw hK
    obtain ⟨hi, ⟨old, he⟩, hit, hne⟩ := st
    have hg : i < x.cps.size := hg
    have hel : e < s.heap.objs.size := Heap.lt_size he
    have hil : it < s.heap.objs.size := by obtain ⟨_, q, _⟩ := hit; exact Heap.lt_size q
    have D : PySem.Draws X.prog X.w X.A.in1 it [it] x.cps.size (fun i v => ∃ c u, x.cps[i]? = some c ∧ v = .str ⟨#[c]⟩ u) (fun i h => h.IsStrIter it ty x t i) := by
      rcases hty with e | e
      · rw [e]; exact PySem.Draws.strAscii (A := X.A.in1) (by show X.A.handled = none; exact I.ok.hd hc) it x t
      · rw [e]; exact PySem.Draws.strWide (A := X.A.in1) (by show X.A.handled = none; exact I.ok.hd hc) it x t
    refine wpAny_pyNext_enum_itemD D he hit hg hne (by simpa using hne) fun u h' tk hP ho hit' hT hsz hk => ?_
    obtain ⟨c, tc, hcx, rfl⟩ := hP
    refine ⟨_, rfl, wpAny_letOwnedTupleGo_enum (s := { s with heap := h', toks := tk + 1 }) ho fun h'' he' sb => ?_⟩
    have hT2 : h''.get? s.heap.objs.size = some { cls := .type "tuple", data := .seq #[.int i tk, .str ⟨#[c]⟩ tc] } := (sb.2 _ (Nat.ne_of_gt hel)).trans hT
    have new : ObjOk X.prog X.w (upd H s.heap.objs.size (.tup [.int (i : Nat), .str ⟨#[c]⟩])) h'' s.heap.objs.size (.tup [.int (i : Nat), .str ⟨#[c]⟩]) :=
      ⟨by show 2 ≤ sizeLine; decide, [.int i tk, .str ⟨#[c]⟩ tc], .cons ⟨_, rfl⟩ (.cons ⟨_, rfl⟩ .nil), ⟨_, hT2, rfl, _, rfl⟩⟩
    have I1 : Inv X pins σ (upd H s.heap.objs.size (.tup [.int (i : Nat), .str ⟨#[c]⟩])) { s with heap := h'', toks := tk + 1 } :=
      I.turnedNew (ch := [e, it]) (fun b ob hb q => (sb.2 b (fun z => hb (by simp [z]))).trans (hk b ob (fun z => hb (by simp [z])) (fun z => hb (by simp [z])) q)) hf (Nat.le_refl _) new
    refine ⟨.ref s.heap.objs.size, _, I1, rfl, ⟨_, c, rfl, I.hok.fresh (Nat.le_refl _), rfl, hcx⟩, ⟨hg, ⟨.str ⟨#[c]⟩ tc, ?_⟩, ?_, hne⟩, fun b hb => ?_⟩
    · have e1 : ((i + 1 : Nat) : Int) = (i : Int) + 1 := by omega
      rw [e1]; exact he'
    · obtain ⟨o, q, r⟩ := hit'
      exact ⟨o, (sb.2 it (Ne.symm hne)).trans q, r⟩
    · have hb' : b < s.heap.objs.size := by
        have e' : b = e ∨ b = it := by simpa using hb
        rcases e' with z | z
        · rw [z]; exact hel
        · rw [z]; exact hil
      rw [upd_ne (Nat.ne_of_lt hb')]
      exact (hf b hb).1
  done := by
    intro X hP hw hK hc i pins s σ H E I hf st hg
    subst hP hw hK
    obtain ⟨hi, ⟨old, he⟩, hit, hne⟩ := st
    obtain ⟨f0, f1, f2, f3, f4, f5⟩ := hf it (by simp)
    have ei : i = x.cps.size := Nat.le_antisymm hi hg
    have D : PySem.Draws X.prog X.w X.A.in1 it [it] x.cps.size (fun i v => ∃ c u, x.cps[i]? = some c ∧ v = .str ⟨#[c]⟩ u) (fun i h => h.IsStrIter it ty x t i) := by
      rcases hty with e | e
      · rw [e]; exact PySem.Draws.strAscii (A := X.A.in1) (by show X.A.handled = none; exact I.ok.hd hc) it x t
      · rw [e]; exact PySem.Draws.strWide (A := X.A.in1) (by show X.A.handled = none; exact I.ok.hd hc) it x t
    exact wpAny_pyNext_enum_endD D he (by rw [← ei]; exact hit) fun h' eb => ⟨rfl, I.turned (t' := s.toks) (fun b o hb q => eb b o hb q) f0 f1 f3 f4 f5⟩
  self := fun A i s Q E st h => let ⟨_, ⟨_, he⟩, _⟩ := st; wpAny_pyIter_enum he h
def iEnumS (te : TE) : TI := fun σ H R => te σ H fun v H1 => ∃ x, v = .str x ∧ R (ItES x) H1
theorem pi_enumS {X : Cx} {e : Expr} {te : TE} {p pos tpos : Pos} {elts : List Expr} {kk : Nat} (hg : Gl X "enumerate") (hm : X.mg "enumerate" = none) (he0 : PE X e te) (hs : starEach [e] X.env = [(false, eval e X.env)] := by rfl) :
    PI X (.Tuple elts kk tpos) (.Call (.Name "enumerate" p) [e] [] pos) (iEnumS te) := by
  refine ⟨fun pins s σ H R I h => ?_⟩
  have ha : PA X [e] (tCons te tNil) := pa_cons he0 pa_nil hs
  have h2 : (tCons te tNil) σ H (fun vs H1 => ∃ x, vs = [.str x] ∧ R (ItES x) H1) := by
    have key : ∀ v H1, (∃ x, v = .str x ∧ R (ItES x) H1) → tNil σ H1 (fun xs H2 => ∃ x, v :: xs = [V.str x] ∧ R (ItES x) H2) := fun v H1 ⟨x, ex, r⟩ => ⟨x, by rw [ex], r⟩
    have e1 : (fun v H1 => ∃ x, v = V.str x ∧ R (ItES x) H1) = fun v H1 => tNil σ H1 (fun xs H2 => ∃ x, v :: xs = [V.str x] ∧ R (ItES x) H2) := by
      funext v H1
      refine propext ⟨key v H1, fun ⟨x, ex, r⟩ => ⟨x, (List.cons.inj ex).1, r⟩⟩
    show te σ H (fun v H1 => tNil σ H1 (fun xs H2 => ∃ x, v :: xs = [V.str x] ∧ R (ItES x) H2))
    rw [← e1]
    exact h
  refine Call_ (ld_blt I hg hm boot_enumerate (PyProof.Rows.callWith_type1 (thn (ha.run pos pins s σ H _ I h2) fun us s1 ⟨vs, H1, I1, r1, q1⟩ => ?_) hs rfl))
  obtain ⟨x, ex, q⟩ := q1
  subst ex
  cases r1 with
  | cons r rr =>
    cases rr
    obtain ⟨t, rfl⟩ := r
    refine call_enumerate_str fun h' he hit hsz hk => wpAny_pyIter_enum he ?_
    have I2 : Inv X pins σ H1 { s1 with heap := h' } := I1.kept (t' := s1.toks) hk
    have hty : strIterType x = "str_ascii_iterator" ∨ strIterType x = "str_iterator" := by
      unfold strIterType
      split
      · exact .inl rfl
      · exact .inr rfl
    refine ⟨s1.heap.objs.size + 1, [s1.heap.objs.size + 1, s1.heap.objs.size], _, _, H1, rfl, I2, turn_enumS (s1.heap.objs.size + 1) s1.heap.objs.size x t _ hty, ⟨Nat.zero_le _, ⟨.none, he⟩, hit, Nat.succ_ne_self _⟩, fun b hb => ?_, q⟩
    have e' : b = s1.heap.objs.size + 1 ∨ b = s1.heap.objs.size := by simpa using hb
    have hle : s1.heap.objs.size ≤ b := by
      rcases e' with z | z
      · rw [z]; exact Nat.le_add_right _ _
      · rw [z]; exact Nat.le_refl _
    exact I1.fpOk hle (I1.hok.fresh hle)
section
variable {K : PySem.W.Frag} {mg : Str → Option Value} {W : WX} {Z Z' H H' : Hp} {S S' : Fp} {σ : Sl} {X : Cx} {a b c e o : Expr} {pos : Pos} {fa fb fc : M EV}
def enumS (x : Str) : List D := x.cps.toList.zipIdx.map fun p => .tup [.int (p.2 : Int), .str ⟨#[p.1]⟩]
theorem walk_enumS (x : Str) : WalkR K (ItES x) Z (enumS x) := by
  intro Z' H' z1 z2
  refine ⟨fun i hi => by unfold enumS at hi; rw [List.length_map, List.length_zipIdx, Array.length_toList] at hi; exact hi, fun i d hd => ?_⟩
  unfold enumS at hd
  rw [List.getElem?_map, List.getElem?_zipIdx] at hd
  cases e : x.cps.toList[i]? with
  | none => rw [e] at hd; cases hd
  | some c =>
    rw [e] at hd
    have hl : i < x.cps.size := by
      have := (List.getElem?_eq_some_iff.mp e).1
      simpa using this
    refine ⟨hl, fun y H'' S' w h => ?_⟩
    obtain ⟨T, c', rfl, nT, rfl, hc'⟩ := h
    have ec : c' = c := by
      have e' : x.cps[i]? = some c := by simpa using e
      rw [e'] at hc'
      exact (Option.some.inj hc').symm
    subst ec
    cases hd
    have st2 := Step.allocZ (o := .tup [.int ((i : Nat) : Int), .str ⟨#[c']⟩]) w nT
    refine ⟨_, st2, fun a o e => by rw [upd_ne (ne_of_none e nT)]; exact e, T, [.int ((i : Nat) : Int), .str ⟨#[c']⟩], rfl, SqT.of upd_same, Fp0, Fp0, fun _ x => x, fun _ x => x, fun _ x _ => x, by simp [Rep], Fp0, Fp0, fun _ x => x, fun _ x => x, fun _ x _ => x, rfl, trivial⟩
def srcEnumS (f : M EV) : M (List D) := bnd f fun e => fun ρ => match peek1 ρ e with
  | some (.str x) => .ok (enumS x) ρ
  | _ => .stuck
theorem tI_enumS {R : It → Hp → Prop} (h : tI K mg W (srcEnumS fa) σ H R) : iEnumS (tE K mg W fa) σ H R := by
  obtain ⟨Z, ρ, S, w, er, o⟩ := h
  refine ⟨Z, ρ, S, w, er, ?_⟩
  simp only [srcEnumS, bnd] at o
  cases e1 : fa ρ with
  | stuck => rw [e1] at o; exact o
  | exc x ρ1 => rw [e1] at o; exact o
  | ok ev ρ1 =>
    simp only [e1] at o
    intro v Z1 H1 S1 Sa st dj er1 r1
    split at o
    · rename_i x hx
      obtain rfl := str_of hx r1 er1
      exact ⟨x, rfl, o (ItES x) Z1 H1 S1 (st.less fun a x => .inl x) er1 (walk_enumS x)⟩
    · exact o.elim
theorem I_enumS {p tpos : Pos} {elts : List Expr} {kk : Nat} (hm : X.mg "enumerate" = none) (h : PE X e (tE X.K X.mg W fa)) (hg : Gl X "enumerate" := by rfl) (hs : starEach [e] X.env = [(false, eval e X.env)] := by rfl) :
    PI X (.Tuple elts kk tpos) (.Call (.Name "enumerate" p) [e] [] pos) (tI X.K X.mg W (srcEnumS fa)) := PI.of (pi_enumS hg hm h hs) fun _ _ _ q => tI_enumS q
end
end Pm
namespace Pm
open PySem PySem.Spec PyProof.Rows L2
/-- a small thing: at most n deep, numbers of at most two hundred bits -/
def low : Nat → D → Bool
  | _, .non => true
  | _, .bl _ => true
  | _, .int i => decide (i.natAbs.log2 < 200)
  | _, .str x => PyData.strOk x
  | n + 1, .node _ .lst xs => xs.all (low n)
  | n + 1, .node _ .tup xs => xs.all (low n)
  | _, _ => false
theorem Sm.low {e : Nat} {x : Int} (h : Sm e x) (l : e ≤ 200) (n : Nat) : low n (.int x) = true := by
  have : x.natAbs.log2 < 200 := by
    by_cases hx : x.natAbs = 0
    · rw [hx]; decide
    · exact (Nat.log2_lt hx).mpr (h.mono l)
  cases n <;> exact decide_eq_true this
def isStr : D → Bool
  | .str _ => true
  | _ => false
def isBl : D → Bool
  | .bl _ => true
  | _ => false
def isWhl : D → Bool
  | .int _ => true
  | .bl _ => true
  | _ => false
theorem isi_str {d : D} (h : (tyN d).isSome = true) : opIsi [d, .op (.ty "str")] = some (.bl (isStr d)) := by
  cases d with
  | node o k xs => cases k <;> first | rfl | cases h
  | op v => cases h
  | _ => rfl
theorem isi_bl {d : D} (h : (tyN d).isSome = true) : opIsi [d, .op (.ty "bool")] = some (.bl (isBl d)) := by
  cases d with
  | node o k xs => cases k <;> first | rfl | cases h
  | op v => cases h
  | _ => rfl
theorem isi_int {d : D} (h : (tyN d).isSome = true) : opIsi [d, .op (.ty "int")] = some (.bl (isWhl d)) := by
  cases d with
  | node o k xs => cases k <;> first | rfl | cases h
  | op v => cases h
  | _ => rfl
theorem asg_val {f : M EV} {ρ ρ1 : Env} {d : D} {i : Nat} (h : f ρ = .ok (.val d) ρ1) (hi : i < ρ1.length) : asg f (gN i) ρ = .ok .nx (ρ1.set i (some d)) := by
  simp [asg, bnd, h, use1, gN, hi]
theorem hAdd_ii (i j : Int) : hAdd [.int i, .int j] = some (.int (i + j)) := rfl
theorem hAdd_ll {p q : Bool} {xs ys : List D} (h1 : plainL xs = true) (h2 : plainL ys = true) (h3 : xs.length + ys.length ≤ cap) : hAdd [.node p .lst xs, .node q .lst ys] = some (.lst true (xs ++ ys)) := by
  show (if _ then _ else _) = _
  rw [if_pos ⟨h1, h2, h3⟩]
theorem opGtA_ii (i j : Int) : opGtA [.int i, .int j] = some (.bl (decide (j < i))) := rfl
theorem eq_ss (x y : Str) : opEq [.str x, .str y] = some (.bl (x == y)) := rfl
end Pm
namespace Pm
open PySem PySem.Spec PyProof.Rows L2
/-- a whole number or None -/
def oD : Option Int → D
  | none => .non
  | some i => .int i
theorem oD_plain (o : Option Int) : (oD o).plain = true := by cases o <;> rfl
end Pm
namespace Pm
open PySem PySem.Spec PyProof.Rows L2
/-- m comes out without an exception, and Q holds of what it gives -/
@[irreducible] def Wp {α : Type} (m : M α) (ρ : Env) (Q : α → Env → Prop) : Prop := match m ρ with
  | .ok a ρ' => Q a ρ'
  | _ => False
theorem Wp.ok {α : Type} {m : M α} {ρ : Env} {Q : α → Env → Prop} (h : Wp m ρ Q) : ∃ a ρ', m ρ = .ok a ρ' ∧ Q a ρ' := by
  unfold Wp at h
  split at h
  · rename_i a ρ' e
    exact ⟨a, ρ', e, h⟩
  · exact h.elim
theorem Wp.of {α : Type} {m : M α} {ρ ρ' : Env} {a : α} {Q : α → Env → Prop} (e : m ρ = .ok a ρ') (h : Q a ρ') : Wp m ρ Q := by
  unfold Wp
  rw [e]
  exact h
theorem Wp.mono {α : Type} {m : M α} {ρ : Env} {Q R : α → Env → Prop} (h : Wp m ρ Q) (i : ∀ a ρ', Q a ρ' → R a ρ') : Wp m ρ R := by
  obtain ⟨a, ρ', e, q⟩ := h.ok
  exact .of e (i a ρ' q)
theorem wp_seq {a b : M Fl} {ρ : Env} {Q : Fl → Env → Prop} (h : ∀ K : Fl → Env → Prop, (∀ ρ', Wp b ρ' Q → K .nx ρ') → (∀ d ρ', Q (.rt d) ρ' → K (.rt d) ρ') → (∀ ρ', Q .bk ρ' → K .bk ρ') → (∀ ρ', Q .ct ρ' → K .ct ρ') → Wp a ρ K) : Wp (seq a b) ρ Q := by
  have h' := h (fun f ρ' => match f with | .nx => Wp b ρ' Q | f => Q f ρ') (fun _ q => q) (fun _ _ q => q) (fun _ q => q) (fun _ q => q)
  obtain ⟨f, ρ', e, q⟩ := h'.ok
  cases f with
  | nx =>
    obtain ⟨f2, ρ2, e2, q2⟩ := Wp.ok q
    exact .of (a := f2) (ρ' := ρ2) (by rw [seq_ok e, e2]) q2
  | bk => exact .of (a := .bk) (ρ' := ρ') (by unfold seq bnd; rw [e]; rfl) q
  | ct => exact .of (a := .ct) (ρ' := ρ') (by unfold seq bnd; rw [e]; rfl) q
  | rt d => exact .of (a := .rt d) (ρ' := ρ') (by unfold seq bnd; rw [e]; rfl) q
theorem wp_end {a : M Fl} {ρ : Env} {Q : Fl → Env → Prop} (h : ∀ K : Fl → Env → Prop, (∀ ρ', Q .nx ρ' → K .nx ρ') → (∀ d ρ', Q (.rt d) ρ' → K (.rt d) ρ') → (∀ ρ', Q .bk ρ' → K .bk ρ') → (∀ ρ', Q .ct ρ' → K .ct ρ') → Wp a ρ K) : Wp a ρ Q :=
  h Q (fun _ q => q) (fun _ _ q => q) (fun _ q => q) fun _ q => q
theorem wp_ite {c : M Bool} {a b : M Fl} {ρ : Env} {Q : Fl → Env → Prop} (h : Wp c ρ fun t ρ' => (t = true → Wp a ρ' Q) ∧ (t = false → Wp b ρ' Q)) : Wp (Pm.ite c a b) ρ Q := by
  obtain ⟨t, ρ', e, q1, q2⟩ := h.ok
  cases t with
  | true =>
    obtain ⟨f, ρ2, e2, q⟩ := (q1 rfl).ok
    exact .of (by rw [ite_T e, e2]) q
  | false =>
    obtain ⟨f, ρ2, e2, q⟩ := (q2 rfl).ok
    exact .of (by rw [ite_F e, e2]) q
/-- what a turn leaves -/
def Tn (J : Env → Prop) (Q : Fl → Env → Prop) : Fl → Env → Prop
  | .nx, ρ => J ρ
  | .ct, ρ => J ρ
  | .bk, ρ => Q .nx ρ
  | .rt d, ρ => Q (.rt d) ρ
theorem wp_forIt {g : Tg} {b : M Fl} {Q : Fl → Env → Prop} : ∀ {ds : List D} (I : Nat → Env → Prop),
    (∀ (j : Nat) (d : D) (ρ : Env), ds[j]? = some d → I j ρ → ∃ ρ1, g d ρ = .ok () ρ1 ∧ Wp b ρ1 (Tn (I (j + 1)) Q)) → (∀ ρ, I ds.length ρ → Q .nx ρ) → ∀ ρ, I 0 ρ → Wp (forIt g b ds) ρ Q
  | [], I, _, he, ρ, h0 => .of (a := .nx) (ρ' := ρ) rfl (he ρ h0)
  | d :: ds, I, hs, he, ρ, h0 => by
    obtain ⟨ρ1, e1, w⟩ := hs 0 d ρ rfl h0
    obtain ⟨f, ρ2, e2, q⟩ := w.ok
    have rest : I 1 ρ2 → Wp (forIt g b ds) ρ2 Q := fun i1 => wp_forIt (fun j => I (j + 1)) (fun j d' ρ' hd hi => hs (j + 1) d' ρ' (by simpa using hd) hi) (fun ρ' hi => he ρ' hi) ρ2 i1
    cases f with
    | nx =>
      obtain ⟨f3, ρ3, e3, q3⟩ := (rest q).ok
      exact .of (a := f3) (ρ' := ρ3) (by rw [forIt]; simp only [e1]; unfold bnd; rw [e2]; exact e3) q3
    | ct =>
      obtain ⟨f3, ρ3, e3, q3⟩ := (rest q).ok
      exact .of (a := f3) (ρ' := ρ3) (by rw [forIt]; simp only [e1]; unfold bnd; rw [e2]; exact e3) q3
    | bk => exact .of (Q := Q) (a := .nx) (ρ' := ρ2) (by rw [forIt]; simp only [e1]; unfold bnd; rw [e2]; rfl) (show Q .nx ρ2 from q)
    | rt d' => exact .of (Q := Q) (a := .rt d') (ρ' := ρ2) (by rw [forIt]; simp only [e1]; unfold bnd; rw [e2]; rfl) (show Q (.rt d') ρ2 from q)
/-- for: the invariant I speaks of the turns done -/
theorem wp_for {s : M (List D)} {g : Tg} {b : M Fl} {Q : Fl → Env → Prop} {ρ ρ1 : Env} {ds : List D} (hs : s ρ = .ok ds ρ1) (I : Nat → Env → Prop) (h0 : I 0 ρ1)
    (ht : ∀ (j : Nat) (d : D) (ρ : Env), ds[j]? = some d → I j ρ → ∃ ρ1, g d ρ = .ok () ρ1 ∧ Wp b ρ1 (Tn (I (j + 1)) Q)) (he : ∀ ρ, I ds.length ρ → Q .nx ρ) : Wp (forS s g b) ρ Q := by
  obtain ⟨f, ρ2, e, q⟩ := (wp_forIt I ht he ρ1 h0).ok
  exact .of (by rw [forS_of hs, e]) q
/-- while: the invariant I bears a measure -/
theorem wp_whl {c : M Bool} {b : M Fl} {Q : Fl → Env → Prop} (I : Nat → Env → Prop)
    (ht : ∀ (n : Nat) (ρ : Env), I n ρ → Wp c ρ fun t ρ1 => (t = true → Wp b ρ1 (Tn (fun ρ2 => ∃ m, m < n ∧ I m ρ2) Q)) ∧ (t = false → Q .nx ρ1)) : ∀ (n : Nat) (ρ : Env), I n ρ → Wp (whl c b) ρ Q := by
  intro n
  induction n using Nat.strongRecOn with
  | ind n ih =>
    intro ρ hi
    obtain ⟨t, ρ1, e1, q1, q2⟩ := (ht n ρ hi).ok
    cases t with
    | false => exact .of (a := .nx) (ρ' := ρ1) (whl_F e1) (q2 rfl)
    | true =>
      obtain ⟨f, ρ2, e2, q⟩ := (q1 rfl).ok
      cases f with
      | nx =>
        obtain ⟨m, hm, im⟩ := q
        obtain ⟨f3, ρ3, e3, q3⟩ := (ih m hm ρ2 im).ok
        exact .of (a := f3) (ρ' := ρ3) (by rw [whl_T e1 e2, e3]) q3
      | ct =>
        obtain ⟨m, hm, im⟩ := q
        obtain ⟨f3, ρ3, e3, q3⟩ := (ih m hm ρ2 im).ok
        exact .of (a := f3) (ρ' := ρ3) (by rw [whl_C e1 e2, e3]) q3
      | bk => exact .of (Q := Q) (a := .nx) (ρ' := ρ2) (by rw [whl_eq, e1]; simp only [e2]) (show Q .nx ρ2 from q)
      | rt d => exact .of (Q := Q) (a := .rt d) (ρ' := ρ2) (by rw [whl_eq, e1]; simp only [e2]) (show Q (.rt d) ρ2 from q)
/-- what a def comes to -/
def Wf (S : FSem) (as : List D) (Q : D → List D → Prop) : Prop := ∃ d bs, S as = .ret d bs ∧ Q d bs
/-- how a body ends a def -/
def Fin (reb : List Nat) (ds : List D) (Q : D → List D → Prop) : Fl → Env → Prop
  | .nx, ρ => ∃ as, argsBack reb ρ 0 (reFrz reb 0 ds) = some as ∧ Q .non as
  | .rt d, ρ => ∃ as, argsBack reb ρ 0 (reFrz reb 0 ds) = some as ∧ Q d as
  | _, _ => False
theorem wf_mkF {n m : Nat} {reb : List Nat} {b : M Fl} {ds : List D} {Q : D → List D → Prop} (h : Wp b ((reFrz reb 0 ds).map some ++ List.replicate (m - n) none) (Fin reb ds Q)) (hl : ds.length = n ∧ n ≤ m := by exact ⟨rfl, by decide⟩) : Wf (mkF n m reb b) ds Q := by
  obtain ⟨f, ρ, e, q⟩ := h.ok
  cases f with
  | nx =>
    obtain ⟨as, ha, qa⟩ := q
    exact ⟨.non, as, by unfold mkF; rw [if_pos hl, e]; simp only [ha], qa⟩
  | rt d =>
    obtain ⟨as, ha, qa⟩ := q
    exact ⟨d, as, by unfold mkF; rw [if_pos hl, e]; simp only [ha], qa⟩
  | bk => exact q.elim
  | ct => exact q.elim
/-- a comprehension: the invariant I speaks of the turns done, the slots and what is made -/
theorem compIt_wp {own : List Nat} {g : Tg} {c : M Bool} {e : M EV} : ∀ {ds : List D} (I : Nat → Env → List D → Prop) (acc : List D) (ρ : Env), I 0 ρ acc → acc.length + ds.length ≤ cap →
    (∀ (j : Nat) (d : D) (ρ : Env) (acc : List D), ds[j]? = some d → I j ρ acc → ∃ ρ1, g d ρ = .ok () ρ1 ∧ Wp c ρ1 fun t ρ2 => (t = true → Wp e ρ2 fun ev ρ3 => ∃ d' ρ4, use1 ev ρ3 = .ok d' ρ4 ∧ I (j + 1) (wipeE ρ4 own) (acc ++ [d'])) ∧ (t = false → I (j + 1) (wipeE ρ2 own) acc)) →
    ∃ acc' ρ', compIt own g c e ds ρ acc = .ok acc' ρ' ∧ I ds.length ρ' acc'
  | [], I, acc, ρ, h0, _, _ => ⟨acc, ρ, rfl, h0⟩
  | d :: ds, I, acc, ρ, h0, hl, ht => by
    rw [List.length_cons] at hl
    obtain ⟨ρ1, e1, w⟩ := ht 0 d ρ acc rfl h0
    obtain ⟨t, ρ2, e2, q1, q2⟩ := w.ok
    have ht' : ∀ (j : Nat) (d : D) (ρ : Env) (acc : List D), ds[j]? = some d → I (j + 1) ρ acc → _ := fun j d' ρ' acc' hd hi => ht (j + 1) d' ρ' acc' (by simpa using hd) hi
    cases t with
    | true =>
      obtain ⟨ev, ρ3, e3, d', ρ4, e4, hi⟩ := (q1 rfl).ok
      obtain ⟨acc', ρ', e5, q⟩ := compIt_wp (fun j => I (j + 1)) (acc ++ [d']) (wipeE ρ4 own) hi (by rw [List.length_append, List.length_singleton]; omega) ht'
      exact ⟨acc', ρ', by rw [compIt]; simp only [e1, e2, e3, e4]; rw [if_pos (by omega), e5], q⟩
    | false =>
      obtain ⟨acc', ρ', e5, q⟩ := compIt_wp (fun j => I (j + 1)) acc (wipeE ρ2 own) (q2 rfl) (by omega) ht'
      exact ⟨acc', ρ', by rw [compIt]; simp only [e1, e2]; rw [e5], q⟩
theorem comp_wp {own : List Nat} {s : M (List D)} {g : Tg} {c : M Bool} {e : M EV} {ρ ρ1 : Env} {ds : List D} (hs : s ρ = .ok ds ρ1) (I : Nat → Env → List D → Prop) (h0 : I 0 (wipeE ρ1 own) []) (hl : ds.length ≤ cap)
    (ht : ∀ (j : Nat) (d : D) (ρ : Env) (acc : List D), ds[j]? = some d → I j ρ acc → ∃ ρ1, g d ρ = .ok () ρ1 ∧ Wp c ρ1 fun t ρ2 => (t = true → Wp e ρ2 fun ev ρ3 => ∃ d' ρ4, use1 ev ρ3 = .ok d' ρ4 ∧ I (j + 1) (wipeE ρ4 own) (acc ++ [d'])) ∧ (t = false → I (j + 1) (wipeE ρ2 own) acc)) :
    ∃ acc ρ', comp own s g c e ρ = .ok (.val (.lst true acc)) (backE ρ1 ρ' own) ∧ I ds.length ρ' acc := by
  obtain ⟨acc, ρ', e, q⟩ := compIt_wp I [] _ h0 (by rw [List.length_nil]; omega) ht
  exact ⟨acc, ρ', comp_of hs e, q⟩
end Pm
namespace Pm
open PySem PySem.Spec PyProof.Rows L2
theorem comp_fmw {own : List Nat} {s : M (List D)} {g : Tg} {c : M Bool} {e : M EV} {ρ ρ1 ρw : Env} {ds : List D} (F : D → Option D) (hs : s ρ = .ok ds ρ1) (hw : wipeE ρ1 own = ρw) (hb : backE ρ1 ρw own = ρ1) (hl : ds.length ≤ cap)
    (ht : ∀ d ∈ ds, ∃ ρ2, g d ρw = .ok () ρ2 ∧ Wp c ρ2 fun t ρ3 => (t = true → Wp e ρ3 fun ev ρ4 => ∃ d' ρ5, use1 ev ρ4 = .ok d' ρ5 ∧ F d = some d' ∧ wipeE ρ5 own = ρw) ∧ (t = false → F d = none ∧ wipeE ρ3 own = ρw)) :
    comp own s g c e ρ = .ok (.val (.lst true (ds.filterMap F))) ρ1 := by
  obtain ⟨acc, ρ', e1, rfl, rfl⟩ := comp_wp hs (fun j ρ acc => ρ = ρw ∧ acc = (ds.take j).filterMap F) ⟨hw, by simp⟩ hl fun j d ρ acc hd ⟨er, ea⟩ => by
    subst er
    obtain ⟨ρ2, e2, w⟩ := ht d (List.mem_of_getElem? hd)
    have tk : ds.take (j + 1) = ds.take j ++ [d] := by
      rw [List.take_add_one, hd]
      rfl
    refine ⟨ρ2, e2, w.mono fun t ρ3 ⟨q1, q2⟩ => ⟨fun h => (q1 h).mono fun ev ρ4 ⟨d', ρ5, e5, hF, hw5⟩ => ⟨d', ρ5, e5, hw5, ?_⟩, fun h => ⟨(q2 h).2, ?_⟩⟩⟩
    · rw [tk, List.filterMap_append, ea]
      simp [hF]
    · rw [tk, List.filterMap_append, ea]
      simp [(q2 h).1]
  rw [e1, hb, List.take_length]
theorem comp_mapw {own : List Nat} {s : M (List D)} {g : Tg} {c : M Bool} {e : M EV} {ρ ρ1 ρw : Env} {ds : List D} (F : D → D) (hs : s ρ = .ok ds ρ1) (hw : wipeE ρ1 own = ρw) (hb : backE ρ1 ρw own = ρ1) (hl : ds.length ≤ cap)
    (ht : ∀ d ∈ ds, ∃ ρ2, g d ρw = .ok () ρ2 ∧ Wp c ρ2 fun t ρ3 => t = true ∧ Wp e ρ3 fun ev ρ4 => ∃ ρ5, use1 ev ρ4 = .ok (F d) ρ5 ∧ wipeE ρ5 own = ρw) :
    comp own s g c e ρ = .ok (.val (.lst true (ds.map F))) ρ1 := by
  have h := comp_fmw (own := own) (g := g) (c := c) (e := e) (fun d => some (F d)) hs hw hb hl fun d hd => by
    obtain ⟨ρ2, e2, w⟩ := ht d hd
    refine ⟨ρ2, e2, w.mono fun t ρ3 ⟨h1, q⟩ => ⟨fun _ => q.mono fun ev ρ4 ⟨ρ5, e5, hw5⟩ => ⟨_, ρ5, e5, rfl, hw5⟩, fun h2 => by rw [h1] at h2; cases h2⟩⟩
  rw [h]
  congr 4
  induction ds with
  | nil => rfl
  | cons d ds ih => simp
end Pm
namespace Pm
open PySem PySem.Spec PyProof.Rows L2
theorem tuple_mul1 (l : Addr) (items : Array Value) (n : Nat) (dd : Option Addr) (sl : Array (Option Value)) (x : Int) (u : Tok) (hx : x = 1) :
    Meets (Builtin.«tuple.__mul__» ⟨[.ref l, .int x u], []⟩) (fun _ R s => s.heap.get? l = some { cls := .type "tuple", dict := dd, data := .seq items n, slots := sl } ∧
      R (.ok (.ret (Value.ref l))) s) :=
  .of_wp fun prog w A R s h => by
    obtain ⟨hp, g, d, tk, os⟩ := s
    obtain ⟨hl, h⟩ := h
    have f1 := AutoSeq1.idx_int
    have c0 : (decide (x < -(2 ^ 63)) || decide (x ≥ 2 ^ 63)) = false := by rw [decide_eq_false (by omega), decide_eq_false (by omega)] <;> rfl
    have c1 : (items.isEmpty || x == 1) = true := by rw [hx, Bool.or_eq_true]; exact .inr rfl
    wp_walk using wpAny_loadPart' hl
    repeat (first
      | (refine wpAny_ite_false (decide_eq_false (by rw [c0]; exact Bool.false_ne_true)) ?_; wp_walk using wpAny_loadPart' hl)
      | (refine wpAny_ite_true (decide_eq_true (by rw [c1])) ?_; wp_walk using wpAny_loadPart' hl))
    exact ⟨_, rfl, h⟩
theorem tuple_mul0 (l : Addr) (items : Array Value) (n : Nat) (dd : Option Addr) (sl : Array (Option Value)) (x : Int) (u : Tok) (h0 : x ≤ 0) (h1 : -(2 ^ 63) ≤ x) (hne : items.isEmpty = false) :
    Meets (Builtin.«tuple.__mul__» ⟨[.ref l, .int x u], []⟩) (fun _ R s => s.heap.get? l = some { cls := .type "tuple", dict := dd, data := .seq items n, slots := sl } ∧
      R (.ok (.ret (Value.ref s.heap.objs.size))) { s with heap := s.heap.push { cls := Value.type "tuple", data := Data.seq #[] }, toks := s.toks }) :=
  .of_wp fun prog w A R s h => by
    obtain ⟨hp, g, d, tk, os⟩ := s
    obtain ⟨hl, h⟩ := h
    have f1 := AutoSeq1.idx_int
    have c0 : (decide (x < -(2 ^ 63)) || decide (x ≥ 2 ^ 63)) = false := by rw [decide_eq_false (by omega), decide_eq_false (by omega)] <;> rfl
    have c1 : (items.isEmpty || x == 1) = false := by rw [hne, Bool.false_or]; exact beq_eq_false_iff_ne.mpr (by omega)
    have c2 : (decide (x ≤ 0) || items.isEmpty) = true := by rw [decide_eq_true h0] <;> rfl
    wp_walk using wpAny_loadPart' hl
    repeat (first
      | (refine wpAny_ite_false (decide_eq_false (by rw [c0]; exact Bool.false_ne_true)) ?_; wp_walk using wpAny_loadPart' hl)
      | (refine wpAny_ite_false (decide_eq_false (by rw [c1]; exact Bool.false_ne_true)) ?_; wp_walk using wpAny_loadPart' hl)
      | (refine wpAny_ite_true (decide_eq_true (by rw [c2])) ?_; wp_walk using wpAny_loadPart' hl))
    exact ⟨_, rfl, h⟩
def rRepTA (K : PySem.W.Frag) : R2 := fun x y H Q => ∃ l k xs, x = .ref l ∧ y = .int k ∧ SqT K H l xs ∧ xs ≠ [] ∧ -(2 ^ 63) ≤ k ∧ k ≤ 1000 ∧ xs.length ≤ 1000 ∧ (k = 1 → Q (.ref l) H) ∧ ∀ p, H p = none → Q (.ref p) (upd H p (.tup (List.replicate k.toNat xs).flatten))
section
variable {K : PySem.W.Frag} {mg : Str → Option Value} {W : WX} {Z H : Hp} {S : Fp} {σ : Sl} {X : Cx}
theorem op_repTA : OpR X (binaryOp .Mult) (rRepTA X.K) := by
  intro pins s σ H x y v u Q I rx ry h
  obtain ⟨l, k, xs, rfl, rfl, hT, hne, h1, h2, hz, q1, q⟩ := h
  by_cases hk : 2 ≤ k
  · exact op_repT pins s σ H _ _ v u Q I rx ry ⟨l, k, xs, rfl, rfl, hT, hne, hk, h2, hz, q⟩
  cases rx
  obtain ⟨t, rfl⟩ := ry
  obtain ⟨its, r, ⟨⟨cls, dd, data, sl⟩, ho, hc, n, hd⟩, hs⟩ := I.tuple hT
  simp only at hc hd
  subst hc hd
  have hle : its.length = xs.length := r.length.symm
  have hn : its ≠ [] := fun e => hne (by
    rw [e] at hle
    exact List.eq_nil_of_length_eq_zero hle.symm)
  have hi : its.toArray.isEmpty = false := by
    cases its with
    | nil => exact absurd rfl hn
    | cons a b => rfl
  by_cases hk1 : k = 1
  · refine wpAny_binaryOp_repeat_ref (T := "tuple") (U := "int") (by decide) ⟨_, ho, rfl⟩ (fun s' => typeIs_int s' k t) noFill_tuple_mul F.fills_int_mul F.slot_int_rmul repeat_tuple F.slot_int_index.lookup
      (call_meets F.slot_int_rmul (typeIs_int s k t) F.entry_int_rmul (F.args_int_rmul_2 _ _) (int_rmul_tuple k t l its.toArray n dd sl)
        ⟨ho, rfl, ⟨_, ho, rfl⟩, call_meets F.slot_tuple_mul ⟨_, ho, rfl⟩ F.entry_tuple_mul (F.args_tuple_mul_2 _ _) (tuple_mul1 l its.toArray n dd sl k t hk1) ⟨ho, ?_⟩⟩)
    exact ⟨.ref l, H, I, rfl, q1 hk1⟩
  · refine wpAny_binaryOp_repeat_ref (T := "tuple") (U := "int") (by decide) ⟨_, ho, rfl⟩ (fun s' => typeIs_int s' k t) noFill_tuple_mul F.fills_int_mul F.slot_int_rmul repeat_tuple F.slot_int_index.lookup
      (call_meets F.slot_int_rmul (typeIs_int s k t) F.entry_int_rmul (F.args_int_rmul_2 _ _) (int_rmul_tuple k t l its.toArray n dd sl)
        ⟨ho, rfl, ⟨_, ho, rfl⟩, call_meets F.slot_tuple_mul ⟨_, ho, rfl⟩ F.entry_tuple_mul (F.args_tuple_mul_2 _ _) (tuple_mul0 l its.toArray n dd sl k t (by omega) h1 hi) ⟨ho, ?_⟩⟩)
    have e0 : (List.replicate k.toNat xs).flatten = [] := by rw [show k.toNat = 0 by omega]; rfl
    have q' := q s.heap.objs.size (I.hok.fresh (Nat.le_refl _))
    rw [e0] at q'
    refine ⟨.ref s.heap.objs.size, _, I.laid (t' := s.toks) (o := .tup []) (fun b ob q => Heap.get?_push_of_some _ q) (Nat.le_refl _) ?_, rfl, q'⟩
    exact ⟨Nat.zero_le _, [], .nil, IsTup.new _ _⟩
def opRepT : List D → Option D
  | [.node false .tup xs, .int k] => if plainL xs = true ∧ xs.length ≠ 0 ∧ -(2 ^ 63) ≤ k ∧ k ≤ 1000 ∧ xs.length ≤ 1000 then some (.tup (List.replicate k.toNat xs).flatten) else none
  | _ => none
theorem opd_repT : Opd X (binaryOp .Mult) opRepT := by
  refine ⟨_, op_repTA, fun Z H S ds vs d Q w rb e k => ?_⟩
  unfold opRepT at e
  split at e
  · split at e
    · rename_i xs n hp
      obtain ⟨h1, h2, h3, h4, h5⟩ := hp
      obtain ⟨v, u, rfl, rv, ru⟩ := rb2 rb
      obtain ⟨a, ys, rfl, c, rl⟩ := rv
      obtain rfl : u = .int n := ru
      have hlen := rl.length
      have rp := rl.plain (H' := H) h1
      cases e
      refine ⟨_, _, rfl, a, n, ys, rfl, rfl, SqT.sam c w.same, fun e => h2 (by rw [hlen, e]; rfl), h3, h4, by omega, fun e => ?_, fun p np => ?_⟩
      · have e1 : (List.replicate n.toNat xs).flatten = xs := by rw [e]; simp
        rw [e1] at k
        refine k (.ref a) Z H Fp0 w.nil (fun _ _ e => e) (fun _ _ x => x) ?_
        exact ⟨a, ys, rfl, c, rp⟩
      · obtain ⟨f1, f2, f3⟩ := fresh_tup w np (reps_rep rp n.toNat)
        exact k _ _ _ _ f1 f2 (fun _ _ x => x) f3
    · cases e
  · cases e
/-- everything that is multiplied -/
def hMulT : List D → Option D
  | [.node o .tup xs, .int k] => opRepT [.node o .tup xs, .int k]
  | ds => hMul ds
theorem opd_hMulT : Opd X (binaryOp .Mult) hMulT := Opd.or opd_hMul opd_repT fun ds d h => by
  unfold hMulT at h
  split at h
  · exact .inr h
  · exact .inl h
theorem hMulT_ii (i j : Int) : hMulT [.int i, .int j] = iMul i j := rfl
end
end Pm
namespace Pm
open PySem PySem.Spec PyProof.Rows L2
/-- the text with these signs -/
def T (l : List Nat) : Str := ⟨l.toArray⟩
theorem T_len (l : List Nat) : (T l).length = l.length := rfl
theorem T_list (l : List Nat) : (T l).cps.toList = l := rfl
theorem T_app (a b : List Nat) : T a ++ T b = T (a ++ b) := by
  show (⟨a.toArray ++ b.toArray⟩ : Str) = ⟨(a ++ b).toArray⟩
  rw [← List.append_toArray]
theorem T_inj {a b : List Nat} (h : T a = T b) : a = b := by
  have := congrArg (fun x : Str => x.cps.toList) h
  exact this
theorem T_eq (a b : List Nat) : (T a == T b) = decide (a = b) := by
  by_cases h : a = b
  · subst h; simp
  · rw [decide_eq_false h]
    exact beq_eq_false_iff_ne.mpr fun q => h (T_inj q)
theorem T_lit (s : String) : Str.ofString s = T (s.toList.map Char.toNat) := Str.ofString_eq_toList s
theorem sub_T (c : Nat) (l : List Nat) : subS (T [c]) (T l) = decide (c ∈ l) := PySem.StrLaws.found_one (T l) c
theorem join_T (xs : List (List Nat)) : Txt.join (T []) (xs.map T) = T xs.flatten := by
  rw [TL.join_eq]
  refine TL.ext_tl ?_
  rw [TL.tl_join, List.map_map]
  have e : (xs.map (TL.tl ∘ T)) = xs := by
    induction xs with
    | nil => rfl
    | cons x xs ih => rw [List.map_cons, ih]; rfl
  rw [e]
  show TL.joinL [] xs = xs.flatten
  induction xs with
  | nil => rfl
  | cons x xs ih =>
    cases xs with
    | nil => simp [TL.joinL]
    | cons y ys =>
      have ih' := ih (by
        have := List.tail_eq_of_cons_eq e
        exact this)
      rw [TL.joinL, ih']
      · simp
theorem count_T (l : List Nat) (c : Nat) : Txt.count (T l) (T [c]) = (l.count c : Nat) := by
  show Txt.count (T l) ⟨#[c]⟩ = _
  rw [PyProof.Rows.count_cnt]
  show PyProof.Rows.cnt c l = _
  induction l with
  | nil => rfl
  | cons x xs ih =>
    rw [PyProof.Rows.cnt_cons, ih, List.count_cons]
    by_cases h : x = c
    · subst h; simp; omega
    · simp [h, Ne.symm h]
def slL {α : Type} (xs : List α) (lo hi : Option Int) : List α := (xs.drop (HT.sIx xs.length 0 lo)).take (HT.sIx xs.length xs.length hi - HT.sIx xs.length 0 lo)
theorem slL_to {α : Type} (xs : List α) (k : Nat) : slL xs none (some (k : Int)) = xs.take k := by
  unfold slL
  rw [HT.sIx_none, HT.sIx_nat, List.drop_zero, Nat.sub_zero]
  by_cases h : k ≤ xs.length
  · rw [Nat.min_eq_left h]
  · rw [Nat.min_eq_right (by omega), List.take_of_length_le (Nat.le_refl _), List.take_of_length_le (by omega)]
theorem gCut_T {l : List Nat} (h : l.length ≤ cap) (lo hi : Option Int) : gCut lo hi (.str (T l)) = some (.str (T (slL l lo hi))) := by
  show (if (T l).length ≤ cap then some (D.str (cutS (T l) lo hi)) else none) = _
  rw [if_pos (show (T l).length ≤ cap from h)]
  rfl
theorem join_ok (o : Bool) (xs : List (List Nat)) (h : xs.flatten.length ≤ cap) : opJoin [.str (T []), .node o .lst (xs.map fun l => D.str (T l))] = some (.str (T xs.flatten)) := by
  have e : (xs.map fun l => D.str (T l)) = (xs.map T).map D.str := by rw [List.map_map]; rfl
  rw [e]
  show (match strsD ((xs.map T).map D.str) with | some ys => if (ys.map fun y : Str => y.length).sum + ys.length * (T []).length ≤ cap then some (D.str (Txt.join (T []) ys)) else none | none => none) = _
  rw [strsD_map]
  have hs : ((xs.map T).map fun y : Str => y.length).sum + (xs.map T).length * (T []).length ≤ cap := by
    rw [show (T []).length = 0 from rfl, Nat.mul_zero, Nat.add_zero, List.map_map]
    refine Nat.le_trans (Nat.le_of_eq ?_) h
    rw [List.length_flatten]
    rfl
  simp only
  rw [if_pos hs, join_T]
theorem len_T {l : List Nat} (h : l.length ≤ cap) : opLen [.str (T l)] = some (.int l.length) := by
  show (if (T l).length ≤ cap then some (D.int (T l).length) else none) = _
  rw [if_pos (show (T l).length ≤ cap from h)]
  rfl
theorem eq_T (a b : List Nat) : opEq [.str (T a), .str (T b)] = some (.bl (decide (a = b))) := by rw [eq_ss, T_eq]
theorem in_T (c : Nat) (l : List Nat) : opIn [.str (T [c]), .str (T l)] = some (.bl (decide (c ∈ l))) := by
  show some (D.bl (subS (T [c]) (T l))) = _
  rw [sub_T]
theorem rep_fold (l : Array Nat) : ∀ (n : Nat) (a : Array Nat), ((List.replicate n l).foldl (· ++ ·) a).toList = a.toList ++ (List.replicate n l.toList).flatten
  | 0, a => by simp
  | n + 1, a => by
    rw [List.replicate_succ, List.foldl_cons, rep_fold l n, List.replicate_succ, List.flatten_cons, Array.toList_append, List.append_assoc]
theorem rep_T (l : List Nat) (n : Nat) : strRep (T l) (n : Int) = T (List.replicate n l).flatten := by
  refine TL.ext_tl ?_
  unfold strRep
  by_cases h0 : (n : Int) < 1
  · rw [if_pos h0]
    have : n = 0 := by omega
    subst this
    rfl
  · rw [if_neg h0]
    by_cases h1 : ((n : Int) == 1 || (T l).length == 0) = true
    · rw [if_pos h1]
      rw [Bool.or_eq_true, beq_iff_eq, beq_iff_eq] at h1
      rcases h1 with h1 | h1
      · have : n = 1 := by omega
        subst this
        show l = (List.replicate 1 l).flatten
        simp
      · have : l = [] := List.length_eq_zero_iff.mp h1
        subst this
        show [] = (List.replicate n ([] : List Nat)).flatten
        simp
    · rw [if_neg h1]
      show ((List.replicate (n : Int).toNat (T l).cps).foldl (· ++ ·) #[]).toList = (List.replicate n l).flatten
      rw [rep_fold, Int.toNat_natCast]
      rfl
theorem mul_T {l : List Nat} {n : Nat} (h : n ≤ 1000000) (h2 : l.length * n ≤ cap) : hMulT [.str (T l), .int (n : Int)] = some (.str (T (List.replicate n l).flatten)) := by
  show (if (n : Int) ≤ 1000000 ∧ -1000000 ≤ (n : Int) ∧ (T l).length * (n : Int).toNat ≤ cap then some (D.str (strRep (T l) (n : Int))) else none) = _
  rw [if_pos ⟨by omega, by omega, by rw [Int.toNat_natCast]; exact h2⟩, rep_T]
end Pm
namespace Pm
open PySem PySem.Spec PyProof.Rows L2
section
variable {K : PySem.W.Frag} {mg : Str → Option Value} {W : WX} {Z H : Hp} {S : Fp} {σ : Sl} {X : Cx} {e : Expr} {es : List Expr} {fa fb : M EV} {pos : Pos}
theorem call_listT (hc : X.calm = true) : CallR X (.type "list") (fun xs H Q => ∃ x : Str, xs = [.str x] ∧ x.length ≤ 1000000 ∧ ∀ l, H l = none → Q (.ref l) (upd H l (.lst (x.cps.toList.map fun c => V.str ⟨#[c]⟩)))) := by
  intro pins s σ H xs us Q I r h
  obtain ⟨x, rfl, hx, q⟩ := h
  obtain ⟨u, rfl, rx⟩ := vals1 r
  obtain ⟨t, rfl⟩ := rx
  have hz : x.cps.size ≤ sizeLine := by
    rw [sizeLine_eq]
    have : x.cps.size ≤ 1000000 := hx
    omega
  refine PySem.call_list_str (I.ok.hd hc) x t (fun h' tk acc' c' hk hS hacc => ?_) hz
  refine ⟨.ref s.heap.objs.size, upd H s.heap.objs.size (.lst (x.cps.toList.map fun c => V.str ⟨#[c]⟩)), I.laid hk (Nat.le_refl _) (show ObjOk X.prog X.w _ _ _ (.lst (x.cps.toList.map fun c => V.str ⟨#[c]⟩)) from ⟨?_, acc'.toList, c', ?_, ?_⟩), rfl, q _ (I.hok.fresh (Nat.le_refl _))⟩
  · rw [List.length_map, Array.length_toList]; exact hz
  · have el : acc'.toList.length = acc'.size := by simp
    refine vals_of_at (by rw [List.length_map, el, hacc.1, Array.length_toList]) fun j y w h1 h2 => ?_
    have h3 := hacc.2 j w (by rw [← Array.getElem?_toList]; exact h2)
    obtain ⟨c, t2, hc2, rfl⟩ := h3
    rw [List.getElem?_map, Array.getElem?_toList, hc2] at h1
    cases h1
    exact ⟨t2, rfl⟩
  · rw [Array.toArray_toList]; exact hS
def opListA : List D → Option D
  | [.str x] => if x.length ≤ cap then some (.lst true (signsD x)) else none
  | ds => opList ds
theorem call_listA (hc : X.calm = true) : CallR X (.type "list") (fun xs H Q => (∃ p ys, xs = [.ref p] ∧ (SqL X.K H p ys ∨ SqT X.K H p ys) ∧ ∀ l, H l = none → Q (.ref l) (upd H l (.lst ys))) ∨ ∃ x : Str, xs = [.str x] ∧ x.length ≤ 1000000 ∧ ∀ l, H l = none → Q (.ref l) (upd H l (.lst (x.cps.toList.map fun c => V.str ⟨#[c]⟩)))) := by
  intro pins s σ H xs us Q I r h
  rcases h with h | h
  · exact call_list_of pins s σ H xs us Q I r h
  · exact call_listT hc pins s σ H xs us Q I r h
theorem rep_signs (l : List Nat) : RepL K Z H (l.map fun c => D.str ⟨#[c]⟩) (l.map fun c => V.str ⟨#[c]⟩) Fp0 := by
  induction l with
  | nil => trivial
  | cons c l ih => exact ⟨Fp0, Fp0, fun _ x => x, fun _ x => x, fun _ x _ => x, rfl, ih⟩
theorem snd_listA : Snd X (fun xs H Q => (∃ p ys, xs = [.ref p] ∧ (SqL X.K H p ys ∨ SqT X.K H p ys) ∧ ∀ l, H l = none → Q (.ref l) (upd H l (.lst ys))) ∨ ∃ x : Str, xs = [.str x] ∧ x.length ≤ 1000000 ∧ ∀ l, H l = none → Q (.ref l) (upd H l (.lst (x.cps.toList.map fun c => V.str ⟨#[c]⟩)))) opListA := by
  intro Z H S ds vs d Q w rb e k
  unfold opListA at e
  split at e
  · rename_i x
    split at e
    · rename_i hx
      obtain ⟨v, rfl, rv⟩ := rb1 rb
      obtain rfl : v = .str x := rv
      cases e
      refine .inr ⟨x, rfl, hx, fun p np => ?_⟩
      obtain ⟨f1, f2, f3, f4⟩ := fresh_lst w np (rep_signs (K := X.K) (Z := Z) (H := H) x.cps.toList)
      exact k _ _ _ _ f1 f2 f3 f4
    · cases e
  · exact .inl (snd_list Z H S ds vs d Q w rb e k)
end
end Pm
namespace Pg
open PySem PySem.Spec PyProof.Rows L2 Pm
abbrev sg (c : Nat) : D := .str (T [c])
/-- a table as it is known here: letters as code points -/
abbrev Tab := List (Nat × Int × Int)
def rowD (r : Nat × Int × Int) : D := .tup [sg r.1, .int r.2.1, .int r.2.2]
def tabD (t : Tab) : D := .tup (t.map rowD)
abbrev GR : Int := 1000000000000
structure TabOk (t : Tab) : Prop where
  len1 : 1 ≤ t.length
  len6 : t.length ≤ 6
  asc : (t.map (·.1)).Pairwise (· < ·)
  let1 : ∀ r ∈ t, 97 ≤ r.1 ∧ r.1 ≤ 122
  num : ∀ r ∈ t, -GR ≤ r.2.1 ∧ r.2.1 ≤ GR ∧ -GR ≤ r.2.2 ∧ r.2.2 ≤ GR
theorem rowD_plain (r : Nat × Int × Int) : (rowD r).plain = true := rfl
theorem rows_plain (t : Tab) : plainL (t.map rowD) = true := by
  induction t with
  | nil => rfl
  | cons r t ih => rw [List.map_cons, plainL, ih, rowD_plain]; rfl
theorem tabD_plain (t : Tab) : (tabD t).plain = true := by
  show (true && plainL (t.map rowD)) = true
  rw [rows_plain]; rfl
theorem tabD_frz (t : Tab) : (tabD t).frz = tabD t := D.frz_of_plain _ (tabD_plain t)
/-- a draw, the pen owned -/
theorem dr {S : FSem} (hS : Draws S) {ns : List Int} {a m : Int} {xs : List D} (hl : ns.length ≤ 63) (hp : Pen ns a (.node true .lst xs)) (ha : a ≤ 1000000) (hm : 0 < m) (hd : divOk m = true) :
    ∃ (r : Int) (xs' : List D), S [.node true .lst xs, .int m] = .ret (.int r) [.node true .lst xs', .int m] ∧ 0 ≤ r ∧ r < m ∧ Pen ns (a + 1) (.node true .lst xs') := by
  obtain ⟨r, d', e, h0, h1, p⟩ := hS ns _ a m hl hp ha hm hd
  obtain ⟨xs', rfl⟩ := p.owned
  exact ⟨r, xs', e, h0, h1, p⟩
theorem divS {m : Int} (h0 : 0 ≤ m) (h1 : m ≤ 100000000000000) : divOk m = true := Sm.divOk (e := 50) (by unfold Sm; omega) (by decide)
abbrev ABC : List Nat := [97, 98, 99, 100, 101, 102, 103, 104, 105, 106, 107, 108, 109, 110, 111, 112, 113, 114, 115, 116, 117, 118, 119, 120, 121, 122]
theorem abc_T : (("abcdefghijklmnopqrstuvwxyz" : String) : Str) = T ABC := by
  rw [show ((("abcdefghijklmnopqrstuvwxyz" : String) : Str)) = Str.ofString "abcdefghijklmnopqrstuvwxyz" from rfl, T_lit]; rfl
theorem sgs_plain (l : List Nat) : plainL (l.map sg) = true := by
  induction l with
  | nil => rfl
  | cons x xs ih => rw [List.map_cons, plainL, ih]; rfl
theorem get_sg {l : List Nat} {k : Nat} (h : k < l.length) : (l.map sg)[k]? = some (sg l[k]) := by
  rw [List.getElem?_map, List.getElem?_eq_getElem h]; rfl
theorem erase_map {α β : Type} (f : α → β) : ∀ (l : List α) (k : Nat), (l.map f).eraseIdx k = (l.eraseIdx k).map f
  | [], _ => by simp
  | _ :: _, 0 => by simp
  | x :: xs, k + 1 => by simp [erase_map f xs k]
theorem erase_perm {α : Type} : ∀ (l : List α) (k : Nat) (h : k < l.length), (l[k] :: l.eraseIdx k).Perm l
  | [], _, h => by simp at h
  | _ :: _, 0, _ => by simp
  | x :: xs, k + 1, h => by
    have ih := erase_perm xs k (by simpa using h)
    simp only [List.getElem_cons_succ, List.eraseIdx_cons_succ]
    exact (List.Perm.swap x _ _).trans (List.Perm.cons x ih)
theorem perm_erase {p l q : List Nat} {k : Nat} (h : k < l.length) (hp : (p ++ l).Perm q) : ((p ++ [l[k]]) ++ l.eraseIdx k).Perm q := by
  refine List.Perm.trans ?_ hp
  rw [List.append_assoc]
  refine List.Perm.append_left p ?_
  exact erase_perm l k h
theorem strs_sg (ps : List Nat) : strsD (ps.map sg) = some (ps.map fun c => T [c]) := by
  have e : ps.map sg = (ps.map fun c => T [c]).map D.str := by rw [List.map_map]; rfl
  rw [e, strsD_map]
theorem ints_sg {ps : List Nat} (h : ps ≠ []) : intsD (ps.map sg) = none := by
  cases ps with
  | nil => exact absurd rfl h
  | cons p ps => rfl
theorem leS_sg (c d : Nat) : leS (T [c]) (T [d]) = decide (c ≤ d) := by
  unfold leS
  rw [T_list, T_list]
  by_cases h : c ≤ d
  · rw [decide_eq_true h, Bool.not_eq_true', decide_eq_false_iff_not]
    intro q
    rcases List.cons_lt_cons_iff.mp q with q | ⟨_, q⟩
    · omega
    · exact absurd q (List.lt_irrefl _)
  · rw [decide_eq_false h, Bool.not_eq_false', decide_eq_true_eq]
    exact List.cons_lt_cons_iff.mpr (.inl (by omega))
/-- sorted letters -/
theorem sorted_sg (ps : List Nat) (h : ps ≠ []) (hl : ps.length < 64) (hn : ps.Nodup) : ∃ qs : List Nat, opSorted [.node true .lst (ps.map sg)] = some (.lst true (qs.map sg)) ∧ qs.Perm ps ∧ qs.Pairwise (· < ·) := by
  have hp := sortS_perm (ps.map fun c => T [c])
  have hpair := sortS_pair (ps.map fun c => T [c])
  obtain ⟨qs, hq, e⟩ : ∃ qs : List Nat, qs.Perm ps ∧ sortS (ps.map fun c => T [c]) = qs.map fun c => T [c] := by
    have := hp
    generalize sortS (ps.map fun c => T [c]) = l at this
    refine ⟨l.map fun x => x.cps.toList.headD 0, ?_, ?_⟩
    · have h2 := this.map (fun x : Str => x.cps.toList.headD 0)
      rw [List.map_map] at h2
      have e : (ps.map ((fun x : Str => x.cps.toList.headD 0) ∘ fun c => T [c])) = ps := by
        conv => rhs; rw [← List.map_id ps]
        rfl
      rw [e] at h2
      exact h2
    · rw [List.map_map]
      have all : ∀ x ∈ l, ∃ c, x = T [c] := fun x hx => by
        have := this.mem_iff.mp hx
        obtain ⟨c, _, rfl⟩ := List.mem_map.mp this
        exact ⟨c, rfl⟩
      conv => lhs; rw [← List.map_id l]
      refine List.map_congr_left fun x hx => ?_
      obtain ⟨c, rfl⟩ := all x hx
      rfl
  refine ⟨qs, ?_, hq, ?_⟩
  · show (match intsD (ps.map sg) with | some ns => some (D.lst true ((sortI ns).map D.int)) | none => match strsD (ps.map sg) with | some ys => if ys.length < 64 then some (.lst true ((sortS ys).map D.str)) else none | none => none) = _
    rw [ints_sg h, strs_sg]
    simp only
    rw [if_pos (by rw [List.length_map]; exact hl), e, List.map_map]
    rfl
  · rw [e] at hpair
    have h1 : qs.Pairwise fun x y => leS (T [x]) (T [y]) = true := List.pairwise_map.mp hpair
    have h2 : qs.Nodup := hq.nodup_iff.mpr hn
    have h3 := h1.and h2
    exact h3.imp fun {x y} ⟨q1, q2⟩ => by
      rw [leS_sg, decide_eq_true_eq] at q1
      omega
theorem pow12 : iPow 10 12 = some (.int 1000000000000) := rfl
end Pg
namespace Pg
open PySem PySem.Spec PyProof.Rows L2 Pm
def lets (t : Tab) : List Nat := t.map (·.1)
theorem ix_nat {n k : Nat} (h : k < n) : ixN n (k : Int) = some k := by
  unfold ixN
  rw [if_pos (by omega), if_pos (by omega), Int.toNat_natCast]
theorem empty_T : (("" : String) : Str) = T [] := rfl
end Pg
namespace Ex
mutual
/-- an operand: a dot, or an expression in a pair -/
inductive Op where
  | dot | par (e : E)
/-- an expression: operands with letters between -/
inductive E where
  | one (o : Op) | cons (o : Op) (c : Nat) (e : E)
end
mutual
def Op.text : Op → List Nat
  | .dot => [46]
  | .par e => 40 :: (e.text ++ [41])
def E.text : E → List Nat
  | .one o => o.text
  | .cons o c e => o.text ++ c :: e.text
end
mutual
def Op.lets : Op → List Nat
  | .dot => []
  | .par e => e.lets
def E.lets : E → List Nat
  | .one o => o.lets
  | .cons o c e => o.lets ++ c :: e.lets
end
mutual
def Op.prs : Op → Nat
  | .dot => 0
  | .par e => e.prs + 1
def E.prs : E → Nat
  | .one o => o.prs
  | .cons o _ e => o.prs + e.prs
end
mutual
theorem Op.len : ∀ o : Op, o.text.length = 2 * o.lets.length + 1 + 2 * o.prs
  | .dot => rfl
  | .par e => by
    have := E.len e
    simp [Op.text, Op.lets, Op.prs]
    omega
theorem E.len : ∀ e : E, e.text.length = 2 * e.lets.length + 1 + 2 * e.prs
  | .one o => Op.len o
  | .cons o c e => by
    have h1 := Op.len o
    have h2 := E.len e
    simp [E.text, E.lets, E.prs]
    omega
end
end Ex
namespace Pg
open PySem PySem.Spec PyProof.Rows L2 Pm
theorem dot_T : (("." : String) : Str) = T [46] := by rw [show ((("." : String) : Str)) = Str.ofString "." from rfl, T_lit]; rfl
theorem opn_T : (("(" : String) : Str) = T [40] := by rw [show ((("(" : String) : Str)) = Str.ofString "(" from rfl, T_lit]; rfl
theorem cls_T : ((")" : String) : Str) = T [41] := by rw [show (((")" : String) : Str)) = Str.ofString ")" from rfl, T_lit]; rfl
theorem signsD_T (l : List Nat) : signsD (T l) = l.map sg := rfl
end Pg
namespace Ex
def isL (c : Nat) : Bool := decide (97 ≤ c) && decide (c ≤ 122)
/-- operators, pairs, depth, whether an operand is wanted -/
abbrev St := Nat × Nat × Nat × Bool
def cstep : St → Nat → Option St
  | (o, p, d, true), c => if c = 40 then some (o, p + 1, d + 1, true) else if c = 46 then some (o, p, d, false) else none
  | (o, p, d, false), c => if c = 41 ∧ 0 < d then some (o, p, d - 1, false) else if isL c = true then some (o + 1, p, d, true) else none
def scan : St → List Nat → Option St
  | s, [] => some s
  | s, c :: r => match cstep s c with
    | some s' => scan s' r
    | none => none
def counts (l : List Nat) : Option (Nat × Nat) := match scan (0, 0, 0, true) l with
  | some (o, p, d, w) => if w = true ∨ 0 < d then none else some (o, p)
  | none => none
theorem isL_40 {c : Nat} (h : isL c = true) : c ≠ 40 ∧ c ≠ 41 ∧ c ≠ 46 := by
  unfold isL at h
  rw [Bool.and_eq_true, decide_eq_true_eq, decide_eq_true_eq] at h
  omega
/-- no pair signs -/
def nk (c : Nat) : Bool := c != 40 && c != 41
def dep (l : List Nat) : Int := (l.count 40 : Nat) - (l.count 41 : Nat)
end Ex
namespace Pg
open PySem PySem.Spec PyProof.Rows L2 Pm
noncomputable def b_counts_in_1 : M Fl := (Pm.ite (andT (tst (loc 4)) (tst (Pm.bin opEq (loc 5) (con (.str "("))))) (seq (asg (Pm.bin (on2I iAdd) (loc 3) (con (.int 1))) (gN 3))
    (asg (Pm.bin (on2I iAdd) (loc 2) (con (.int 1))) (gN 2))) (Pm.ite (andT (tst (loc 4)) (tst (Pm.bin opEq (loc 5) (con (.str "."))))) (asg (con (.bl false)) (gN 4)) (Pm.ite (andT (notT (tst (loc 4))) (andT (tst (Pm.bin opEq (loc 5) (con (.str ")")))) (tst (Pm.bin opGtA (loc 3) (con (.int 0)))))) (asg (Pm.bin (on2I iSub) (loc 3) (con (.int 1))) (gN 3)) (Pm.ite (andT (notT (tst (loc 4))) (tst (Pm.bin opIn (loc 5) (con (.str "abcdefghijklmnopqrstuvwxyz"))))) (seq (asg (Pm.bin (on2I iAdd) (loc 1) (con (.int 1))) (gN 1))
    (asg (con (.bl true)) (gN 4))) (rtn (con .non))))))
noncomputable def b_counts_in : M Fl := (seq (asg3 (con (.int 0)) (gN 1) (gN 2) (gN 3))
    (seq (asg (con (.bl true)) (gN 4))
    (seq (forS (srcA (loc 0)) (gN 5) b_counts_in_1)
    (rtn (ifE (orT (tst (loc 4)) (tst (Pm.bin opGtA (loc 3) (con (.int 0))))) (con .non) (disp false .tup (aCons (loc 1) (aCons (loc 2) aNil))))))))
noncomputable def x_counts_in : FSem := mkF 1 6 [] b_counts_in
theorem mem_ABC (c : Nat) : decide (c ∈ ABC) = Ex.isL c := by
  unfold Ex.isL
  rw [← Bool.decide_and]
  refine decide_eq_decide.mpr ?_
  simp only [ABC, List.mem_cons, List.not_mem_nil, or_false]
  omega
def code (x : Str) : Nat := x.cps.toList.headD 0
theorem flat_sgs (l : List Nat) : (l.map fun c => [c]).flatten = l := by
  induction l with
  | nil => rfl
  | cons c l ih => simp [ih]
theorem join_sg (o : Bool) (l : List Nat) (h : l.length ≤ cap) : opJoin [.str (T []), .node o .lst (l.map sg)] = some (.str (T l)) := by
  have := join_ok o (l.map fun c => [c]) (by rw [flat_sgs]; exact h)
  rw [List.map_map, flat_sgs] at this
  exact this
theorem src_T {f : M EV} {ρ : Pm.Env} {l : List Nat} {j : Nat} (h : f ρ = .ok (.ref j) ρ) (h2 : ρ.getD j none = some (.str (T l))) (h3 : ρ.set j (some (.str (T l))) = ρ) : srcA f ρ = .ok (l.map sg) ρ := by
  simp only [srcA, bnd, h, use1, h2, D.frz, h3, signsD_T, Pm.ret]
theorem in_ABC (c : Nat) : opIn [sg c, .str ("abcdefghijklmnopqrstuvwxyz" : String)] = some (.bl (Ex.isL c)) := by
  rw [abc_T, in_T, mem_ABC]
theorem eq_sg (c : Nat) (k : Nat) : opEq [sg c, .str (T [k])] = some (.bl (decide (c = k))) := by
  rw [eq_T]
  congr 2
  simp
def cntD : Option (Nat × Nat) → D
  | none => .non
  | some (o, p) => .tup [.int (o : Int), .int (p : Int)]
theorem counts_ok (l : List Nat) (h : l.length ≤ 100000) : x_counts_in [.str (T l)] = .ret (cntD (Ex.counts l)) [.str (T l)] := by
  have hw : Wf x_counts_in [.str (T l)] fun d as => d = cntD (Ex.counts l) ∧ as = [.str (T l)] := by
    unfold x_counts_in
    refine wf_mkF ?_
    unfold b_counts_in
    show Wp _ [some (.str (T l)), none, none, none, none, none] _
    refine wp_seq fun K k1 k2 k3 k4 => ?_
    simp [Wp, mkF, reFrz, seq, Pm.ite, rtn, mov, asg, drp, sNx, bnd, Pm.bin, Pm.un, app, aCons, aNil, idx, loc, con, Pm.ret, peek1, peeks, itemOf, on2I, iAdd, iSub, iGt, iGe, iLt, iLe, iDiv, iMod, use1, useL, gI, gN, tst, andT, orT, notT, andE, orE, notE, ifE, ixN, D.frz, D.plain, plainL, argsBack, opLen, opAbs, opInt1, opNeg, disp, cap, callF, takes, puts, selA, sel, aApp, par, gT, gsC, gs0, appF, opDivmod, frzL, plainL, asg3]
    refine k1 _ ?_
    clear k1 k2 k3 k4 K
    refine wp_seq fun K k1 k2 k3 k4 => ?_
    simp [Wp, mkF, reFrz, seq, Pm.ite, rtn, mov, asg, drp, sNx, bnd, Pm.bin, Pm.un, app, aCons, aNil, idx, loc, con, Pm.ret, peek1, peeks, itemOf, on2I, iAdd, iSub, iGt, iGe, iLt, iLe, iDiv, iMod, use1, useL, gI, gN, tst, andT, orT, notT, andE, orE, notE, ifE, ixN, D.frz, D.plain, plainL, argsBack, opLen, opAbs, opInt1, opNeg, disp, cap, callF, takes, puts, selA, sel, aApp, par, gT, gsC, gs0, appF, opDivmod, frzL, plainL]
    refine k1 _ ?_
    clear k1 k2 k3 k4 K
    refine wp_seq fun K0 j1 j2 j3 j4 => ?_
    have hs : srcA (loc 0) [some (.str (T l)), some (.int 0), some (.int 0), some (.int 0), some (.bl true), none] = .ok (l.map sg) [some (.str (T l)), some (.int 0), some (.int 0), some (.int 0), some (.bl true), none] := src_T (j := 0) rfl rfl rfl
    refine wp_for hs (fun j ρ => ∃ (o p d : Nat) (w : Bool) (x5 : Option D), ρ = [some (.str (T l)), some (.int (o : Int)), some (.int (p : Int)), some (.int (d : Int)), some (.bl w), x5] ∧ Ex.scan (o, p, d, w) (l.drop j) = Ex.scan (0, 0, 0, true) l) ⟨0, 0, 0, true, none, rfl, rfl⟩ ?_ ?_
    · rintro j d ρ hd ⟨o, p, dp, w, x5, rfl, hsc⟩
      have hj : j < l.length := by
        have := (List.getElem?_eq_some_iff.mp hd).1
        simpa using this
      obtain rfl : sg l[j] = d := by rw [get_sg hj] at hd; exact Option.some.inj hd
      refine ⟨_, rfl, ?_⟩
      rw [List.drop_eq_getElem_cons hj] at hsc
      generalize hc : l[j] = c at *
      have hbad : Ex.cstep (o, p, dp, w) c = none → Fin [] [.str (T l)] (fun d as => d = cntD (Ex.counts l) ∧ as = [.str (T l)]) (.rt .non) [some (.str (T l)), some (.int (o : Int)), some (.int (p : Int)), some (.int (dp : Int)), some (.bl w), some (sg c)] := fun q => by
        have e : Ex.counts l = none := by
          unfold Ex.counts
          rw [← hsc, Ex.scan, q]
        exact ⟨_, rfl, by rw [e]; rfl, rfl⟩
      have hgo : ∀ o' p' d' w', Ex.cstep (o, p, dp, w) c = some (o', p', d', w') → Ex.scan (o', p', d', w') (l.drop (j + 1)) = Ex.scan (0, 0, 0, true) l := fun o' p' d' w' q => by
        rw [← hsc, Ex.scan, q]
      clear hsc
      unfold b_counts_in_1
      show Wp _ [some (.str (T l)), some (.int (o : Int)), some (.int (p : Int)), some (.int (dp : Int)), some (.bl w), some (sg c)] _
      cases w with
      | true =>
        by_cases h0 : c = 40
        · subst h0
          refine wp_end fun K k1 k2 k3 k4 => ?_
          simp [Wp, mkF, reFrz, seq, Pm.ite, rtn, mov, asg, drp, sNx, bnd, Pm.bin, Pm.un, app, aCons, aNil, idx, loc, con, Pm.ret, peek1, peeks, itemOf, on2I, iAdd, iSub, iGt, iGe, iLt, iLe, iDiv, iMod, use1, useL, gI, gN, tst, andT, orT, notT, andE, orE, notE, ifE, ixN, D.frz, D.plain, plainL, argsBack, opLen, opAbs, opInt1, opNeg, disp, cap, callF, takes, puts, selA, sel, aApp, par, gT, gsC, gs0, appF, opDivmod, frzL, plainL, opn_T, cls_T, dot_T, eq_sg]
          exact k1 _ ⟨o, p + 1, dp + 1, true, _, rfl, hgo _ _ _ _ rfl⟩
        · by_cases h1 : c = 46
          · subst h1
            refine wp_end fun K k1 k2 k3 k4 => ?_
            simp [Wp, mkF, reFrz, seq, Pm.ite, rtn, mov, asg, drp, sNx, bnd, Pm.bin, Pm.un, app, aCons, aNil, idx, loc, con, Pm.ret, peek1, peeks, itemOf, on2I, iAdd, iSub, iGt, iGe, iLt, iLe, iDiv, iMod, use1, useL, gI, gN, tst, andT, orT, notT, andE, orE, notE, ifE, ixN, D.frz, D.plain, plainL, argsBack, opLen, opAbs, opInt1, opNeg, disp, cap, callF, takes, puts, selA, sel, aApp, par, gT, gsC, gs0, appF, opDivmod, frzL, plainL, opn_T, cls_T, dot_T, eq_sg]
            exact k1 _ ⟨o, p, dp, false, _, rfl, hgo _ _ _ _ rfl⟩
          · have hn : Ex.cstep (o, p, dp, true) c = none := by
              show (if c = 40 then some (o, p + 1, dp + 1, true) else if c = 46 then some (o, p, dp, false) else none) = none
              rw [if_neg h0, if_neg h1]
            refine wp_end fun K k1 k2 k3 k4 => ?_
            simp [Wp, mkF, reFrz, seq, Pm.ite, rtn, mov, asg, drp, sNx, bnd, Pm.bin, Pm.un, app, aCons, aNil, idx, loc, con, Pm.ret, peek1, peeks, itemOf, on2I, iAdd, iSub, iGt, iGe, iLt, iLe, iDiv, iMod, use1, useL, gI, gN, tst, andT, orT, notT, andE, orE, notE, ifE, ixN, D.frz, D.plain, plainL, argsBack, opLen, opAbs, opInt1, opNeg, disp, cap, callF, takes, puts, selA, sel, aApp, par, gT, gsC, gs0, appF, opDivmod, frzL, plainL, opn_T, cls_T, dot_T, eq_sg, h0, h1]
            exact k2 _ _ (j2 _ _ (hbad hn))
      | false =>
        by_cases h0 : c = 41
        · subst h0
          by_cases hd : 0 < dp
          · have hq : (dp : Int) - 1 = ((dp - 1 : Nat) : Int) := by omega
            refine wp_end fun K k1 k2 k3 k4 => ?_
            simp [Wp, mkF, reFrz, seq, Pm.ite, rtn, mov, asg, drp, sNx, bnd, Pm.bin, Pm.un, app, aCons, aNil, idx, loc, con, Pm.ret, peek1, peeks, itemOf, on2I, iAdd, iSub, iGt, iGe, iLt, iLe, iDiv, iMod, use1, useL, gI, gN, tst, andT, orT, notT, andE, orE, notE, ifE, ixN, D.frz, D.plain, plainL, argsBack, opLen, opAbs, opInt1, opNeg, disp, cap, callF, takes, puts, selA, sel, aApp, par, gT, gsC, gs0, appF, opDivmod, frzL, plainL, opn_T, cls_T, dot_T, eq_sg, opGtA_ii, hd]
            exact k1 _ ⟨o, p, dp - 1, false, _, by rw [hq], hgo _ _ _ _ (by show (if 41 = 41 ∧ 0 < dp then _ else _) = _; rw [if_pos ⟨rfl, hd⟩])⟩
          · have hn : Ex.cstep (o, p, dp, false) 41 = none := by
              show (if 41 = 41 ∧ 0 < dp then some (o, p, dp - 1, false) else if Ex.isL 41 = true then some (o + 1, p, dp, true) else none) = none
              rw [if_neg fun q => hd q.2]
              rfl
            have hi : opIn [sg 41, .str ("abcdefghijklmnopqrstuvwxyz" : String)] = some (.bl false) := in_ABC 41
            refine wp_end fun K k1 k2 k3 k4 => ?_
            simp [Wp, mkF, reFrz, seq, Pm.ite, rtn, mov, asg, drp, sNx, bnd, Pm.bin, Pm.un, app, aCons, aNil, idx, loc, con, Pm.ret, peek1, peeks, itemOf, on2I, iAdd, iSub, iGt, iGe, iLt, iLe, iDiv, iMod, use1, useL, gI, gN, tst, andT, orT, notT, andE, orE, notE, ifE, ixN, D.frz, D.plain, plainL, argsBack, opLen, opAbs, opInt1, opNeg, disp, cap, callF, takes, puts, selA, sel, aApp, par, gT, gsC, gs0, appF, opDivmod, frzL, plainL, opn_T, cls_T, dot_T, eq_sg, opGtA_ii, hd, hi]
            exact k2 _ _ (j2 _ _ (hbad hn))
        · cases hL : Ex.isL c with
          | true =>
            refine wp_end fun K k1 k2 k3 k4 => ?_
            simp [Wp, mkF, reFrz, seq, Pm.ite, rtn, mov, asg, drp, sNx, bnd, Pm.bin, Pm.un, app, aCons, aNil, idx, loc, con, Pm.ret, peek1, peeks, itemOf, on2I, iAdd, iSub, iGt, iGe, iLt, iLe, iDiv, iMod, use1, useL, gI, gN, tst, andT, orT, notT, andE, orE, notE, ifE, ixN, D.frz, D.plain, plainL, argsBack, opLen, opAbs, opInt1, opNeg, disp, cap, callF, takes, puts, selA, sel, aApp, par, gT, gsC, gs0, appF, opDivmod, frzL, plainL, opn_T, cls_T, dot_T, eq_sg, opGtA_ii, h0, in_ABC, hL]
            exact k1 _ ⟨o + 1, p, dp, true, _, rfl, hgo _ _ _ _ (by
              show (if c = 41 ∧ 0 < dp then some (o, p, dp - 1, false) else if Ex.isL c = true then some (o + 1, p, dp, true) else none) = _
              rw [if_neg fun q => h0 q.1, if_pos hL])⟩
          | false =>
            have hn : Ex.cstep (o, p, dp, false) c = none := by
              show (if c = 41 ∧ 0 < dp then some (o, p, dp - 1, false) else if Ex.isL c = true then some (o + 1, p, dp, true) else none) = none
              rw [if_neg fun q => h0 q.1, hL]
              rfl
            refine wp_end fun K k1 k2 k3 k4 => ?_
            simp [Wp, mkF, reFrz, seq, Pm.ite, rtn, mov, asg, drp, sNx, bnd, Pm.bin, Pm.un, app, aCons, aNil, idx, loc, con, Pm.ret, peek1, peeks, itemOf, on2I, iAdd, iSub, iGt, iGe, iLt, iLe, iDiv, iMod, use1, useL, gI, gN, tst, andT, orT, notT, andE, orE, notE, ifE, ixN, D.frz, D.plain, plainL, argsBack, opLen, opAbs, opInt1, opNeg, disp, cap, callF, takes, puts, selA, sel, aApp, par, gT, gsC, gs0, appF, opDivmod, frzL, plainL, opn_T, cls_T, dot_T, eq_sg, opGtA_ii, h0, in_ABC, hL]
            exact k2 _ _ (j2 _ _ (hbad hn))
    · rintro ρ ⟨o, p, d, w, x5, rfl, hsc⟩
      rw [List.length_map, List.drop_length, Ex.scan] at hsc
      refine j1 _ ?_
      clear j1 j2 j3 j4 K0
      have e : Ex.counts l = if w = true ∨ 0 < d then none else some (o, p) := by
        unfold Ex.counts
        rw [← hsc]
      rw [e]
      clear e hsc hs
      cases w with
      | true =>
        refine wp_end fun K k1 k2 k3 k4 => ?_
        simp [Wp, mkF, reFrz, seq, Pm.ite, rtn, mov, asg, drp, sNx, bnd, Pm.bin, Pm.un, app, aCons, aNil, idx, loc, con, Pm.ret, peek1, peeks, itemOf, on2I, iAdd, iSub, iGt, iGe, iLt, iLe, iDiv, iMod, use1, useL, gI, gN, tst, andT, orT, notT, andE, orE, notE, ifE, ixN, D.frz, D.plain, plainL, argsBack, opLen, opAbs, opInt1, opNeg, disp, cap, callF, takes, puts, selA, sel, aApp, par, gT, gsC, gs0, appF, opDivmod, frzL, plainL]
        exact k2 _ _ ⟨_, rfl, rfl, rfl⟩
      | false =>
        by_cases hd : 0 < d
        · refine wp_end fun K k1 k2 k3 k4 => ?_
          simp [Wp, mkF, reFrz, seq, Pm.ite, rtn, mov, asg, drp, sNx, bnd, Pm.bin, Pm.un, app, aCons, aNil, idx, loc, con, Pm.ret, peek1, peeks, itemOf, on2I, iAdd, iSub, iGt, iGe, iLt, iLe, iDiv, iMod, use1, useL, gI, gN, tst, andT, orT, notT, andE, orE, notE, ifE, ixN, D.frz, D.plain, plainL, argsBack, opLen, opAbs, opInt1, opNeg, disp, cap, callF, takes, puts, selA, sel, aApp, par, gT, gsC, gs0, appF, opDivmod, frzL, plainL, opGtA_ii, hd]
          exact k2 _ _ ⟨_, rfl, by simp [hd, cntD], rfl⟩
        · refine wp_end fun K k1 k2 k3 k4 => ?_
          simp [Wp, mkF, reFrz, seq, Pm.ite, rtn, mov, asg, drp, sNx, bnd, Pm.bin, Pm.un, app, aCons, aNil, idx, loc, con, Pm.ret, peek1, peeks, itemOf, on2I, iAdd, iSub, iGt, iGe, iLt, iLe, iDiv, iMod, use1, useL, gI, gN, tst, andT, orT, notT, andE, orE, notE, ifE, ixN, D.frz, D.plain, plainL, argsBack, opLen, opAbs, opInt1, opNeg, disp, cap, callF, takes, puts, selA, sel, aApp, par, gT, gsC, gs0, appF, opDivmod, frzL, plainL, opGtA_ii, hd]
          exact k2 _ _ ⟨_, rfl, by simp [hd, cntD], rfl⟩
  obtain ⟨d, as, e, rfl, rfl⟩ := hw
  exact e
theorem cnt_T (l : List Nat) (c : Nat) : opCountS [.str (T l), .str (T [c])] = some (.int (l.count c : Nat)) := by
  show some (D.int (Txt.count (T l) (T [c]))) = _
  rw [count_T]
theorem take_T {l : List Nat} (h : l.length ≤ cap) (k : Nat) : gCut none (some (k : Int)) (.str (T l)) = some (.str (T (l.take k))) := by
  rw [gCut_T h, slL_to]
end Pg
set_option maxHeartbeats 2000000
namespace Pm
open PySem PySem.HandSPX
open PySem.Builtin PySem.Builtin.ObjectAttr
/-- what is asked of the built-in class: BN gives __new__ -/
structure XF (BN newId initId : String) (bmN bmB : List Value) : Prop where
  new : ExcBaseFacts BN newId initId bmN
  has : bmB.contains (.type BN) = true
  noA : bmB.contains (.type "AttributeError") = false
  noN : bmB.contains (.type "NameError") = false
  obj : bmB.contains (.type "object") = true
  ne : bmB.isEmpty = false
  pass : ∀ self : Value, refuseLoop self "__setattr__" bmB = pure ()
/-- own classes, then the built-in tail -/
def tailR (bmB : List Value) : List Value → Bool
  | .ref _ :: r => tailR bmB r
  | l => l == bmB
section
variable {bmB : List Value}
theorem tailR_cases : ∀ l : List Value, tailR bmB l = true → (∃ c r, l = .ref c :: r ∧ tailR bmB r = true) ∨ l = bmB
  | [], e => .inr (beq_iff_eq.mp e)
  | .ref c :: r, e => .inl ⟨c, r, rfl, e⟩
  | .none :: _, e => .inr (beq_iff_eq.mp e)
  | .ellipsis :: _, e => .inr (beq_iff_eq.mp e)
  | .notImplemented :: _, e => .inr (beq_iff_eq.mp e)
  | .bool _ :: _, e => .inr (beq_iff_eq.mp e)
  | .int _ _ :: _, e => .inr (beq_iff_eq.mp e)
  | .float _ _ :: _, e => .inr (beq_iff_eq.mp e)
  | .str _ _ :: _, e => .inr (beq_iff_eq.mp e)
  | .bytes _ _ :: _, e => .inr (beq_iff_eq.mp e)
  | .type _ :: _, e => .inr (beq_iff_eq.mp e)
  | .builtin _ :: _, e => .inr (beq_iff_eq.mp e)
theorem tailR_all {P : List Value → Prop} (h0 : P bmB) (h1 : ∀ c r, P r → P (.ref c :: r)) : ∀ l : List Value, tailR bmB l = true → P l := by
  intro l
  induction l with
  | nil =>
    intro e
    rcases tailR_cases [] e with ⟨c, r, q, _⟩ | q
    · cases q
    · rw [q]; exact h0
  | cons a r ih =>
    intro e
    rcases tailR_cases (a :: r) e with ⟨c, r', q, h⟩ | q
    · obtain ⟨rfl, rfl⟩ := List.cons.inj q
      exact h1 c r (ih h)
    · rw [q]; exact h0
theorem tailR_has {X : String} {l : List Value} (h : tailR bmB l = true) : l.contains (.type X) = bmB.contains (.type X) :=
  tailR_all (P := fun l => l.contains (.type X) = bmB.contains (.type X)) rfl (fun c r q => by rw [List.contains_cons, q]; rfl) l h
theorem tailR_ne {l : List Value} (h : tailR bmB l = true) (hn : bmB.isEmpty = false) : l.isEmpty = false :=
  tailR_all (P := fun l => l.isEmpty = false) hn (fun c r q => rfl) l h
theorem tailR_pass {l : List Value} (h : tailR bmB l = true) (hp : ∀ self : Value, refuseLoop self "__setattr__" bmB = pure ()) (self : Value) : refuseLoop self "__setattr__" l = pure () :=
  tailR_all (P := fun l => refuseLoop self "__setattr__" l = pure ()) (hp self) (fun c r q => by rw [refuseLoop_ref]; exact q) l h
end
section
variable {prog : Program} {w : World} {A : Around} {E : Value → Shared → Prop} {R : Result → Shared → Prop} {h : Heap} {g : Array GenState} {d : Drawn} {t : Nat} {os : OsState}
variable {nm q : Str} {C N : Addr} {bs bm bmN bmB : List Value} {hdct : Bool} {sn : List Str} {sub : List Value} {ab : Bool} {col : Option Bool} {dd : Option Addr} {k0 k1 k2 k3 k5 : Option Value} {B newId initId : String}
theorem xf_check (F : XF B newId initId bmN bmB) (hT : tailR bmB bm = true) {M : Model} {rest : List Value} {Q : Unit → Shared → Prop}
    (hC : h.get? C = some (excClassObj nm q C N bs bm hdct sn sub ab col dd k0 k1 k2 k3 k5 newId)) (hq : Q () ⟨h, g, d, t, os⟩) : wpAny M A (checkBuiltinCall newId ⟨.ref C :: rest, []⟩) Q E ⟨h, g, d, t, os⟩ := by
  have hcont : (Value.ref C :: bm).contains (.type B) = true := by rw [List.contains_cons, tailR_has hT, F.has, Bool.or_true]
  have hstar := F.new.noStar
  simp only [checkBuiltinCall, F.new.newKind, F.new.newSplit, F.new.newRow]
  repeat (first | refine wpAny_loadPart_at hC ?_ | (refine wpAny_isSubtype_exc hC ?_; rw [hcont]) | refine wpAny_staticBase_exc hC ?_ | refine wpAny_madeBy_exc hC ?_ | simp only [bne_self_eq_false, Bool.false_eq_true, if_false] | wp_step)
  exact hq
theorem xf_new (F : XF B newId initId bmN bmB) (hT : tailR bmB bm = true) {rest : List Value}
    (hC : h.get? C = some (excClassObj nm q C N bs bm hdct sn sub ab col dd k0 k1 k2 k3 k5 newId))
    (hq : R (.ok (.ret (.ref (h.objs.size + 1)))) ⟨(h.push { cls := .type "tuple", data := .seq rest.toArray }).push
      { cls := .ref C, data := .fields #[.ref h.objs.size, .none, .none, .none, .bool false, .none] }, g, d, t, os⟩) (hrest : rest.length ≤ sizeLine) :
    codeAny (model prog w) A (.builtin newId ⟨.ref C :: rest, []⟩) R ⟨h, g, d, t, os⟩ := by
  have hends := F.new.ends
  have hcB : (Value.ref C :: bm).contains (.type B) = true := by rw [List.contains_cons, tailR_has hT, F.has, Bool.or_true]
  have hcA : (Value.ref C :: bm).contains (.type "AttributeError") = false := by rw [List.contains_cons, tailR_has hT, F.noA]; rfl
  have hcN : (Value.ref C :: bm).contains (.type "NameError") = false := by rw [List.contains_cons, tailR_has hT, F.noN]; rfl
  refine codeAny_builtinAt F.new.entry ?_
  unfold Builtin.«BaseException.__new__»
  refine wpAt_bind ?_
  show wpAt _ _ _ (stack >>= _) _ _ _
  refine wpAt_bind (wpAt_stack fun p below => wpAt_of_wpAny ?_)
  wp_walk
  refine wpAt_of_wpAny ?_
  rw [F.new.owner]
  repeat (first | with_reducible refine wpAny_madeHere_exc F.new.canon hC ?_ | with_reducible refine wpAny_loadPart_at hC ?_ | (with_reducible refine wpAny_isSubtype_exc hC ?_; first | rw [hcB] | rw [hcA] | rw [hcN]) | wp_step)
  show R _ _
  rw [Heap.size_push]
  exact hq
theorem xf_type (F : XF B newId initId bmN bmB) (hT : tailR bmB bm = true) {rest : List Value} {fI : Addr} {Q : PySem.Fin → Shared → Prop}
    (hC : h.get? C = some (excClassObj nm q C N bs bm hdct sn sub ab col dd k0 k1 k2 k3 k5 newId))
    (hi : W.Looks (model prog w) h (typeLookup (.ref C) "__init__") (some (.ref fI))) (hb : ∀ self, W.Looks (model prog w) h (bindSpecial (.ref fI) self) (.ref fI, [self])) (hrest : rest.length ≤ sizeLine)
    (hq : codeAny (model prog w) A (.call (.ref fI) ⟨.ref (h.objs.size + 1) :: rest, []⟩)
      (fun r s' => match r with | .ok (.ret v) => v = .none ∧ Q (.done (.ret (.ref (h.objs.size + 1)))) s' | .ok _ => False | .error e => E e s')
      ⟨(h.push (W.kdv_tup rest)).push (excO C h.objs.size), g, d, t, os⟩) :
    wpAny (model prog w) A (Builtin.«type.__call__» ⟨.ref C :: rest, []⟩) Q E ⟨h, g, d, t, os⟩ := by
  repeat (first | with_reducible refine wpAny_loadPart_at hC ?_ | with_reducible refine wpAny_madeBy_exc hC ?_ | wp_step)
  refine codeAny_call_builtin_code (Code.quiet_builtin _ F.new.quiet) (xf_check F hT hC ?_)
  refine xf_new F hT hC ?_ hrest
  show wpAny _ _ _ _ _ _
  have k : ∀ b o, h.get? b = some o → ((h.push (W.kdv_tup rest)).push (excO C h.objs.size)).get? b = some o := fun b o e => Heap.get?_push_of_some _ (Heap.get?_push_of_some _ e)
  have hC₁ := k _ _ hC
  have hget : ((h.push (W.kdv_tup rest)).push (excO C h.objs.size)).get? (h.objs.size + 1) = some (excO C h.objs.size) := by heap_get
  have hcC : (Value.ref C :: bm).contains (.ref C) = true := by simp
  have i1 := hi.keeps k
  have b1 := (hb (.ref (h.objs.size + 1))).keeps k
  unfold isInstance
  repeat (first | with_reducible refine wpAny_loadPart_at hget ?_ | (with_reducible refine wpAny_isSubtype_exc hC₁ ?_; rw [hcC]) | wp_step)
  show wpAny _ _ (typeLookup (.ref C) _) _ _ _
  refine i1.at ?_
  refine wpAny_holding (wpAny_bind (b1.at ?_))
  refine wpAny_bind (wpAny_call (codeAny_mono hq fun r s' z => ?_))
  rcases r with e | (v | _ | _ | _) <;> first | exact z | exact z.elim | skip
  obtain ⟨rfl, z⟩ := z
  first
    | exact wpAny_pure (wpAny_pure z)
    | (wp_walk; exact z)
theorem xf_call (F : XF B newId initId bmN bmB) (hT : tailR bmB bm = true) {rest : List Value} {fI : Addr}
    (hC : h.get? C = some (excClassObj nm q C N bs bm hdct sn sub ab col dd k0 k1 k2 k3 k5 newId))
    (hi : W.Looks (model prog w) h (typeLookup (.ref C) "__init__") (some (.ref fI))) (hb : ∀ self, W.Looks (model prog w) h (bindSpecial (.ref fI) self) (.ref fI, [self])) (hrest : rest.length ≤ sizeLine)
    (hq : codeAny (model prog w) (A.under (.builtin "type.__call__" ⟨.ref C :: rest, []⟩)) (.call (.ref fI) ⟨.ref (h.objs.size + 1) :: rest, []⟩) (W.InitBack (h.objs.size + 1) R)
      ⟨(h.push (W.kdv_tup rest)).push (excO C h.objs.size), g, d, t, os⟩) :
    codeAny (model prog w) A (.call (.ref C) ⟨rest, []⟩) R ⟨h, g, d, t, os⟩ := by
  have f1 := tc_lookup
  have f2 := tc_bind (.ref C)
  have hTy : (⟨h, g, d, t, os⟩ : Shared).TypeIs (.ref C) "type" := ⟨_, hC, rfl⟩
  refine codeAny_of_tree ?_
  show wpAny _ _ (callAny (.ref C) _) _ _ _
  repeat (any_goals (first | assumption | with_reducible refine wpAny_loadPart_at hC ?_ | wp_step))
  refine ⟨rfl, ?_⟩
  refine codeAny_call_builtin_at (Code.quiet_builtin _ (by decide +kernel)) entry_typeCall (wpAny_check_type_call_sub hC (xf_type F hT hC hi hb hrest ?_))
  refine codeAny_mono hq fun r s' z => ?_
  rcases r with e | (v | _ | _ | _) <;> exact z
end
end Pm
set_option maxHeartbeats 2000000
namespace Pm
open PySem PySem.HandSPX
open PySem.Builtin PySem.Builtin.ObjectAttr
abbrev tlLookup : List Value := [.type "LookupError", .type "Exception", .type "BaseException", .type "object"]
abbrev tlKey : List Value := [.type "KeyError", .type "LookupError", .type "Exception", .type "BaseException", .type "object"]
abbrev tlIndex : List Value := [.type "IndexError", .type "LookupError", .type "Exception", .type "BaseException", .type "object"]
abbrev tlValue : List Value := [.type "ValueError", .type "Exception", .type "BaseException", .type "object"]
theorem xf_key : XF "LookupError" "LookupError.__new__" "LookupError.__init__" tlLookup tlKey := ⟨PySem.F.excBase_LookupError, by decide +kernel, by decide +kernel, by decide +kernel, by decide +kernel, rfl, fun self => by kernel_rfl⟩
theorem xf_index : XF "IndexError" "IndexError.__new__" "IndexError.__init__" tlIndex tlIndex := ⟨PySem.F.excBase_IndexError, by decide +kernel, by decide +kernel, by decide +kernel, by decide +kernel, rfl, fun self => by kernel_rfl⟩
theorem xf_value : XF "ValueError" "ValueError.__new__" "ValueError.__init__" tlValue tlValue := ⟨PySem.F.excBase_ValueError, by decide +kernel, by decide +kernel, by decide +kernel, by decide +kernel, rfl, fun self => by kernel_rfl⟩
section
variable {prog : Program} {w : World} {A : Around} {E : Value → Shared → Prop} {R : Result → Shared → Prop} {hp : Heap} {g : Array GenState} {d : Drawn} {t : Nat} {os : OsState}
/-- self.f = v on an exception without a dict -/
theorem xf_store {K : W.Frag} {name : Str} {tk : Tok} {v : Value} {x C : Addr} {fv : Array Value} {cd : ClassData} {bmB : List Value}
    (X : K.In hp) (hx : hp.get? x = some { cls := .ref C, data := .fields fv }) (hcd : W.clsIn K C = some cd) (hm : tailR bmB cd.mro = true) (hn : bmB.isEmpty = false) (hob0 : bmB.contains (.type "object") = true) (hps : ∀ self : Value, refuseLoop self "__setattr__" bmB = pure ()) (hh : cd.hasDict = true) (ha : W.findIn K (.ref C) name = some none)
    (hq : ∀ h' tk' dx, (∀ b o, b ≠ x → hp.get? b = some o → h'.get? b = some o) → hp.objs.size ≤ dx → dx ≠ x → h'.get? x = some { cls := .ref C, dict := some dx, data := .fields fv } →
      h'.Ns1 dx (fun y => if y = name then some v else none) → R (.ok (.ret .none)) ⟨h', g, d, tk', os⟩) :
    codeAny (model prog w) A (.call (.builtin "object.__setattr__") ⟨[.ref x, .str name tk, v], []⟩) R ⟨hp, g, d, t, os⟩ := by
  have I : W.InstAt hp x { cls := .ref C, data := .fields fv } C none := ⟨hx, rfl, rfl, trivial⟩
  have SF := F.store_object
  have ne := tailR_ne hm hn
  have hob : cd.mro.contains (.type "object") = true := (tailR_has hm).trans hob0
  have hxs : x ≠ hp.objs.size := Nat.ne_of_lt (Heap.lt_size hx)
  have sub : W.Looks (model prog w) hp (isInstance (.ref x) (.type "object")) true := I.type.andThen (W.looks_mroIn X (by unfold W.mroIn; rw [hcd, Option.bind_some, if_neg (by rw [ne]; decide), hob]))
  refine codeAny_call_builtin SF.slot.plain SF.entry (@W.check_slot (model prog w) _ _ ⟨hp, g, d, t, os⟩ "object.__setattr__" "object" "__setattr__" (.ref x) [.str name tk, v] [] _ SF.kind SF.split sub (SF.args (.ref x) (.str name tk) v) ?_)
  have hmr : W.Looks (model prog w) hp (mroOf (.ref C)) cd.mro := (W.looks_clsIn X hcd).andThen .now
  have L3 : W.Looks (model prog w) hp (storeTaker? none) none := .now
  have hcls : W.Looks (model prog w) hp (classData C) cd := W.looks_clsIn X hcd
  rw [W.osa_eq, refuse_eq]
  refine wpAny_bind (wpAny_bind (I.type.at (wpAny_bind (hmr.at ?_))))
  rw [tailR_pass hm hps]
  refine wpAny_pure (wpAny_bind (I.type.at (wpAny_bind ((W.looks_findIn X ha).at (wpAny_bind (L3.at ?_))))))
  show wpAny _ _ (storeInOwnDict (.ref x) (.ref C) (.str name tk) name v false) _ _ _
  obtain ⟨nm, bs, mro, ns, qn, hd, sn, sb, ab, col, del⟩ := cd
  dsimp only at hh
  subst hh
  unfold storeInOwnDict ownDictForStores
  repeat (first | with_reducible refine store_in_new ?_ ?_ | with_reducible refine wpAny_loadPart_at hx ?_ | with_reducible refine hcls.at ?_ | wp_step)
  · exact ⟨_, #[], _, (Heap.get?_update_ne _ _ _ _ hxs.symm).trans (Heap.get?_push_at rfl rfl), rfl, fun e he => absurd he (by simp), fun _ => rfl⟩
  · intro h' tk' hn' hs
    have hx₁ : (hp.push { cls := .type "dict", data := .dict #[] }).get? x = some { cls := .ref C, data := .fields fv } := Heap.get?_push_of_some _ hx
    refine hq h' tk' hp.objs.size (fun b o hb ho => ?_) (Nat.le_refl _) hxs.symm ?_ hn'
    · exact (hs.2 b (Nat.ne_of_lt (Heap.lt_size ho))).trans ((Heap.get?_update_ne _ _ _ _ hb).trans (Heap.get?_push_of_some _ ho))
    · exact (hs.2 x hxs).trans (Heap.get?_update_self _ hx₁ rfl)
end
end Pm
set_option maxHeartbeats 2000000
namespace Pm
open PySem PySem.Spec PyProof.Rows L2
/-- what is known of the class at C: its __init__ at fI, its field f -/
structure XC (K : PySem.W.Frag) (C fI : Addr) (f : Str) : Prop where
  cls : ∃ nm q N bs bm sn sub ab col dd k0 k1 k2 k3 k5 BN newId initId bmN bmB, XF BN newId initId bmN bmB ∧ K.lookup C = some (excClassObj nm q C N bs bm true sn sub ab col dd k0 k1 k2 k3 k5 newId) ∧ tailR bmB bm = true
  sa : PySem.W.findIn K (.ref C) "__setattr__" = some (some (.builtin "object.__setattr__"))
  exC : PySem.W.subIn K (.ref C) (.type "BaseException") = some true
  tyC : PySem.W.typeIn K (.ref C) = some (.type "type")
  kC : PySem.W.keepIn K (.ref C) = true
  no : PySem.W.findIn K (.ref C) f = some none
  iC : PySem.W.findIn K (.ref C) "__init__" = some (some (.ref fI))
  tI : PySem.W.typeIn K (.ref fI) = some (.type "function")
section
variable {X : Cx} {pins : List (Addr × Obj)} {σ : L2.St} {H : Hp} {s : Shared} {a C fI dx : Addr} {f : Str} {y : V} {u : Value} {Q : Unit → Shared → Prop} {E : Value → Shared → Prop} {A : Around}
/-- self.f = y -/
theorem xc_store (T : XC X.K C fI f) (I : Inv X pins σ H s) (e : H a = some (exo a C none)) (ry : RelV y u)
    (h : ∀ dx s', H dx = none → dx ≠ a → Inv X pins σ (upd (upd H dx (exd dx [(f, y)])) a (exo a C (some dx))) s' → Q () s') : wpAny (model X.prog X.w) A (setAttr (.ref a) f u) Q E s := by
  obtain ⟨nm, q, N, bs, bm, sn, sub, ab, col, dd, k0, k1, k2, k3, k5, BN, newId, initId, bmN, bmB, F, hC, hbm⟩ := T.cls
  have hcl : PySem.W.clsIn X.K C = some { name := nm, bases := bs, mro := .ref C :: bm, ns := N, qualname := q, hasDict := true, slotNames := sn, subclasses := sub, abstract := ab, collection := col, hasDel := false } := by unfold PySem.W.clsIn; rw [hC] <;> rfl
  obtain ⟨t1, ho⟩ := exo_at I.hok e
  obtain ⟨hp, g, d, t, os⟩ := s
  refine PySem.W.set_plain I.kIn (ox := { cls := .ref C, dict := none, data := .fields #[.ref t1, .none, .none, .none, .bool false, .none] }) (od := none) ⟨ho, rfl, rfl, trivial⟩ T.sa ?_
  refine xf_store I.kIn ho hcl (show tailR bmB (.ref C :: bm) = true from hbm) F.ne F.obj F.pass rfl T.no (fun h' tk' dx k dn dne hx hn => ?_)
  have hnd : H dx = none := I.hok.fresh dn
  have nd : ∀ {b : Addr} {o : Obj}, hp.get? b = some o → b ≠ dx := fun {b o} q => Nat.ne_of_lt (Nat.lt_of_lt_of_le (Heap.lt_size q) dn)
  have na : ∀ {b : Addr}, H b = none → b ≠ a := fun {b} n z => by
    rw [z, e] at n
    cases n
  have Un1 : Un X.fs [] H (upd (upd H dx (exd dx [(f, y)])) a (exo a C (some dx))) hp h' := {
    keep := fun b o q n _ _ => k b o (na n) q
    slot := fun b o q n _ _ => ⟨o.slots, k b o (na n) q⟩
    free := fun b o q n _ => by rw [upd_ne (na n), upd_ne (nd q)]; exact n
    there := fun b o q _ => by
      by_cases hb : b = a
      · exact ⟨_, by rw [hb]; exact hx⟩
      · exact ⟨o, k b o hb q⟩
    tups := fun b xs q => by rw [upd_ne (at_ne e q exo_tup), upd_ne (ne_of_none q hnd)]; exact q
    frzs := fun b o v q => by rw [upd_ne (at_ne e q exo_frz), upd_ne (ne_of_none q hnd)]; exact q
    tbls := fun b ps q => ⟨#[], by rw [upd_ne (at_ne e q exo_tbl), upd_ne (ne_of_none q hnd), q]; simp⟩ }
  refine h dx _ hnd dne (I.un (t' := tk') Un1 fun b o q => ?_)
  by_cases hb : b = a
  · subst hb
    rw [upd_same] at q
    cases q
    exact exo_ok hx
  · rw [upd_ne hb] at q
    by_cases hd : b = dx
    · subst hd
      rw [upd_same] at q
      cases q
      exact exd_ok hn (relO_put (fs := []) ry fun g => True.intro)
    · rw [upd_ne hd] at q
      exact (I.hok b o q).stay (fun c v hc z => k c v (by
          rcases hc with hc | hc
          · rw [hc]
            exact hb
          · exact at_ne e hc exo_own) z)
        (fun c hc => by rw [upd_ne (at_ne e hc exo_own), upd_ne (ne_of_none hc hnd)]; exact hc) (fun c xs hc => by rw [upd_ne (at_ne e hc exo_tup), upd_ne (ne_of_none hc hnd)]; exact hc)
end
def tSt1 (K : PySem.W.Frag) (f : Str) (to te : TE) : TS := fun D σ H => te σ H fun y H1 => to σ H1 fun x H2 => ∃ a C fI : Addr, x = .ref a ∧ XC K C fI f ∧ H2 a = some (exo a C none) ∧ ∀ dx, H2 dx = none → dx ≠ a → D.nx σ (upd (upd H2 dx (exd dx [(f, y)])) a (exo a C (some dx)))
section
variable {X : Cx} {o e : Expr} {to te : TE} {f : Str} {p' pos : Pos}
theorem ps_st1 (ho : PE X o to) (he : PE X e te) (hs : swapsWith e (some (.Attribute o f p')) pos.line X.env = pure false := by rfl) : PS X (.Assign [.Attribute o f p'] e pos) (tSt1 X.K f to te) := by
  refine ⟨fun pins s σ H D I h => ?_⟩
  refine plainObj_wpAny_Assign_Attribute (thn (he.run pins s σ H _ I h) fun v s1 ⟨y, H1, I1, r1, q1⟩ => thn (ho.run pins s1 σ H1 _ I1 q1) fun u s2 ⟨x, H2, I2, r2, a, C, fI, ex, T, ea, q⟩ => ?_) hs
  subst ex
  obtain rfl : u = Value.ref a := r2
  exact xc_store T I2 ea r1 fun dx s' n ne J => ⟨σ, _, J, q dx n ne⟩
end
/-- what such an __init__ keeps -/
def spI (K : PySem.W.Frag) (f : Str) : Sp := fun vs H Q _ => ∃ (a C fI : Addr) (y : V), vs = [.ref a, y] ∧ XC K C fI f ∧ H a = some (exo a C none) ∧ ∀ dx, H dx = none → dx ≠ a → Q .non (upd (upd H dx (exd dx [(f, y)])) a (exo a C (some dx)))
end Pm
set_option maxHeartbeats 2000000
namespace Pm
open PySem PySem.Spec PyProof.Rows L2
/-- such an __init__ by its text -/
theorem init_ok {P : Program} {w : World} {K : PySem.W.Frag} {mg : Str → Option Value} {base : Heap} {qual p f : Str} {st : Stmt} {fI : Addr} {fd : FuncData} (F : Fun K "__init__" qual st fI fd) (S : FnScope ["self", p] ["self", p] (defScope st)) {p1 p2 p3 p4 : Pos}
    (hb : defBody st = [.Assign [.Attribute (.Name "self" p1) f p2] (.Name p p3) p4])
    (hv0 : ∀ cdv L, Vis (envOfC qual (defScope st) L fI cdv).scope "self") (hv1 : ∀ cdv L, Vis (envOfC qual (defScope st) L fI cdv).scope p)
    (hd : (p == ("__debug__" : Str)) = false := by decide) (hcd : (p == ("__classdict__" : Str)) = false := by decide) : FnOk P w K mg base CX0 1 fI fd ["self", p] (spI K f) := by
  refine F.ok (k := 0) S (fun vs H Q E h => ?_) fun cdv A outer s H vs Q E hr hsp => ?_
  · obtain ⟨a, C, fI, y, rfl, _⟩ := h
    rfl
  · obtain ⟨a, C, fI', y, rfl, T, ea, q⟩ := hsp
    refine ⟨tSt1 K f (tVar 0) (tVar 1), ?_, ?_⟩
    · rw [hb]
      exact pss_one (ps_st1 (pe_var (i := 0) rfl (hv0 _ _) (by decide) (by decide)) (pe_var (i := 1) rfl (hv1 _ _) hd hcd))
    · refine ⟨y, rfl, .ref a, rfl, a, C, fI', rfl, T, ea, fun dx n ne => q dx n ne⟩
def tMk1 (C : Addr) (f : Str) (ta : TA) : L2.St → Hp → XK → Prop := fun σ H Q => ta σ H fun vs H1 => ∃ y, vs = [y] ∧ ∀ d, H1 d = none → Q (.ref C) (some d) (upd H1 d (.xd [(f, y)]))
section
variable {X : Cx} {e : Expr} {ta : TA} {p pos : Pos}
theorem pmk_x1 {x f pn : Str} {C fI : Addr} {k : Nat} {fd : FuncData} (T : XC X.K C fI f) (F1 : FnOk X.prog X.w X.K X.mg X.base CX0 k fI fd ["self", pn] (spI X.K f)) (hr : Room (k + 1) X.A) (hb : Binds X.K fd ["self", pn] []) (hg : Gl X x) (hm : X.mg x = some (.ref C)) (ha : PA X [e] ta)
    (hdb : (x == ("__debug__" : Str)) = false := by decide) (he : starEach [e] X.env = (false, eval e X.env) :: starEach [] X.env := by rfl) (hpl : (backTo pos (starEach [] X.env)).any (·.1) = false := by rfl) :
    PMk X (.Call (.Name x p) [e] [] pos) (tMk1 C f ta) := by
  intro pins s σ H Q I h
  obtain ⟨nm, q, N, bs, bm, sn, sub, ab, col, dd, k0, k1, k2, k3, k5, BN, newId, initId, bmN, bmB, XF, hC, hbm⟩ := T.cls
  refine wpAny_Call_Name_kw (ld_glob I hg hm ?_ hdb)
  refine PySem.W.callWith_K (h₀ := X.base) I.ok.mod.kin T.kC (thn (ha.run pos pins s σ H _ I h) fun us s1 ⟨vs, H1, I1, r1, y, ev, q1⟩ => ⟨I1.kIn, ?_⟩) he hpl
  subst ev
  show wpAny _ _ (call (.ref C) us) _ _ _
  obtain ⟨hp, g, dr, tk, os⟩ := s1
  have hsz : hp.objs.size ≤ hp.objs.size + 1 := Nat.le_succ _
  have hn : H1 (hp.objs.size + 1) = none := I1.hok.fresh hsz
  have hq : spI X.K f [.ref (hp.objs.size + 1), y] (upd H1 (hp.objs.size + 1) (exo (hp.objs.size + 1) C none))
      (fun v H2 => v = .non ∧ ∃ (d : Addr) (fs : List (Str × V)), H2 (hp.objs.size + 1) = some (exo (hp.objs.size + 1) C (some d)) ∧ H2 d = some (exd d fs) ∧ H1 d = none ∧ Q (.ref C) (some d) (upd (del H2 (hp.objs.size + 1)) d (.xd fs))) (fun _ _ _ => False) := by
    refine ⟨_, C, fI, y, rfl, T, upd_same, fun dx nx ne => ⟨rfl, dx, [(f, y)], upd_same, by rw [upd_ne ne, upd_same], ?_, ?_⟩⟩
    · rw [upd_ne ne] at nx
      exact nx
    · have n1 : H1 dx = none := by
        rw [upd_ne ne] at nx
        exact nx
      have e : upd (del (upd (upd (upd H1 (hp.objs.size + 1) (exo (hp.objs.size + 1) C none)) dx (exd dx [(f, y)])) (hp.objs.size + 1) (exo (hp.objs.size + 1) C (some dx))) (hp.objs.size + 1)) dx (.xd [(f, y)]) = upd H1 dx (.xd [(f, y)]) := by
        funext b
        by_cases hb : b = dx
        · rw [hb, upd_same, upd_same]
        · rw [upd_ne hb, upd_ne hb]
          by_cases ha : b = hp.objs.size + 1
          · rw [ha, del_same, hn]
          · rw [del_ne ha, upd_ne ha, upd_ne hb, upd_ne ha]
      rw [e]
      exact q1 dx n1
  have kk : ∀ b o, hp.get? b = some o → ((hp.push (PySem.W.kdv_tup us)).push (PySem.HandSPX.excO C hp.objs.size)).get? b = some o := fun b o e => Heap.get?_push_of_some _ (Heap.get?_push_of_some _ e)
  have hget : ((hp.push (PySem.W.kdv_tup us)).push (PySem.HandSPX.excO C hp.objs.size)).get? (hp.objs.size + 1) = some (PySem.HandSPX.excO C hp.objs.size) := by heap_get
  have I2 : Inv X pins σ (upd H1 (hp.objs.size + 1) (exo (hp.objs.size + 1) C none)) ⟨(hp.push (PySem.W.kdv_tup us)).push (PySem.HandSPX.excO C hp.objs.size), g, dr, tk, os⟩ :=
    I1.laid (t' := tk) (a := hp.objs.size + 1) (o := exo (hp.objs.size + 1) C none) (h' := (hp.push (PySem.W.kdv_tup us)).push (PySem.HandSPX.excO C hp.objs.size)) kk hsz (exo_ok hget)
  have r2 : Vals [V.ref (hp.objs.size + 1), y] (Value.ref (hp.objs.size + 1) :: us) := .cons rfl r1
  have hl : (Value.ref (hp.objs.size + 1) :: us ++ []).length = (["self", pn] : List Str).length := by
    have := r2.length
    rw [List.append_nil]
    exact this.symm
  have hus : us.length ≤ sizeLine := by
    have := r1.length
    rw [← this, sizeLine_eq]
    show 1 ≤ _
    decide
  have hbd := hb _ (Value.ref (hp.objs.size + 1) :: us) I2.kIn hl
  rw [List.append_nil] at hbd
  refine wpAny_call (xf_call XF hbm (I1.kIn _ _ hC) (PySem.W.looks_findIn I1.kIn T.iC) (fun self => PySem.W.bind_fn I1.kIn self T.tI) hus
    (codeAny_mono (F1.run _ X.stack _ _ ⟨Value.ref (hp.objs.size + 1) :: us, []⟩ (Value.ref (hp.objs.size + 1) :: us) _ _ (fun _ _ _ => False) (hr.make C us []) (I2.env0.make C us []) hbd r2 hq) fun r s' hq' => ?_))
  cases r with
  | error er => exact hq'.elim
  | ok fl =>
    cases fl with
    | ret u =>
      obtain ⟨v, H2, os2, bare2, un2, hok2, rv, ev, d, fs, ea, ed, hd1, q2⟩ := hq'
      subst ev
      obtain ⟨h2, g2, d2, t2, os'⟩ := s'
      exact ⟨rv, mk_end (raises_own T.exC T.tyC) I1 hsz kk un2 hok2 os2 bare2 ea ed hd1 q2⟩
    | next => exact False.elim hq'
    | brk => exact False.elim hq'
    | cont => exact False.elim hq'
end
def raise1 (n f : Str) (fe : M EV) : M Fl := bnd fe fun e => fun ρ => match peek1 ρ e with
  | some d => if d.plain = true then .exc ⟨n, [(f, d)]⟩ ρ else .stuck
  | none => .stuck
section
variable {K : PySem.W.Frag} {mg : Str → Option Value} {W : WX} {Z H : Hp} {S : Fp} {σ : Sl} {X : Cx}
theorem peek_plain {ρ : Env} {ev : EV} {v : V} {d : D} {Sd : Fp} {H' : Hp} (er : EnvR K Z H ρ σ S) (r : EVR K Z H σ ev v Sd) (hp : peek1 ρ ev = some d) (hd : d.plain = true) : Rep K Z H' d v Fp0 := by
  cases ev with
  | val d' =>
    cases hp
    exact Rep.plain r hd
  | ref i =>
    obtain ⟨v', S1, S2, e1, _, _, _, r1, _⟩ := er.take (getD_some (show ρ.getD i none = some d from hp))
    have e2 : σ[i]? = some (some v) := r
    rw [e1] at e2
    cases e2
    exact Rep.plain r1 hd
theorem same_new {Z : Hp} {d : Addr} {o : HO} (h : Z d = none) : Same Z (upd Z d o) := fun a u e => by
  have : a ≠ d := fun q => by rw [q, h] at e; cases e
  rw [upd_ne this]
  exact e
theorem S_raise1 {A : Nat → Bool} {e : Expr} {fe : M EV} {n f pn : Str} {C fI : Addr} {k : Nat} {fd : FuncData} {p pos pos2 : Pos} (hc : X.calm = true) (tk : Takes X W) (T : XC X.K C fI f) (F1 : FnOk X.prog X.w X.K X.mg X.base CX0 k fI fd ["self", pn] (spI X.K f)) (hr : Room (k + 1) X.A) (hb : Binds X.K fd ["self", pn] []) (hm : X.mg n = some (.ref C)) (hg' : reg X.K n = some C) (ha : PA X [e] (tA X.K X.mg W (aCons fe aNil))) (hg : Gl X n := by rfl)
    (hdb : (n == ("__debug__" : Str)) = false := by decide) (he : starEach [e] X.env = (false, eval e X.env) :: starEach [] X.env := by rfl) (hpl : (backTo pos (starEach [] X.env)).any (·.1) = false := by rfl) :
    PS X (.Raise (some (.Call (.Name n p) [e] [] pos)) none pos2) (tS X.K X.mg W A (raise1 n f fe)) :=
  PS.of (ps_raise (W := W) hc tk (pmk_x1 T F1 hr hb hg hm ha hdb he hpl)) fun D σ H h => by
    obtain ⟨Z, ρ, S, w, er, o⟩ := h
    refine ⟨Z, ρ, S, w, er, ?_⟩
    simp only [raise1, bnd, aCons, aNil, ret] at o ⊢
    cases e1 : fe ρ with
    | stuck => rw [e1] at o; exact o.elim
    | exc x ρ1 => rw [e1] at o; exact o σ (Keep.refl σ)
    | ok ev ρ1 =>
      simp only [e1] at o ⊢
      intro vs Z' H' S' Sd st dj er' evr
      cases hp : peek1 ρ1 ev with
      | none => simp only [hp] at o; exact o.elim
      | some d =>
        simp only [hp] at o
        by_cases hd : d.plain = true
        · rw [if_pos hd] at o
          obtain ⟨y, rfl, ry⟩ : ∃ y, vs = [y] ∧ ∃ Sy, EVR X.K Z' H' σ ev y Sy := by
            match vs, evr with
            | [y], ⟨S1, S2, _, _, _, r, _⟩ => exact ⟨y, rfl, S1, r⟩
          obtain ⟨Sy, ry⟩ := ry
          refine ⟨y, rfl, fun dx ndx => ?_⟩
          have wd' : Wd Z' H' S' := st.wd.less fun a q => .inl q
          have zdx : Z' dx = none := wd'.zfree ndx
          have st1 : Step Z H S Z' H' S' := st.less fun a q => .inl q
          have sm : Same Z' (upd Z' dx (.xd [(f, y)])) := same_new zdx
          refine o σ (Keep.refl σ) (.ref C) (some dx) (upd Z' dx (.xd [(f, y)])) (upd H' dx (.xd [(f, y)])) S' (st1.trans (Step.allocZ wd' ndx)) (er'.move sm (fun a u sa e => ?_) fun a q => q) ⟨C, hm, hg', rfl, .inr ⟨dx, [y], rfl, upd_same, Fp0, Fp0, fun _ q => q, fun _ q => q, fun _ q _ => q, ?_, trivial⟩⟩
          · have : a ≠ dx := fun q => by rw [q, ndx] at e; cases e
            rw [upd_ne this]
            exact e
          · exact (peek_plain (H' := upd Z' dx (.xd [(f, y)])) er' ry hp hd).move sm (fun _ _ q => q.elim) fun _ q => q
        · rw [if_neg hd] at o
          exact o.elim
end
end Pm
namespace Pm
open PySem PySem.Spec PyProof.Rows L2
def keyOf : D → Option Key
  | .int i => some (.inl i)
  | .str x => some (.inr x)
  | _ => none
theorem keyOf_rep {K : PySem.W.Frag} {Z H : Hp} {S : Fp} {d : D} {v : V} {k : Key} (h : keyOf d = some k) (r : Rep K Z H d v S) : v = kV k := by
  cases d with
  | int i => cases h; exact r
  | str x => cases h; exact r
  | _ => cases h
def getL {α : Type} : List Key → List α → Key → Option α
  | k' :: ks, x :: xs, k => if k' = k then some x else getL ks xs k
  | _, _, _ => none
def putL {α : Type} (ks : List Key) (xs : List α) (k : Key) (d : α) : List α := if ks.any (fun k' => decide (k' = k)) = true then List.zipWith (fun k' x => if k' = k then d else x) ks xs else xs ++ [d]
def putKs (ks : List Key) (k : Key) : List Key := if ks.any (fun k' => decide (k' = k)) = true then ks else ks ++ [k]
theorem getL_val : ∀ (ks : List Key) (ys : List V) (k : Key), valV (ks.zip ys) k = getL ks ys k
  | [], ys, k => rfl
  | _ :: _, [], k => rfl
  | k' :: ks, y :: ys, k => by
    have ih := getL_val ks ys k
    unfold valV at ih ⊢
    rw [List.zip_cons_cons, List.find?_cons, getL]
    by_cases h : k' = k
    · simp [h]
    · simp [h, ih]
section
variable {K : PySem.W.Frag} {mg : Str → Option Value} {W : WX} {Z Z' H H' : Hp} {S S' : Fp} {σ : Sl} {X : Cx}
theorem getL_rep : ∀ {ks : List Key} {xs : List D} {ys : List V} {S : Fp} {k : Key}, RepL K Z H xs ys S → (∀ d, getL ks xs k = some d → ∃ y, getL ks ys k = some y ∧ Rep K Z H d y S) ∧ (getL ks xs k = none → getL ks ys k = none)
  | [], _, _, _, _, _ => ⟨fun d h => by simp [getL] at h, fun _ => by simp [getL]⟩
  | _ :: _, [], [], _, _, _ => ⟨fun d h => by simp [getL] at h, fun _ => by simp [getL]⟩
  | _ :: _, [], _ :: _, _, _, h => h.elim
  | _ :: _, _ :: _, [], _, _, h => h.elim
  | k' :: ks, x :: xs, y :: ys, S, k, ⟨S1, S2, s1, s2, dj, r, q⟩ => by
    obtain ⟨i1, i2⟩ := getL_rep (ks := ks) (k := k) q
    unfold getL
    by_cases h : k' = k
    · rw [if_pos h, if_pos h]
      exact ⟨fun d e => by cases e; exact ⟨y, rfl, r.move (Same.refl Z) (fun _ _ _ x => x) s1⟩, fun e => nomatch e⟩
    · rw [if_neg h, if_neg h]
      exact ⟨fun d e => by obtain ⟨y', e', r'⟩ := i1 d e; exact ⟨y', e', r'.move (Same.refl Z) (fun _ _ _ x => x) s2⟩, i2⟩
/-- a dict as it is read -/
theorem rep_dct {o : Bool} {ks : List Key} {xs : List D} {v : V} (w : Sam Z H) (r : Rep K Z H (.node o (.dct ks) xs) v S) : ∃ a ys, v = .ref a ∧ H a = some (.dK (ks.zip ys)) ∧ ks.length = ys.length ∧ RepL K Z H xs ys S := by
  cases o with
  | false =>
    obtain ⟨a, ys, e, c, rl⟩ := r
    exact ⟨a, ys, e, w.get _ _ c.2 nt_dK, c.1, rl⟩
  | true =>
    obtain ⟨a, ys, S', e, c, sa, na, sub, rl⟩ := r
    exact ⟨a, ys, e, c.2, c.1, rl.move (Same.refl Z) (fun _ _ _ x => x) sub⟩
def opDGet : List D → Option D
  | [.node _ (.dct ks) xs, kd] => match keyOf kd with
    | some k => match getL ks xs k with
      | some d => if d.plain then some d else none
      | none => none
    | none => none
  | _ => none
theorem snd_dget : Snd X (fun vs H Q => ∃ x y, vs = [x, y] ∧ ∃ a v, x = .ref a ∧ DGet H a y (some v) ∧ Q v H) opDGet := by
  refine snd_pure fun Z H S ds vs d Q w rb e k => ?_
  unfold opDGet at e
  split at e
  · rename_i o ks xs kd
    obtain ⟨v, u, rfl, rv, ru⟩ := rb2 rb
    split at e
    · rename_i key hk
      split at e
      · rename_i d' hd
        split at e
        · rename_i hp
          cases e
          obtain ⟨a, ys, rfl, hH, hlen, rl⟩ := rep_dct w.same rv
          have hu := keyOf_rep hk ru
          subst hu
          obtain ⟨y, hy, ry⟩ := (getL_rep (ks := ks) (k := key) rl).1 d hd
          refine ⟨_, _, rfl, a, y, rfl, ?_, k y (ry.plain hp)⟩
          have := DGet.k (k := key) hH
          rw [getL_val, hy] at this
          exact this
        · cases e
      · cases e
    · cases e
  · cases e
theorem E_dget {o i : Expr} {fo fi : M EV} {pos : Pos} (hu : X.A.units + 1 < cLine) (ho : PE X o (tE X.K X.mg W fo)) (hi : PE X i (tE X.K X.mg W fi)) (hs : NoSl i := by intro _ _; rfl) : PE X (.Subscript o i pos) (tE X.K X.mg W (bin opDGet fo fi)) :=
  PE.of (pe_dget hu ho hi hs) fun σ H Q q => by
    refine tE_mono (fun x H1 q1 => ?_) (tA_cons (tE_app snd_dget q))
    refine tE_mono (fun y H2 q2 => ?_) (tA_cons q1)
    obtain ⟨x', y', e, a, v, h1, h2, h3⟩ := tA_nil q2
    cases e
    exact ⟨a, v, h1, h2, h3⟩
def opDIn (neg : Bool) : List D → Option D
  | [kd, .node _ (.dct ks) xs] => match keyOf kd with
    | some k => if ks.length = xs.length then some (.bl (if neg then !(ks.any fun k' => decide (k' = k)) else ks.any fun k' => decide (k' = k))) else none
    | none => none
  | _ => none
theorem getL_any {α : Type} : ∀ (ks : List Key) (ys : List α) (k : Key), ks.length = ys.length → (getL ks ys k).isSome = ks.any fun k' => decide (k' = k)
  | [], [], _, _ => rfl
  | [], _ :: _, _, h => by simp at h
  | _ :: _, [], _, h => by simp at h
  | k' :: ks, y :: ys, k, h => by
    rw [getL, List.any_cons]
    by_cases e : k' = k
    · simp [e]
    · simp [e, getL_any ks ys k (by simpa using h)]
theorem opd_dnin (hu : X.A.units + 1 < cLine) : Opd X (compareOp .NotIn) (opDIn true) := by
  refine ⟨fun x y H Q => ∃ a o, y = .ref a ∧ DGet H a x o ∧ Q (.bl (!o.isSome)) H, ?_, snd_pure fun Z H S ds vs d Q w rb e k => ?_⟩
  · intro pins s σ H x y v u Q I rx ry h
    obtain ⟨a, o, rfl, g, q⟩ := h
    obtain rfl : u = Value.ref a := ry
    exact d_notIn hu I g rx fun s' I' => ⟨.bl (!o.isSome), H, I', rfl, q⟩
  · unfold opDIn at e
    split at e
    · rename_i kd o ks xs
      obtain ⟨v, u, rfl, rv, ru⟩ := rb2 rb
      split at e
      · rename_i key hk
        split at e
        · rename_i hl
          cases e
          obtain ⟨a, ys, rfl, hH, hlen, rl⟩ := rep_dct w.same ru
          have hv := keyOf_rep hk rv
          subst hv
          refine ⟨_, _, rfl, a, _, rfl, DGet.k (k := key) hH, k _ ?_⟩
          rw [getL_val, getL_any ks ys key hlen]
          rfl
        · cases e
      · cases e
    · cases e
theorem zip_map (k : Key) (v : V) : ∀ (ks : List Key) (ys : List V), ks.length = ys.length → (ks.zip ys).map (fun kv => if kv.1 = k then (kv.1, v) else kv) = ks.zip (List.zipWith (fun k' x => if k' = k then v else x) ks ys)
  | [], [], _ => rfl
  | [], _ :: _, h => by simp at h
  | _ :: _, [], h => by simp at h
  | k2 :: ks, y2 :: ys, h => by
    rw [List.zip_cons_cons, List.map_cons, List.zipWith_cons_cons, List.zip_cons_cons, zip_map k v ks ys (by simpa using h)]
    by_cases e : k2 = k <;> simp [e]
theorem putK_zip (k : Key) (v : V) : ∀ (ks : List Key) (ys : List V), ks.length = ys.length → putK (ks.zip ys) k v = (putKs ks k).zip (putL ks ys k v) := by
  intro ks ys hl
  have ha : ((ks.zip ys).any fun kv => decide (kv.1 = k)) = ks.any fun k' => decide (k' = k) := by
    induction ks generalizing ys with
    | nil => rfl
    | cons k' ks ih =>
      cases ys with
      | nil => simp at hl
      | cons y ys => rw [List.zip_cons_cons, List.any_cons, List.any_cons, ih ys (by simpa using hl)]
  unfold putK putKs putL
  rw [ha]
  split
  · exact zip_map k v ks ys hl
  · rw [List.zip_append hl]
    rfl
theorem putL_len {α : Type} (ks : List Key) (xs : List α) (k : Key) (d : α) (h : ks.length = xs.length) : (putKs ks k).length = (putL ks xs k d).length := by
  unfold putKs putL
  split
  · rw [List.length_zipWith]; omega
  · rw [List.length_append, List.length_append, h]; rfl
theorem zipW_rep {k : Key} {d : D} {v : V} (rd : Rep K Z H d v Fp0) : ∀ {ks : List Key} {xs : List D} {ys : List V}, RepL K Z H xs ys Fp0 → RepL K Z H (List.zipWith (fun k' x => if k' = k then d else x) ks xs) (List.zipWith (fun k' x => if k' = k then v else x) ks ys) Fp0
  | [], _, _, _ => by simp [RepL]
  | _ :: _, [], [], _ => by simp [RepL]
  | _ :: _, [], _ :: _, h => h.elim
  | _ :: _, _ :: _, [], h => h.elim
  | k' :: ks, x :: xs, y :: ys, ⟨S1, S2, s1, s2, dj, r, q⟩ => by
    have q' := zipW_rep (k := k) rd (ks := ks) (q.move (Same.refl Z) (fun _ _ _ x => x) s2)
    rw [List.zipWith_cons_cons, List.zipWith_cons_cons]
    by_cases e : k' = k
    · rw [if_pos e, if_pos e]
      exact ⟨Fp0, Fp0, fun _ x => x, fun _ x => x, fun _ x _ => x, rd, q'⟩
    · rw [if_neg e, if_neg e]
      exact ⟨Fp0, Fp0, fun _ x => x, fun _ x => x, fun _ x _ => x, r.move (Same.refl Z) (fun _ _ _ x => x) s1, q'⟩
theorem putL_rep {k : Key} {d : D} {v : V} {ks : List Key} {xs : List D} {ys : List V} (rd : Rep K Z H d v Fp0) (rl : RepL K Z H xs ys Fp0) : RepL K Z H (putL ks xs k d) (putL ks ys k v) Fp0 := by
  unfold putL
  split
  · exact zipW_rep rd rl
  · exact RepL.append (S1 := Fp0) (S2 := Fp0) rl ⟨Fp0, Fp0, fun _ x => x, fun _ x => x, fun _ x _ => x, rd, trivial⟩ (fun _ x => x) (fun _ x => x) fun _ x _ => x
end
end Pm
namespace Pm
open PySem PySem.Spec PyProof.Rows L2
end Pm
namespace Tr
/-- a tree: an operator with what is left and right of it -/
inductive LT where
  | leaf | node (l : LT) (k : Nat) (r : LT)
def LT.lab : LT → List Nat
  | .leaf => []
  | .node l k r => l.lab ++ k :: r.lab
def LT.root : LT → Option Nat
  | .leaf => none
  | .node _ k _ => some k
abbrev Ps := List (Option Nat)
/-- the parents are those of the tree, its root's is p -/
def Rz (P : Ps) : LT → Option Nat → Prop
  | .leaf, _ => True
  | .node l k r, p => P[k]? = some p ∧ Rz P l (some k) ∧ Rz P r (some k)
def Rs (P : Ps) : LT → Prop
  | .leaf => True
  | .node l k r => Rz P l (some k) ∧ Rz P r (some k)
def Cart (wk : Nat → Nat → Prop) : LT → Prop
  | .leaf => True
  | .node l k r => (∀ x ∈ l.lab, wk k x) ∧ (∀ x ∈ r.lab, wk k x) ∧ Cart wk l ∧ Cart wk r
theorem Rz.frame {P P' : Ps} : ∀ {T : LT} {p : Option Nat}, (∀ k ∈ T.lab, P'[k]? = P[k]?) → Rz P T p → Rz P' T p
  | .leaf, _, _, _ => trivial
  | .node l k r, p, h, ⟨h1, h2, h3⟩ => ⟨(h k (by simp [LT.lab])).trans h1, h2.frame fun x hx => h x (by simp [LT.lab, hx]), h3.frame fun x hx => h x (by simp [LT.lab, hx])⟩
theorem Rs.frame {P P' : Ps} : ∀ {T : LT}, (∀ k ∈ T.lab, T.root ≠ some k → P'[k]? = P[k]?) → T.lab.Nodup → Rs P T → Rs P' T
  | .leaf, _, _, _ => trivial
  | .node l k r, h, nd, ⟨h2, h3⟩ => by
    have nd' : (l.lab ++ k :: r.lab).Nodup := nd
    rw [List.nodup_append] at nd'
    obtain ⟨n1, n2, n3⟩ := nd'
    refine ⟨h2.frame fun x hx => h x (by simp [LT.lab, hx]) fun e => ?_, h3.frame fun x hx => h x (by simp [LT.lab, hx]) fun e => ?_⟩
    · cases e
      exact n3 k hx k (by simp) rfl
    · cases e
      exact (List.nodup_cons.mp n2).1 hx
theorem Rz.rs {P : Ps} : ∀ {T : LT} {p : Option Nat}, Rz P T p → Rs P T
  | .leaf, _, _ => trivial
  | .node _ _ _, _, ⟨_, h2, h3⟩ => ⟨h2, h3⟩
theorem Rs.rz {P : Ps} : ∀ {T : LT} {p : Option Nat}, Rs P T → (∀ k, T.root = some k → P[k]? = some p) → Rz P T p
  | .leaf, _, _, _ => trivial
  | .node _ k _, _, ⟨h2, h3⟩, h => ⟨h k rfl, h2, h3⟩
theorem root_mem : ∀ {T : LT} {k : Nat}, T.root = some k → k ∈ T.lab
  | .leaf, _, e => by cases e
  | .node _ _ _, _, e => by cases e; simp [LT.lab]
/-- the order of the operators: who is weaker -/
structure Ord (wk : Nat → Nat → Prop) : Prop where
  trans : ∀ {a b c}, wk a b → wk b c → wk a c
  tot : ∀ {a b}, a ≠ b → wk a b ∨ wk b a
  asym : ∀ {a b}, wk a b → ¬ wk b a
section
variable (bf : Nat → Nat → Bool)
/-- chain: the top first -/
def popL (op : Nat) : List Nat → Option Nat → List Nat × Option Nat
  | [], left => ([], left)
  | c :: cs, left => if bf c op = true then popL op cs (some c) else (c :: cs, left)
def putL (P : Ps) (op : Nat) : Option Nat → Ps
  | some l => P.set l (some op)
  | none => P
def putC (P : Ps) (op : Nat) : List Nat → Ps
  | c :: _ => P.set op (some c)
  | [] => P
def linkStep (s : Ps × List Nat) (op : Nat) : Ps × List Nat :=
  (putC (putL s.1 op (popL bf op s.2 none).2) op (popL bf op s.2 none).1, op :: (popL bf op s.2 none).1)
/-- the neighbour that a group belongs to: the last operator before it, the one after it -/
def own1 (op : Nat) : Option Nat → Nat
  | some c => if bf c op = true then c else op
  | none => op
def popS (op : Nat) : List (LT × Nat) → LT → List (LT × Nat) × LT
  | [], X => ([], X)
  | (L, c) :: s, X => if bf c op = true then popS op s (.node L c X) else ((L, c) :: s, X)
end
/-- labels of a spine from its foot on -/
def slab : List (LT × Nat) → List Nat
  | [] => []
  | (L, c) :: s => slab s ++ (L.lab ++ [c])
def Inv (P : Ps) : List (LT × Nat) → Prop
  | [] => True
  | (L, c) :: s => Rz P L (some c) ∧ P[c]? = some (s.head?.map (·.2)) ∧ Inv P s
def Hp (wk : Nat → Nat → Prop) : List (LT × Nat) → Prop
  | [] => True
  | (L, c) :: s => Cart wk L ∧ (∀ x ∈ L.lab, wk c x) ∧ (∀ q ∈ s, wk q.2 c ∧ ∀ x ∈ L.lab, wk q.2 x) ∧ Hp wk s
def coll : List (LT × Nat) → LT → LT
  | [], X => X
  | (L, c) :: s, X => coll s (.node L c X)
theorem coll_lab : ∀ (s : List (LT × Nat)) (X : LT), (coll s X).lab = slab s ++ X.lab
  | [], X => rfl
  | (L, c) :: s, X => by rw [coll, coll_lab s, slab]; simp [LT.lab]
theorem Inv.frame {P P' : Ps} : ∀ {s : List (LT × Nat)}, (∀ k ∈ slab s, P'[k]? = P[k]?) → Inv P s → Inv P' s
  | [], _, _ => trivial
  | (L, c) :: s, h, ⟨h1, h2, h3⟩ => ⟨h1.frame fun k hk => h k (by simp [slab, hk]), (h c (by simp [slab])).trans h2, h3.frame fun k hk => h k (by simp [slab, hk])⟩
/-- what the turns of the inner loop leave -/
theorem pop_ok {bf : Nat → Nat → Bool} {wk : Nat → Nat → Prop} (O : Ord wk) {P : Ps} {op : Nat} : ∀ (s : List (LT × Nat)) (X : LT) (left : Option Nat), (∀ q ∈ s, bf q.2 op = true ↔ wk op q.2) → (∀ q ∈ s, q.2 ≠ op) → Inv P s → Hp wk s → Rs P X → Cart wk X → (∀ x ∈ X.lab, wk op x) → (∀ q ∈ s, ∀ x ∈ X.lab, wk q.2 x) →
    (∀ q ∈ s.head?, ∀ k, X.root = some k → bf q.2 op = true ∨ left.isSome = true → P[k]? = some (some q.2)) →
    (left.isSome = true → left = X.root) →
    (popL bf op (s.map (·.2)) left).1 = (popS bf op s X).1.map (·.2) ∧
    ((popL bf op (s.map (·.2)) left).2.isSome = true → (popL bf op (s.map (·.2)) left).2 = (popS bf op s X).2.root) ∧
    ((popL bf op (s.map (·.2)) left).2 = none → (popS bf op s X) = (s, X) ∧ left = none) ∧
    Inv P (popS bf op s X).1 ∧ Hp wk (popS bf op s X).1 ∧ Rs P (popS bf op s X).2 ∧ Cart wk (popS bf op s X).2 ∧ (∀ x ∈ (popS bf op s X).2.lab, wk op x) ∧ (∀ q ∈ (popS bf op s X).1, ∀ x ∈ (popS bf op s X).2.lab, wk q.2 x) ∧
    slab (popS bf op s X).1 ++ (popS bf op s X).2.lab = slab s ++ X.lab ∧ (∀ q ∈ (popS bf op s X).1, wk q.2 op)
  | [], X, left, _, _, hi, hh, hx, hc, ho, hq, hr, hl => ⟨rfl, hl, fun e => ⟨rfl, e⟩, trivial, trivial, hx, hc, ho, hq, rfl, fun q h => (nomatch h)⟩
  | (L, c) :: s, X, left, hb, hne, ⟨i1, i2, i3⟩, ⟨p1, p2, p3, p4⟩, hx, hc, ho, hq, hr, hl => by
    by_cases h : bf c op = true
    · have w : wk op c := (hb (L, c) (by simp)).mp h
      have e1 : popL bf op (((L, c) :: s).map (·.2)) left = popL bf op (s.map (·.2)) (some c) := by simp [popL, h]
      have e2 : popS bf op ((L, c) :: s) X = popS bf op s (.node L c X) := by simp [popS, h]
      rw [e1, e2]
      have ih := pop_ok O (P := P) s (.node L c X) (some c) (fun q hq => hb q (by simp [hq])) (fun q hq => hne q (by simp [hq])) i3 p4
        ⟨i1, hx.rz fun k hk => hr (L, c) rfl k hk (.inl h)⟩
        ⟨p2, fun x hx => hq (L, c) (by simp) x hx, p1, hc⟩
        (fun x hx => by
          simp only [LT.lab, List.mem_append, List.mem_cons] at hx
          rcases hx with hx | rfl | hx
          · exact O.trans w (p2 x hx)
          · exact w
          · exact ho x hx)
        (fun q hq' x hx => by
          simp only [LT.lab, List.mem_append, List.mem_cons] at hx
          rcases hx with hx | rfl | hx
          · exact (p3 q hq').2 x hx
          · exact (p3 q hq').1
          · exact hq q (by simp [hq']) x hx)
        (fun q hq' k hk _ => by cases hk; rw [i2, Option.mem_def.mp hq']; rfl)
        (fun _ => rfl)
      obtain ⟨a1, a2, a3, a4, a5, a6, a7, a8, a9, a10, a11⟩ := ih
      refine ⟨a1, a2, fun e => ?_, a4, a5, a6, a7, a8, a9, ?_, a11⟩
      · cases (a3 e).2
      · rw [a10]; simp [slab, LT.lab]
    · have e1 : popL bf op (((L, c) :: s).map (·.2)) left = (c :: s.map (·.2), left) := by simp [popL, h]
      have e2 : popS bf op ((L, c) :: s) X = ((L, c) :: s, X) := by simp [popS, h]
      rw [e1, e2]
      have w : wk c op := by
        rcases O.tot (hne (L, c) (by simp)) with w | w
        · exact w
        · exact absurd ((hb (L, c) (by simp)).mpr w) h
      refine ⟨rfl, hl, fun e => ⟨rfl, e⟩, ⟨i1, i2, i3⟩, ⟨p1, p2, p3, p4⟩, hx, hc, ho, hq, rfl, fun q hq' => ?_⟩
      rcases List.mem_cons.mp hq' with rfl | hq'
      · exact w
      · exact O.trans (p3 q hq').1 w
theorem get_set_ne {P : Ps} {k j : Nat} {v : Option Nat} (h : j ≠ k) : (P.set k v)[j]? = P[j]? := by rw [List.getElem?_set_ne (Ne.symm h)]
theorem get_set_eq {P : Ps} {k : Nat} {v : Option Nat} (h : k < P.length) : (P.set k v)[k]? = some v := by rw [List.getElem?_set_self h]
theorem popL_left {bf : Nat → Nat → Bool} {op : Nat} : ∀ (s : List (LT × Nat)) (left : Option Nat), (popL bf op (s.map (·.2)) left).2.isSome = true → ∀ k, (popL bf op (s.map (·.2)) left).2 = some k → k ∈ slab s ∨ left = some k
  | [], left, _, k, e => .inr e
  | (L, c) :: s, left, h, k, e => by
    by_cases hb : bf c op = true
    · rw [show popL bf op (((L, c) :: s).map (·.2)) left = popL bf op (s.map (·.2)) (some c) by simp [popL, hb]] at h e
      rcases popL_left s (some c) h k e with h | h
      · exact .inl (by simp [slab, h])
      · cases h; exact .inl (by simp [slab])
    · rw [show popL bf op (((L, c) :: s).map (·.2)) left = (c :: s.map (·.2), left) by simp [popL, hb]] at e
      exact .inr e
theorem popS_suf {bf : Nat → Nat → Bool} {op : Nat} : ∀ (s : List (LT × Nat)) (X : LT), (popS bf op s X).1 <:+ s
  | [], X => List.suffix_refl _
  | (L, c) :: s, X => by
    by_cases h : bf c op = true
    · rw [show popS bf op ((L, c) :: s) X = popS bf op s (.node L c X) by simp [popS, h]]
      exact (popS_suf s _).trans (List.suffix_cons _ _)
    · rw [show popS bf op ((L, c) :: s) X = ((L, c) :: s, X) by simp [popS, h]]
      exact List.suffix_refl _
theorem slab_mem {s : List (LT × Nat)} {q : LT × Nat} (h : q ∈ s) : q.2 ∈ slab s := by
  induction s with
  | nil => cases h
  | cons a s ih =>
    obtain ⟨L, c⟩ := a
    rcases List.mem_cons.mp h with rfl | h
    · simp [slab]
    · simp [slab, ih h]
/-- one operator, the group before it -/
theorem step_ok {bf : Nat → Nat → Bool} {wk : Nat → Nat → Prop} (O : Ord wk) {P : Ps} {op : Nat} {s : List (LT × Nat)} {t : LT}
    (hb : ∀ q ∈ s, bf q.2 op = true ↔ wk op q.2) (hi : Inv P s) (hh : Hp wk s) (hx : Rs P t) (hc : Cart wk t) (ho : ∀ x ∈ t.lab, wk op x) (hq : ∀ q ∈ s, ∀ x ∈ t.lab, wk q.2 x)
    (hr : ∀ k, t.root = some k → P[k]? = some (some (own1 bf op (s.head?.map (·.2)))))
    (hn : (slab s ++ (t.lab ++ [op])).Nodup) (hl : ∀ k ∈ slab s ++ (t.lab ++ [op]), k < P.length) (hop : P[op]? = some none) :
    ∃ s' : List (LT × Nat), (linkStep bf (P, s.map (·.2)) op).2 = s'.map (·.2) ∧ Inv (linkStep bf (P, s.map (·.2)) op).1 s' ∧ Hp wk s' ∧ slab s' = slab s ++ (t.lab ++ [op]) ∧ (∃ L s'', s' = (L, op) :: s'') ∧
      (∀ k, k ∉ slab s → k ≠ op → (linkStep bf (P, s.map (·.2)) op).1[k]? = P[k]?) ∧ (linkStep bf (P, s.map (·.2)) op).1.length = P.length ∧ (∀ q ∈ s', q.2 = op ∨ q ∈ s) := by
  have hopn : op ∉ slab s ++ t.lab := by
    rw [← List.append_assoc, List.nodup_append] at hn
    intro e
    exact hn.2.2 op e op (by simp) rfl
  have hopl : op < P.length := hl op (by simp)
  have hne : ∀ q ∈ s, q.2 ≠ op := fun q hq' e => hopn (by rw [← e]; exact List.mem_append_left _ (slab_mem hq'))
  obtain ⟨a1, a2, a3, a4, a5, a6, a7, a8, a9, a10, a11⟩ := pop_ok O (P := P) s t none hb hne hi hh hx hc ho hq
    (fun q hq' k hk h => by
      rcases h with h | h
      · rw [hr k hk]
        cases s with
        | nil => cases hq'
        | cons a s => obtain ⟨L, c⟩ := a; cases hq'; simp [own1, h]
      · cases h) (fun h => by cases h)
  have suf := popS_suf (bf := bf) (op := op) s t
  have nd2 : (slab (popS bf op s t).1 ++ (popS bf op s t).2.lab).Nodup := by
    rw [a10]
    rw [← List.append_assoc, List.nodup_append] at hn
    exact hn.1
  have hopn2 : op ∉ slab (popS bf op s t).1 ++ (popS bf op s t).2.lab := by rw [a10]; exact hopn
  rw [List.nodup_append] at nd2
  generalize eS : (popS bf op s t).1 = S at *
  generalize eX : (popS bf op s t).2 = X at *
  generalize eC : (popL bf op (s.map (·.2)) none).1 = C at *
  generalize eL : (popL bf op (s.map (·.2)) none).2 = left at *
  have eK : linkStep bf (P, s.map (·.2)) op = (putC (putL P op left) op C, op :: C) := by
    unfold linkStep
    simp only [eC, eL]
  rw [eK]
  subst a1
  -- the parents after the first writing
  have key : ∃ P1 : Ps, P1 = putL P op left ∧ Rz P1 X (some op) ∧ (∀ k, k ∉ slab s → P1[k]? = P[k]?) ∧ (∀ k ∈ slab S, P1[k]? = P[k]?) ∧ P1.length = P.length := by
    refine ⟨_, rfl, ?_⟩
    cases left with
    | none =>
      obtain ⟨e, _⟩ := a3 rfl
      have e1 : S = s := by rw [← eS, e]
      have e2 : X = t := by rw [← eX, e]
      refine ⟨?_, fun k _ => rfl, fun k _ => rfl, rfl⟩
      rw [e2]
      refine hx.rz fun k hk => ?_
      rw [hr k hk]
      cases s with
      | nil => rfl
      | cons a s =>
        obtain ⟨L, c⟩ := a
        have w := a11 (L, c) (by rw [e1]; simp)
        have : ¬ bf c op = true := fun h => O.asym w ((hb (L, c) (by simp)).mp h)
        simp [own1, this]
    | some l =>
      have er : X.root = some l := (a2 rfl).symm
      have lm : l ∈ X.lab := root_mem er
      have lnS : l ∉ slab S := fun h => nd2.2.2 l h l lm rfl
      have ll : l < P.length := by
        have : l ∈ slab s ++ t.lab := by rw [← a10]; exact List.mem_append_right _ lm
        exact hl l (by rw [← List.append_assoc]; exact List.mem_append_left _ this)
      refine ⟨?_, fun k hk => ?_, fun k hk => get_set_ne fun e => lnS (by rw [← e]; exact hk), List.length_set⟩
      · refine Rs.rz (a6.frame (fun k hk hkr => get_set_ne fun e => hkr (by rw [e]; exact er)) nd2.2.1) fun k hk => ?_
        rw [er] at hk
        cases hk
        exact get_set_eq ll
      · refine get_set_ne fun e => hk ?_
        subst e
        have : k ∈ slab s ++ t.lab := by rw [← a10]; exact List.mem_append_right _ lm
        rcases List.mem_append.mp this with h | h
        · exact h
        · -- the root of X is an operator of the spine: it was popped
          exact (popL_left s none (by rw [eL]; rfl) k eL).elim (fun h => h) fun e => by cases e
  obtain ⟨P1, e1, r1, f1, f2, l1⟩ := key
  rw [← e1]
  clear e1
  refine ⟨(X, op) :: S, rfl, ?_, ?_, ?_, ⟨X, S, rfl⟩, ?_, ?_, ?_⟩
  · have opX : op ∉ X.lab := fun h => hopn2 (List.mem_append_right _ h)
    have opS : op ∉ slab S := fun h => hopn2 (List.mem_append_left _ h)
    cases S with
    | nil => exact ⟨r1, (f1 op fun h => hopn (List.mem_append_left _ h)).trans hop, trivial⟩
    | cons a S =>
      obtain ⟨L, c⟩ := a
      refine ⟨r1.frame fun k hk => get_set_ne fun e => opX (by rw [← e]; exact hk), get_set_eq (by rw [l1]; exact hopl), Inv.frame (fun k hk => ?_) a4⟩
      exact (get_set_ne fun e => opS (by rw [← e]; exact hk)).trans (f2 k hk)
  · exact ⟨a7, a8, fun q hq' => ⟨a11 q hq', a9 q hq'⟩, a5⟩
  · show slab S ++ (X.lab ++ [op]) = _
    rw [← List.append_assoc, a10, List.append_assoc]
  · intro k h1 h2
    cases S with
    | nil => exact f1 k h1
    | cons a S => exact (get_set_ne h2).trans (f1 k h1)
  · cases S with
    | nil => exact l1
    | cons a S => exact List.length_set.trans l1
  · intro q hq'
    rcases List.mem_cons.mp hq' with rfl | h
    · exact .inl rfl
    · exact .inr (suf.subset h)
/-- the labels of the parts of a level -/
def ilab : List (LT × Nat) → List Nat
  | [] => []
  | (t, k) :: is => t.lab ++ k :: ilab is
theorem coll_rz {P : Ps} : ∀ {s : List (LT × Nat)} {X : LT}, Inv P s → Rz P X (s.head?.map (·.2)) → Rz P (coll s X) none
  | [], X, _, h => h
  | (L, c) :: s, X, ⟨i1, i2, i3⟩, h => coll_rz (s := s) i3 ⟨i2, i1, h⟩
theorem coll_cart {wk : Nat → Nat → Prop} : ∀ {s : List (LT × Nat)} {X : LT}, Hp wk s → Cart wk X → (∀ q ∈ s, ∀ x ∈ X.lab, wk q.2 x) → Cart wk (coll s X)
  | [], X, _, h, _ => h
  | (L, c) :: s, X, ⟨p1, p2, p3, p4⟩, h, hq => coll_cart (s := s) p4 ⟨p2, fun x hx => hq (L, c) (by simp) x hx, p1, h⟩ fun q hq' x hx => by
    simp only [LT.lab, List.mem_append, List.mem_cons] at hx
    rcases hx with hx | rfl | hx
    · exact (p3 q hq').2 x hx
    · exact (p3 q hq').1
    · exact hq q (by simp [hq']) x hx
theorem coll_root : ∀ (s : List (LT × Nat)) (X : LT), s ≠ [] → (coll s X).root = (s.map (·.2)).getLast?
  | [], _, h => absurd rfl h
  | [(L, c)], X, _ => rfl
  | (L, c) :: a :: s, X, _ => by
    have := coll_root (a :: s) (.node L c X) (by simp)
    rw [coll, this]
    simp
def Owned (bf : Nat → Nat → Bool) (P : Ps) : Option Nat → List (LT × Nat) → LT → Prop
  | prev, [], t => ∀ k, t.root = some k → P[k]? = some prev
  | prev, (g, op) :: its, t => (∀ k, g.root = some k → P[k]? = some (some (own1 bf op prev))) ∧ Owned bf P (some op) its t
theorem Owned.frame {bf : Nat → Nat → Bool} {P P' : Ps} : ∀ {its : List (LT × Nat)} {t : LT} {prev : Option Nat}, (∀ q ∈ its, ∀ k ∈ q.1.lab, P'[k]? = P[k]?) → (∀ k ∈ t.lab, P'[k]? = P[k]?) → Owned bf P prev its t → Owned bf P' prev its t
  | [], t, prev, _, h2, h => fun k hk => (h2 k (root_mem hk)).trans (h k hk)
  | (g, op) :: its, t, prev, h1, h2, ⟨a, b⟩ => ⟨fun k hk => (h1 (g, op) (by simp) k (root_mem hk)).trans (a k hk), b.frame (fun q hq => h1 q (by simp [hq])) h2⟩
theorem ilab_op {its : List (LT × Nat)} {q : LT × Nat} (h : q ∈ its) : q.2 ∈ ilab its := by
  induction its with
  | nil => cases h
  | cons a its ih =>
    obtain ⟨t, k⟩ := a
    rcases List.mem_cons.mp h with rfl | h
    · simp [ilab]
    · simp [ilab, ih h]
theorem ilab_gr {its : List (LT × Nat)} {q : LT × Nat} (h : q ∈ its) {x : Nat} (hx : x ∈ q.1.lab) : x ∈ ilab its := by
  induction its with
  | nil => cases h
  | cons a its ih =>
    obtain ⟨t, k⟩ := a
    rcases List.mem_cons.mp h with rfl | h
    · simp [ilab, hx]
    · simp [ilab, ih h]
theorem ilab_nd {its : List (LT × Nat)} {q : LT × Nat} (hq : q ∈ its) (h : (ilab its).Nodup) : q.1.lab.Nodup := by
  induction its with
  | nil => cases hq
  | cons a its ih =>
    obtain ⟨u, k⟩ := a
    have h := List.nodup_append.mp (show (u.lab ++ k :: ilab its).Nodup from h)
    rcases List.mem_cons.mp hq with rfl | hq
    · exact h.1
    · exact ih hq (List.nodup_cons.mp h.2.1).2
theorem ops_ok {bf : Nat → Nat → Bool} {wk : Nat → Nat → Prop} (O : Ord wk) : ∀ (its : List (LT × Nat)) (t : LT) (s : List (LT × Nat)) (P : Ps),
    (∀ a, a ∈ s.map (·.2) ++ its.map (·.2) → ∀ b ∈ its.map (·.2), bf a b = true ↔ wk b a) → Inv P s → Hp wk s → (∀ q ∈ its, Rs P q.1 ∧ Cart wk q.1 ∧ P[q.2]? = some none) → Rs P t → Cart wk t →
    (∀ k, k ∈ s.map (·.2) ++ its.map (·.2) → (∀ q ∈ its, ∀ x ∈ q.1.lab, wk k x) ∧ ∀ x ∈ t.lab, wk k x) →
    Owned bf P (s.head?.map (·.2)) its t → (slab s ++ (ilab its ++ t.lab)).Nodup → (∀ k ∈ slab s ++ (ilab its ++ t.lab), k < P.length) →
    ∃ T : LT, T.lab = slab s ++ (ilab its ++ t.lab) ∧ Rz ((its.map (·.2)).foldl (linkStep bf) (P, s.map (·.2))).1 T none ∧ Cart wk T ∧
      (∀ k, k ∉ slab s → k ∉ ilab its → ((its.map (·.2)).foldl (linkStep bf) (P, s.map (·.2))).1[k]? = P[k]?) ∧ ((its.map (·.2)).foldl (linkStep bf) (P, s.map (·.2))).1.length = P.length ∧
      (s ≠ [] ∨ its ≠ [] → T.root = (((its.map (·.2)).foldl (linkStep bf) (P, s.map (·.2))).2).getLast?)
  | [], t, s, P, hb, hi, hh, hg, hx, hc, hw, ho, hn, hl => by
    refine ⟨coll s t, by simp [coll_lab, ilab], coll_rz hi (hx.rz ho), coll_cart hh hc fun q hq x hx => (hw q.2 (by simp; exact ⟨q.1, hq⟩)).2 x hx, fun k _ _ => rfl, rfl, fun h => ?_⟩
    rcases h with h | h
    · exact coll_root s t h
    · exact absurd rfl h
  | (g, op) :: its, t, s, P, hb, hi, hh, hg, hx, hc, hw, ho, hn, hl => by
    have hlab : slab s ++ (ilab ((g, op) :: its) ++ t.lab) = slab s ++ (g.lab ++ [op]) ++ (ilab its ++ t.lab) := by simp [ilab]
    rw [hlab] at hn hl
    have hn2 := List.nodup_append.mp hn
    obtain ⟨hg1, hg2, hg3⟩ := hg (g, op) (by simp)
    obtain ⟨s', e1, i1, h1, e2, ⟨L, s'', e3⟩, f1, l1, m1⟩ := step_ok O (P := P) (op := op) (s := s) (t := g) (bf := bf)
      (fun q hq => hb q.2 (List.mem_append_left _ (List.mem_map_of_mem hq)) op (by simp)) hi hh hg1 hg2 (fun x hx => (hw op (by simp)).1 (g, op) (by simp) x hx)
      (fun q hq x hx => (hw q.2 (List.mem_append_left _ (List.mem_map_of_mem hq))).1 (g, op) (by simp) x hx) ho.1 hn2.1 (fun k hk => hl k (List.mem_append_left _ hk)) hg3
    have e4 : linkStep bf (P, s.map (·.2)) op = ((linkStep bf (P, s.map (·.2)) op).1, s'.map (·.2)) := by rw [← e1]
    rw [List.map_cons, List.foldl_cons, e4]
    generalize (linkStep bf (P, s.map (·.2)) op).1 = P1 at *
    -- what was not touched
    have fr : ∀ k ∈ ilab its ++ t.lab, P1[k]? = P[k]? := fun k hk => f1 k (fun h => hn2.2.2 k (List.mem_append_left _ h) k hk rfl) fun e => hn2.2.2 op (by simp) k hk e.symm
    have sub : ∀ a, a ∈ s'.map (·.2) ++ its.map (·.2) → a ∈ s.map (·.2) ++ ((g, op) :: its).map (·.2) := by
      intro a ha
      rcases List.mem_append.mp ha with ha | ha
      · obtain ⟨q, hq, rfl⟩ := List.mem_map.mp ha
        rcases m1 q hq with e | h
        · rw [e]; simp
        · exact List.mem_append_left _ (List.mem_map_of_mem h)
      · exact List.mem_append_right _ (by rw [List.map_cons]; exact List.mem_cons_of_mem _ ha)
    have hd : s'.head?.map (·.2) = some op := by rw [e3]; rfl
    obtain ⟨T, t1, t2, t3, t4, t5, t6⟩ := ops_ok O its t s' P1 (fun a ha b hb' => hb a (sub a ha) b (by rw [List.map_cons]; exact List.mem_cons_of_mem _ hb')) i1 h1
      (fun q hq => by
        obtain ⟨a, b, c⟩ := hg q (by simp [hq])
        have nd : q.1.lab.Nodup := ilab_nd hq (List.nodup_append.mp hn2.2.1).1
        exact ⟨a.frame (fun k hk _ => fr k (List.mem_append_left _ (ilab_gr hq hk))) nd, b, (fr _ (List.mem_append_left _ (ilab_op hq))).trans c⟩)
      (hx.frame (fun k hk _ => fr k (List.mem_append_right _ hk)) (List.nodup_append.mp hn2.2.1).2.1) hc
      (fun k hk => ⟨fun q hq => (hw k (sub k hk)).1 q (by simp [hq]), (hw k (sub k hk)).2⟩)
      (by rw [hd]; exact ho.2.frame (fun q hq k hk => fr k (List.mem_append_left _ (ilab_gr hq hk))) fun k hk => fr k (List.mem_append_right _ hk))
      (by rw [e2]; exact hn) (by rw [e2, l1]; exact hl)
    refine ⟨T, by rw [t1, e2, hlab], t2, t3, fun k h1 h2 => ?_, by rw [t5, l1], fun _ => t6 (.inl (by rw [e3]; simp))⟩
    have h3 : k ∉ ilab its := fun h => h2 (by simp [ilab, h])
    have h4 : k ∉ slab s' := by
      rw [e2]
      intro h
      simp only [List.mem_append, List.mem_singleton] at h
      rcases h with h | h | h
      · exact h1 h
      · exact h2 (by simp [ilab, h])
      · exact h2 (by simp [ilab, h])
    rw [t4 k h4 h3]
    exact f1 k h1 fun e => h2 (by simp [ilab, e])
end Tr
namespace Tr
open Ex
def setR (P : Ps) (q : Option Nat) : Option Nat → Ps
  | some k => P.set k q
  | none => P
/-- the roots of the groups get their owners -/
def setG (bf : Nat → Nat → Bool) : Ps → Option Nat → List (Option Nat) → List Nat → Ps
  | P, prev, r :: rs, op :: ops => setG bf (setR P (some (own1 bf op prev)) r) (some op) rs ops
  | P, prev, r :: _, [] => setR P prev r
  | P, _, [], _ => P
def linkLv (bf : Nat → Nat → Bool) (P : Ps) (ops : List Nat) (roots : List (Option Nat)) : Ps × Option Nat := match ops with
  | [] => (P, roots.headD none)
  | _ => ((ops.foldl (linkStep bf) (setG bf P none roots ops, [])).1, (ops.foldl (linkStep bf) (setG bf P none roots ops, [])).2.getLast?)
theorem setR_len (P : Ps) (q r : Option Nat) : (setR P q r).length = P.length := by
  cases r <;> simp [setR]
theorem setR_ne {P : Ps} {q r : Option Nat} {k : Nat} (h : r ≠ some k) : (setR P q r)[k]? = P[k]? := by
  cases r with
  | none => rfl
  | some j => exact get_set_ne fun e => h (by rw [e])
theorem setR_eq {P : Ps} {q r : Option Nat} {k : Nat} (h : r = some k) (hl : k < P.length) : (setR P q r)[k]? = some q := by
  subst h; exact get_set_eq hl
def rootsOf (its : List (LT × Nat)) (t : LT) : List (Option Nat) := its.map (fun q => q.1.root) ++ [t.root]
theorem groups_ok {bf : Nat → Nat → Bool} : ∀ (its : List (LT × Nat)) (t : LT) (prev : Option Nat) (P : Ps), (ilab its ++ t.lab).Nodup → (∀ k ∈ ilab its ++ t.lab, k < P.length) →
    Owned bf (setG bf P prev (rootsOf its t) (its.map (·.2))) prev its t ∧ (∀ k, (∀ q ∈ its, q.1.root ≠ some k) → t.root ≠ some k → (setG bf P prev (rootsOf its t) (its.map (·.2)))[k]? = P[k]?) ∧ (setG bf P prev (rootsOf its t) (its.map (·.2))).length = P.length
  | [], t, prev, P, hn, hl => ⟨fun k hk => setR_eq hk (hl k (by simp [ilab, root_mem hk])), fun k _ h => setR_ne h, setR_len _ _ _⟩
  | (g, op) :: its, t, prev, P, hn, hl => by
    have hlab : ilab ((g, op) :: its) ++ t.lab = g.lab ++ ([op] ++ (ilab its ++ t.lab)) := by simp [ilab]
    rw [hlab] at hn hl
    have hn1 := List.nodup_append.mp hn
    have hn2 := List.nodup_append.mp hn1.2.1
    obtain ⟨a, b, c⟩ := groups_ok its t (some op) (setR P (some (own1 bf op prev)) g.root) hn2.2.1 (fun k hk => by rw [setR_len]; exact hl k (by simp at hk ⊢; rcases hk with h | h <;> simp [h]))
    have e : setG bf P prev (rootsOf ((g, op) :: its) t) (((g, op) :: its).map (·.2)) = setG bf (setR P (some (own1 bf op prev)) g.root) (some op) (rootsOf its t) (its.map (·.2)) := rfl
    rw [e]
    refine ⟨⟨fun k hk => ?_, a⟩, fun k h1 h2 => ?_, by rw [c, setR_len]⟩
    · have hk' := root_mem hk
      rw [b k (fun q hq h => hn1.2.2 k hk' k (List.mem_append_right _ (List.mem_append_left _ (ilab_gr hq (root_mem h)))) rfl) fun h => hn1.2.2 k hk' k (List.mem_append_right _ (List.mem_append_right _ (root_mem h))) rfl]
      exact setR_eq hk (hl k (List.mem_append_left _ hk'))
    · rw [b k (fun q hq => h1 q (by simp [hq])) h2]
      exact setR_ne (h1 (g, op) (by simp))
theorem level_ok {bf : Nat → Nat → Bool} {wk : Nat → Nat → Prop} (O : Ord wk) {its : List (LT × Nat)} {t : LT} {P : Ps}
    (hb : ∀ a ∈ its.map (·.2), ∀ b ∈ its.map (·.2), bf a b = true ↔ wk b a) (hg : ∀ q ∈ its, Rz P q.1 none ∧ Cart wk q.1 ∧ P[q.2]? = some none) (hx : Rz P t none) (hc : Cart wk t)
    (hw : ∀ k ∈ its.map (·.2), (∀ q ∈ its, ∀ x ∈ q.1.lab, wk k x) ∧ ∀ x ∈ t.lab, wk k x) (hn : (ilab its ++ t.lab).Nodup) (hl : ∀ k ∈ ilab its ++ t.lab, k < P.length) :
    ∃ T : LT, T.lab = ilab its ++ t.lab ∧ Rz (linkLv bf P (its.map (·.2)) (rootsOf its t)).1 T none ∧ Cart wk T ∧ (∀ k, k ∉ ilab its ++ t.lab → (linkLv bf P (its.map (·.2)) (rootsOf its t)).1[k]? = P[k]?) ∧
      (linkLv bf P (its.map (·.2)) (rootsOf its t)).1.length = P.length ∧ T.root = (linkLv bf P (its.map (·.2)) (rootsOf its t)).2 := by
  by_cases h : its = []
  · subst h
    exact ⟨t, rfl, hx, hc, fun k _ => rfl, rfl, rfl⟩
  · have e : linkLv bf P (its.map (·.2)) (rootsOf its t) = (((its.map (·.2)).foldl (linkStep bf) (setG bf P none (rootsOf its t) (its.map (·.2)), [])).1, ((its.map (·.2)).foldl (linkStep bf) (setG bf P none (rootsOf its t) (its.map (·.2)), [])).2.getLast?) := by
      cases its with
      | nil => exact absurd rfl h
      | cons a its => rfl
    obtain ⟨g1, g2, g3⟩ := groups_ok (bf := bf) its t none P hn hl
    rw [e]
    generalize setG bf P none (rootsOf its t) (its.map (·.2)) = P1 at *
    have hn1 := List.nodup_append.mp hn
    have opr : ∀ (its : List (LT × Nat)), (ilab its).Nodup → ∀ q ∈ its, ∀ q' ∈ its, q'.2 ∉ q.1.lab := by
      intro its
      induction its with
      | nil => intro _ q hq; cases hq
      | cons a its ih =>
        intro nd q hq q' hq'
        obtain ⟨u, k⟩ := a
        have nd := List.nodup_append.mp (show (u.lab ++ k :: ilab its).Nodup from nd)
        have nd2 := List.nodup_cons.mp nd.2.1
        rcases List.mem_cons.mp hq with rfl | hq <;> rcases List.mem_cons.mp hq' with rfl | hq'
        · exact fun hx => nd.2.2 _ hx k (by simp) rfl
        · exact fun hx => nd.2.2 _ hx q'.2 (List.mem_cons_of_mem _ (ilab_op hq')) rfl
        · exact fun hx => nd2.1 (ilab_gr hq hx)
        · exact ih nd2.2 q hq q' hq'
    have tr : ∀ q ∈ its, ∀ k ∈ q.1.lab, t.root ≠ some k := fun q hq k hk h => hn1.2.2 k (ilab_gr hq hk) k (root_mem h) rfl
    have gdis : ∀ (its : List (LT × Nat)), (ilab its).Nodup → ∀ q ∈ its, ∀ q' ∈ its, ∀ k ∈ q.1.lab, q'.1.root = some k → q.1.root = some k := by
      intro its
      induction its with
      | nil => intro _ q hq; cases hq
      | cons a its ih =>
        intro nd q hq q' hq' k hk hr
        obtain ⟨u, j⟩ := a
        have nd := List.nodup_append.mp (show (u.lab ++ j :: ilab its).Nodup from nd)
        have nd2 := List.nodup_cons.mp nd.2.1
        rcases List.mem_cons.mp hq with rfl | hq <;> rcases List.mem_cons.mp hq' with rfl | hq'
        · exact hr
        · exact absurd rfl (nd.2.2 k hk k (List.mem_cons_of_mem _ (ilab_gr hq' (root_mem hr))))
        · exact absurd rfl (nd.2.2 k (root_mem hr) k (List.mem_cons_of_mem _ (ilab_gr hq hk)))
        · exact ih nd2.2 q hq q' hq' k hk hr
    obtain ⟨T, t1, t2, t3, t4, t5, t6⟩ := ops_ok O its t [] P1 (fun a ha b hb' => hb a (by simpa using ha) b hb') trivial trivial
      (fun q hq => by
        obtain ⟨a, b, c⟩ := hg q hq
        refine ⟨a.rs.frame (fun k hk hkr => g2 k (fun q' hq' h => hkr (gdis its hn1.1 q hq q' hq' k hk h)) (tr q hq k hk)) (ilab_nd hq hn1.1), b, ?_⟩
        rw [g2 q.2 (fun q' hq' h => opr its hn1.1 q' hq' q hq (root_mem h)) fun h => hn1.2.2 q.2 (ilab_op hq) q.2 (root_mem h) rfl]
        exact c)
      (hx.rs.frame (fun k hk hkr => g2 k (fun q' hq' h => hn1.2.2 k (ilab_gr hq' (root_mem h)) k hk rfl) hkr) hn1.2.1) hc
      (fun k hk => hw k (by simpa using hk)) g1 (by simpa [slab] using hn) (by rw [g3]; simpa [slab] using hl)
    refine ⟨T, by simpa [slab] using t1, t2, t3, fun k hk => ?_, by rw [← g3]; exact t5, t6 (.inr h)⟩
    have h1 : k ∉ ilab its := fun x => hk (List.mem_append_left _ x)
    have h2 : k ∉ t.lab := fun x => hk (List.mem_append_right _ x)
    exact (t4 k (by simp [slab]) h1).trans (g2 k (fun q hq e => h1 (ilab_gr hq (root_mem e))) fun e => h2 (root_mem e))
abbrev TS := Ps × List (List Nat × List (Option Nat)) × Nat
def shut (bf : Nat → Nat → Bool) (P : Ps) (n : Nat) : List (List Nat × List (Option Nat)) → TS
  | (os, rs) :: (os2, rs2) :: B => ((linkLv bf P os rs).1, (os2, rs2 ++ [(linkLv bf P os rs).2]) :: B, n)
  | B => (P, B, n)
def addR : List (List Nat × List (Option Nat)) → Option Nat → List (List Nat × List (Option Nat))
  | (os, rs) :: B, r => (os, rs ++ [r]) :: B
  | [], _ => []
def addO : List (List Nat × List (Option Nat)) → Nat → List (List Nat × List (Option Nat))
  | (os, rs) :: B, n => (os ++ [n], rs) :: B
  | [], _ => []
def stp (bf : Nat → Nat → Bool) (s : TS) (c : Nat) : TS :=
  if c = 40 then (s.1, ([], []) :: s.2.1, s.2.2) else if c = 41 then shut bf s.1 s.2.2 s.2.1 else if c = 46 then (s.1, addR s.2.1 none, s.2.2) else (s.1, addO s.2.1 s.2.2, s.2.2 + 1)
mutual
def Op.deps : Op → Nat → List Nat
  | .dot, _ => []
  | .par e, d => E.deps e (d + 1)
def E.deps : E → Nat → List Nat
  | .one o, d => Op.deps o d
  | .cons o _ e, d => Op.deps o d ++ d :: E.deps e d
end
def wkO (dep : Nat → Nat) (v : Nat → Int) (a b : Nat) : Prop := dep a < dep b ∨ dep a = dep b ∧ (v a < v b ∨ v a = v b ∧ b < a)
theorem wkO_ord (dep : Nat → Nat) (v : Nat → Int) : Ord (wkO dep v) := by
  refine ⟨fun {a b c} h1 h2 => ?_, fun {a b} h => ?_, fun {a b} h1 h2 => ?_⟩ <;> unfold wkO at * <;> omega
def bfO (v : Nat → Int) (a b : Nat) : Bool := decide (v a > v b) || (decide (v a = v b) && decide (a < b))
theorem bfO_wk {dep : Nat → Nat} {v : Nat → Int} {a b : Nat} (h : dep a = dep b) : bfO v a b = true ↔ wkO dep v b a := by
  unfold bfO wkO
  simp only [Bool.or_eq_true, Bool.and_eq_true, decide_eq_true_eq]
  omega
mutual
theorem Op.deps_len : ∀ (o : Op) (d : Nat), (Op.deps o d).length = o.lets.length
  | .dot, _ => rfl
  | .par e, d => E.deps_len e (d + 1)
theorem E.deps_len : ∀ (e : E) (d : Nat), (E.deps e d).length = e.lets.length
  | .one o, d => Op.deps_len o d
  | .cons o _ e, d => by simp [E.deps, E.lets, Op.deps_len o d, E.deps_len e d]
end
mutual
theorem Op.deps_ge : ∀ (o : Op) (d : Nat), ∀ x ∈ Op.deps o d, d < x
  | .dot, _, x, h => by simp [Op.deps] at h
  | .par e, d, x, h => by have := E.deps_ge e (d + 1) x h; omega
theorem E.deps_ge : ∀ (e : E) (d : Nat), ∀ x ∈ E.deps e d, d ≤ x
  | .one o, d, x, h => Nat.le_of_lt (Op.deps_ge o d x h)
  | .cons o _ e, d, x, h => by
    simp only [E.deps, List.mem_append, List.mem_cons] at h
    rcases h with h | h | h
    · exact Nat.le_of_lt (Op.deps_ge o d x h)
    · omega
    · exact E.deps_ge e d x h
end
theorem stp_let {bf : Nat → Nat → Bool} {P : Ps} {os : List Nat} {rs : List (Option Nat)} {B : List (List Nat × List (Option Nat))} {n c : Nat} (h : isL c = true) : stp bf (P, (os, rs) :: B, n) c = (P, (os ++ [n], rs) :: B, n + 1) := by
  obtain ⟨h1, h2, h3⟩ := isL_40 h
  simp [stp, h1, h2, h3, addO]
theorem stp_opn {bf : Nat → Nat → Bool} {P : Ps} {B : List (List Nat × List (Option Nat))} {n : Nat} : stp bf (P, B, n) 40 = (P, ([], []) :: B, n) := rfl
theorem stp_cls {bf : Nat → Nat → Bool} {P : Ps} {os os2 : List Nat} {rs rs2 : List (Option Nat)} {B : List (List Nat × List (Option Nat))} {n : Nat} : stp bf (P, (os, rs) :: (os2, rs2) :: B, n) 41 = ((linkLv bf P os rs).1, (os2, rs2 ++ [(linkLv bf P os rs).2]) :: B, n) := rfl
/-- what a level leaves -/
structure Lvl (dep : Nat → Nat) (v : Nat → Int) (n d len : Nat) (P P' : Ps) (its : List (LT × Nat)) (t : LT) : Prop where
  lab : ilab its ++ t.lab = List.range' n len
  gr : ∀ q ∈ its, Rz P' q.1 none ∧ Cart (wkO dep v) q.1 ∧ P'[q.2]? = some none
  lst : Rz P' t none
  crt : Cart (wkO dep v) t
  dop : ∀ q ∈ its, dep q.2 = d
  dgr : ∀ q ∈ its, ∀ x ∈ q.1.lab, d < dep x
  dls : ∀ x ∈ t.lab, d < dep x
  fr : ∀ k, ¬ (n ≤ k ∧ k < n + len) → P'[k]? = P[k]?
  len : P'.length = P.length
theorem Lvl.link {dep : Nat → Nat} {v : Nat → Int} {n d len : Nat} {P P' : Ps} {its : List (LT × Nat)} {t : LT} (h : Lvl dep v n d len P P' its t) (hl : n + len ≤ P.length) :
    ∃ T : LT, T.lab = List.range' n len ∧ Rz (linkLv (bfO v) P' (its.map (·.2)) (rootsOf its t)).1 T none ∧ Cart (wkO dep v) T ∧ (∀ k, ¬ (n ≤ k ∧ k < n + len) → (linkLv (bfO v) P' (its.map (·.2)) (rootsOf its t)).1[k]? = P[k]?) ∧
      (linkLv (bfO v) P' (its.map (·.2)) (rootsOf its t)).1.length = P.length ∧ T.root = (linkLv (bfO v) P' (its.map (·.2)) (rootsOf its t)).2 := by
  have mr : ∀ k, k ∈ List.range' n len ↔ n ≤ k ∧ k < n + len := fun k => by rw [List.mem_range'_1]
  have dd : ∀ k ∈ its.map (·.2), dep k = d := fun k hk => by obtain ⟨q, hq, rfl⟩ := List.mem_map.mp hk; exact h.dop q hq
  obtain ⟨T, t1, t2, t3, t4, t5, t6⟩ := level_ok (wkO_ord dep v) (its := its) (t := t) (P := P') (bf := bfO v)
    (fun a ha b hb => bfO_wk ((dd a ha).trans (dd b hb).symm)) h.gr h.lst h.crt
    (fun k hk => ⟨fun q hq x hx => .inl (by rw [dd k hk]; exact h.dgr q hq x hx), fun x hx => .inl (by rw [dd k hk]; exact h.dls x hx)⟩)
    (by rw [h.lab]; exact List.nodup_range') (fun k hk => by rw [h.lab, mr] at hk; rw [h.len]; omega)
  refine ⟨T, t1.trans h.lab, t2, t3, fun k hk => ?_, t5.trans h.len, t6⟩
  rw [t4 k (by rw [h.lab, mr]; exact hk)]
  exact h.fr k hk
theorem range'_app (n a b : Nat) : List.range' n (a + b) = List.range' n a ++ List.range' (n + a) b := by
  rw [List.range'_append_1]
mutual
theorem Op.run {dep : Nat → Nat} {v : Nat → Int} : ∀ (o : Op) (n d : Nat) (P : Ps) (os : List Nat) (rs : List (Option Nat)) (B : List (List Nat × List (Option Nat))), (∀ c ∈ o.lets, isL c = true) → (List.range' n o.lets.length).map dep = Op.deps o d → (∀ k, n ≤ k → k < n + o.lets.length → P[k]? = some none) → n + o.lets.length ≤ P.length →
    ∃ (P' : Ps) (T : LT), o.text.foldl (stp (bfO v)) (P, (os, rs) :: B, n) = (P', (os, rs ++ [T.root]) :: B, n + o.lets.length) ∧ T.lab = List.range' n o.lets.length ∧ Rz P' T none ∧ Cart (wkO dep v) T ∧ (∀ k, ¬ (n ≤ k ∧ k < n + o.lets.length) → P'[k]? = P[k]?) ∧ P'.length = P.length ∧ (∀ x ∈ T.lab, d < dep x)
  | .dot, n, d, P, os, rs, B, _, _, _, _ => ⟨P, .leaf, rfl, rfl, trivial, trivial, fun _ _ => rfl, rfl, fun x h => (nomatch h)⟩
  | .par e, n, d, P, os, rs, B, hL, hd, hP, hl => by
    obtain ⟨P', its, t, e1, L⟩ := E.run (v := v) e n (d + 1) P [] [] ((os, rs) :: B) hL hd hP hl
    obtain ⟨T, t1, t2, t3, t4, t5, t6⟩ := L.link hl
    refine ⟨_, T, ?_, t1, t2, t3, t4, t5, fun x hx => ?_⟩
    · show (40 :: (e.text ++ [41])).foldl _ _ = _
      rw [List.foldl_cons, stp_opn, List.foldl_append, e1, List.nil_append, List.nil_append, List.foldl_cons, List.foldl_nil, stp_cls, ← t6]
      rfl
    · rw [t1] at hx
      have := List.mem_map_of_mem (f := dep) hx
      rw [show (List.range' n e.lets.length).map dep = E.deps e (d + 1) from hd] at this
      exact E.deps_ge e (d + 1) _ this
theorem E.run {dep : Nat → Nat} {v : Nat → Int} : ∀ (e : E) (n d : Nat) (P : Ps) (os : List Nat) (rs : List (Option Nat)) (B : List (List Nat × List (Option Nat))), (∀ c ∈ e.lets, isL c = true) → (List.range' n e.lets.length).map dep = E.deps e d → (∀ k, n ≤ k → k < n + e.lets.length → P[k]? = some none) → n + e.lets.length ≤ P.length →
    ∃ (P' : Ps) (its : List (LT × Nat)) (t : LT), e.text.foldl (stp (bfO v)) (P, (os, rs) :: B, n) = (P', (os ++ its.map (·.2), rs ++ rootsOf its t) :: B, n + e.lets.length) ∧ Lvl dep v n d e.lets.length P P' its t
  | .one o, n, d, P, os, rs, B, hL, hd, hP, hl => by
    obtain ⟨P', T, e1, t1, t2, t3, t4, t5, t6⟩ := Op.run (v := v) o n d P os rs B hL hd hP hl
    exact ⟨P', [], T, by rw [show (E.one o).text = o.text from rfl, e1]; simp [rootsOf, E.lets], ⟨t1, fun q h => (nomatch h), t2, t3, fun q h => (nomatch h), fun q h => (nomatch h), t6, t4, t5⟩⟩
  | .cons o c e, n, d, P, os, rs, B, hL, hd, hP, hl => by
    have hlen : (E.cons o c e).lets.length = o.lets.length + (1 + e.lets.length) := by simp [E.lets]; omega
    have hL1 : ∀ x ∈ o.lets, isL x = true := fun x hx => hL x (by simp [E.lets, hx])
    have hL2 : ∀ x ∈ e.lets, isL x = true := fun x hx => hL x (by simp [E.lets, hx])
    have hc : isL c = true := hL c (by simp [E.lets])
    rw [hlen, range'_app, range'_app, List.map_append, List.map_append, show E.deps (.cons o c e) d = Op.deps o d ++ ([d] ++ E.deps e d) from rfl] at hd
    obtain ⟨hd1, hd2⟩ := List.append_inj hd (by simp [Op.deps_len])
    obtain ⟨hd3, hd4⟩ := List.append_inj hd2 (by simp)
    have hdn : dep (n + o.lets.length) = d := by simpa using hd3
    rw [hlen] at hl hP
    obtain ⟨P1, T, e1, t1, t2, t3, t4, t5, t6⟩ := Op.run (v := v) o n d P os rs B hL1 hd1 (fun k h1 h2 => hP k h1 (by omega)) (by omega)
    obtain ⟨P2, its, t, e2, L⟩ := E.run (v := v) e (n + o.lets.length + 1) d P1 (os ++ [n + o.lets.length]) (rs ++ [T.root]) B hL2 hd4 (fun k h1 h2 => by rw [t4 k (by omega)]; exact hP k (by omega) (by omega)) (by omega)
    have m1 : ∀ k, k ∈ T.lab → n ≤ k ∧ k < n + o.lets.length := fun k hk => by rw [t1, List.mem_range'_1] at hk; exact hk
    refine ⟨P2, (T, n + o.lets.length) :: its, t, ?_, ⟨?_, ?_, L.lst, L.crt, ?_, ?_, L.dls, ?_, L.len.trans t5⟩⟩
    · rw [show (E.cons o c e).text = o.text ++ c :: e.text from rfl, List.foldl_append, e1, List.foldl_cons, stp_let hc, e2, hlen]
      simp [rootsOf]; omega
    · rw [hlen, range'_app, range'_app]
      show (T.lab ++ (n + o.lets.length) :: ilab its) ++ t.lab = _
      rw [List.append_assoc, List.cons_append, L.lab, t1]
      rfl
    · intro q hq
      rcases List.mem_cons.mp hq with rfl | hq
      · exact ⟨t2.frame fun k hk => L.fr k (by have := m1 k hk; omega), t3, (L.fr _ (by omega)).trans ((t4 _ (by omega)).trans (hP _ (by omega) (by omega)))⟩
      · exact L.gr q hq
    · intro q hq
      rcases List.mem_cons.mp hq with rfl | hq
      · exact hdn
      · exact L.dop q hq
    · intro q hq
      rcases List.mem_cons.mp hq with rfl | hq
      · exact t6
      · exact L.dgr q hq
    · intro k hk
      rw [hlen] at hk
      rw [L.fr k (by omega), t4 k (by omega)]
end
end Tr
namespace Pg
open PySem PySem.Spec PyProof.Rows L2 Pm
def rowOf (t : Tab) (c : Nat) : Nat × Int × Int := (t.find? fun r => r.1 == c).getD (0, 0, 0)
def has (t : Tab) (c : Nat) : Prop := ∃ r ∈ t, r.1 = c
theorem put_len {α : Type} (ks : List Key) (k : Key) : (putKs ks k).length ≤ ks.length + 1 := by
  unfold putKs
  split <;> simp
def SmT (t : Tab) : Prop := ∀ r ∈ t, Sm 60 r.2.1 ∧ Sm 60 r.2.2
theorem SmT.of {t : Tab} (h : TabOk t) : SmT t := fun r hr => by
  have := h.num r hr
  unfold Sm GR at *
  omega
end Pg
namespace Pg
open PySem PySem.Spec PyProof.Rows L2 Pm
def oD (b : Bool) (os : List Nat) : D := .node b .lst (os.map fun k : Nat => D.int (k : Int))
def rtD : Option Nat → D
  | none => .non
  | some k => .int (k : Int)
theorem oD_plain (os : List Nat) : plainL (os.map fun k : Nat => D.int (k : Int)) = true := by
  induction os with
  | nil => rfl
  | cons x xs ih => rw [List.map_cons, plainL, ih]; rfl
theorem frz_ints (os : List Nat) : frzL (os.map fun k : Nat => D.int (k : Int)) = os.map fun k : Nat => D.int (k : Int) := frzL_of_plain _ (oD_plain os)
end Pg
namespace Pm
open PySem PySem.Spec PyProof.Rows L2
end Pm
set_option maxHeartbeats 2000000
namespace Pm
open PySem PySem.Spec PyProof.Rows L2
end Pm
set_option maxHeartbeats 2000000
namespace Pm
open PySem PySem.Spec PyProof.Rows L2
end Pm
set_option maxHeartbeats 2000000
namespace Pm
open PySem PySem.Spec PyProof.Rows L2
/-- what is known of a class, so that its instances may be asked -/
structure XK (K : PySem.W.Frag) (C : Addr) : Prop where
  ga : PySem.W.findIn K (.ref C) "__getattribute__" = some (some (.builtin "BaseException.__getattribute__"))
  gg : PySem.W.findIn K (.ref C) "__getattr__" = some none
  exC : PySem.W.subIn K (.ref C) (.type "BaseException") = some true
  hdC : PySem.W.hasDictIn K C = true
  ca : PySem.W.findIn K (.ref C) "__class__" = some (some (.builtin "object.__class__"))
  sp : PySem.W.specialIn K (.builtin "object.__class__") "__get__" = some (some (.builtin "getset_descriptor.__get__"))
  tk : PySem.W.takesIn K (.builtin "object.__class__") = some true
  mo : PySem.W.mroIn K C (.type "object") = some true
end Pm
set_option maxHeartbeats 2000000
namespace Pm
open PySem PySem.Spec PyProof.Rows L2
section
variable {K : PySem.W.Frag} {mg : Str → Option Value} {W : WX} {Z H : Hp} {S : Fp} {σ : Sl} {X : Cx}
theorem peek_rep {ρ : Env} {ev : EV} {v : V} {d : D} {Sd : Fp} (er : EnvR K Z H ρ σ S) (r : EVR K Z H σ ev v Sd) (hp : peek1 ρ ev = some d) : ∃ S0, Rep K Z H d v S0 := by
  cases ev with
  | val d' =>
    cases hp
    exact ⟨Sd, r⟩
  | ref i =>
    obtain ⟨v', S1, S2, e1, _, _, _, r1, _⟩ := er.take (getD_some (show ρ.getD i none = some d from hp))
    have e2 : σ[i]? = some (some v) := r
    rw [e1] at e2
    cases e2
    exact ⟨S1, r1⟩
theorem look_rep {f : Str} : ∀ {fs : List Str} {xs : List D} {ys : List V} {S : Fp} {d : D}, RepL K Z H xs ys S → (fs.zip xs).lookup f = some d → ∃ y S0, (fs.zip ys).lookup f = some y ∧ Rep K Z H d y S0
  | [], xs, ys, S, d, _, h => by simp at h
  | g :: fs, [], ys, S, d, _, h => by simp at h
  | g :: fs, x :: xs, [], S, d, r, _ => r.elim
  | g :: fs, x :: xs, y :: ys, S, d, ⟨S1, S2, _, _, _, r, q⟩, h => by
    rw [List.zip_cons_cons, List.lookup_cons] at h
    rw [List.zip_cons_cons, List.lookup_cons]
    cases e : f == g with
    | true =>
      simp only [e] at h ⊢
      cases h
      exact ⟨y, S1, rfl, r⟩
    | false =>
      simp only [e] at h ⊢
      exact look_rep q h
end
end Pm
namespace Pm
open PySem PySem.Spec PyProof.Rows L2
end Pm
namespace Pm
open PySem PySem.Spec PyProof.Rows L2
section
variable {K : PySem.W.Frag} {mg : Str → Option Value} {W : WX} {Z Z' H H' : Hp} {S S' : Fp} {σ : Sl} {X : Cx} {e o : Expr} {fa fb : M EV}
theorem RepL.ins {d : D} {v : V} (rd : Rep K Z H d v Fp0) : ∀ {ds : List D} {vs : List V} {S : Fp} {i : Nat}, RepL K Z H ds vs S → RepL K Z H (ds.take i ++ [d] ++ ds.drop i) (vs.take i ++ [v] ++ vs.drop i) S
  | [], [], S, i, h => by
    simp only [List.take_nil, List.drop_nil, List.nil_append, List.append_nil]
    exact ⟨Fp0, S, fun _ x => x.elim, fun _ x => x, fun _ x => x.elim, rd, h⟩
  | [], _ :: _, _, _, h => h.elim
  | _ :: _, [], _, _, h => h.elim
  | d' :: ds, v' :: vs, S, 0, h => ⟨Fp0, S, fun _ x => x.elim, fun _ x => x, fun _ x => x.elim, rd, h⟩
  | d' :: ds, v' :: vs, S, i + 1, ⟨S1, S2, s1, s2, dj, r, q⟩ => ⟨S1, S2, s1, s2, dj, r, RepL.ins rd q⟩
end
end Pm
namespace Pm
open PySem PySem.Spec PyProof.Rows L2
end Pm
namespace Pm
open PySem PySem.Spec PyProof.Rows L2
end Pm
namespace Tr
open Ex
structure LvOk (n : Nat) (q : List Nat × List (Option Nat)) : Prop where
  asc : q.1.Pairwise (· < ·)
  ops : ∀ k ∈ q.1, k < n
  rts : ∀ r ∈ q.2, ∀ k, r = some k → k < n
theorem LvOk.mono {n m : Nat} {q : List Nat × List (Option Nat)} (h : LvOk n q) (l : n ≤ m) : LvOk m q := ⟨h.asc, fun k hk => Nat.lt_of_lt_of_le (h.ops k hk) l, fun r hr k e => Nat.lt_of_lt_of_le (h.rts r hr k e) l⟩
end Tr
namespace Pg
open PySem PySem.Spec PyProof.Rows L2 Pm
def st0 (n : Nat) : Tr.TS := (List.replicate n none, [([], [])], 0)
end Pg
namespace Tr
/-- in order, without a gap -/
def Run (T : LT) (a m : Nat) : Prop := T.lab = List.range' a m
theorem Run.mem {T : LT} {a m x : Nat} (h : Run T a m) : x ∈ T.lab ↔ a ≤ x ∧ x < a + m := by rw [h, List.mem_range'_1]
theorem Run.root {T : LT} {a m k : Nat} (h : Run T a m) (e : T.root = some k) : a ≤ k ∧ k < a + m := h.mem.mp (root_mem e)
end Tr
namespace Pm
open PySem PySem.Spec PyProof.Rows L2
end Pm
namespace Pg
open PySem PySem.Spec PyProof.Rows L2 Pm
noncomputable def b_is_integer : M Fl := (rtn (andE (app opIsi (aCons (loc 0) (aCons (con (.op (.ty "int"))) aNil))) (notE (app opIsi (aCons (loc 0) (aCons (con (.op (.ty "bool"))) aNil))))))
noncomputable def x_is_integer : FSem := mkF 1 1 [] b_is_integer
noncomputable def b_is_between : M Fl := (rtn (andE (callF x_is_integer (aCons (loc 0) aNil)) (chI cLe cLe (loc 1) (loc 0) (loc 2))))
noncomputable def x_is_between : FSem := mkF 3 3 [] b_is_between
theorem isint_i (i : Int) : x_is_integer [.int i] = .ret (.bl true) [.int i] := by
  unfold x_is_integer
  refine mkF_rt (ρ := [some (.int i)]) ?_ rfl
  unfold b_is_integer
  show (rtn (andE (app opIsi (aCons (loc 0) (aCons (con (.op (.ty "int"))) aNil))) (notE (app opIsi (aCons (loc 0) (aCons (con (.op (.ty "bool"))) aNil)))))) [some (.int i)] = _
  have h1 : opIsi [.int i, .op (.ty "int")] = some (.bl true) := rfl
  have h2 : opIsi [.int i, .op (.ty "bool")] = some (.bl false) := rfl
  simp [mkF, reFrz, seq, Pm.ite, rtn, mov, asg, drp, sNx, bnd, Pm.bin, Pm.un, app, aCons, aNil, idx, loc, con, Pm.ret, peek1, peeks, itemOf, on2I, iAdd, iSub, iGt, iGe, iLt, iLe, iDiv, iMod, use1, useL, gI, gN, tst, andT, orT, notT, andE, orE, notE, ifE, ixN, D.frz, D.plain, plainL, argsBack, opLen, opAbs, opInt1, opNeg, disp, cap, callF, takes, puts, selA, sel, aApp, par, gT, gsC, gs0, appF, opDivmod, frzL, plainL, h1, h2]
theorem between_i (i a b : Int) : x_is_between [.int i, .int a, .int b] = .ret (.bl (decide (a ≤ i ∧ i ≤ b))) [.int i, .int a, .int b] := by
  unfold x_is_between
  refine mkF_rt (ρ := [some (.int i), some (.int a), some (.int b)]) ?_ rfl
  unfold b_is_between
  show (rtn (andE (callF x_is_integer (aCons (loc 0) aNil)) (chI cLe cLe (loc 1) (loc 0) (loc 2)))) [some (.int i), some (.int a), some (.int b)] = _
  by_cases h1 : a ≤ i
  · simp [mkF, reFrz, seq, Pm.ite, rtn, mov, asg, drp, sNx, bnd, Pm.bin, Pm.un, app, aCons, aNil, idx, loc, con, Pm.ret, peek1, peeks, itemOf, on2I, iAdd, iSub, iGt, iGe, iLt, iLe, iDiv, iMod, use1, useL, gI, gN, tst, andT, orT, notT, andE, orE, notE, ifE, ixN, D.frz, D.plain, plainL, argsBack, opLen, opAbs, opInt1, opNeg, disp, cap, callF, takes, puts, selA, sel, aApp, par, gT, gsC, gs0, appF, opDivmod, frzL, plainL, isint_i, chI, cLe, h1]
  · simp [mkF, reFrz, seq, Pm.ite, rtn, mov, asg, drp, sNx, bnd, Pm.bin, Pm.un, app, aCons, aNil, idx, loc, con, Pm.ret, peek1, peeks, itemOf, on2I, iAdd, iSub, iGt, iGe, iLt, iLe, iDiv, iMod, use1, useL, gI, gN, tst, andT, orT, notT, andE, orE, notE, ifE, ixN, D.frz, D.plain, plainL, argsBack, opLen, opAbs, opInt1, opNeg, disp, cap, callF, takes, puts, selA, sel, aApp, par, gT, gsC, gs0, appF, opDivmod, frzL, plainL, isint_i, chI, cLe, h1]
end Pg
namespace Pm
open PySem PySem.Spec PyProof.Rows L2
mutual
/-- data as it is shown -/
def pd : D → Option PyData
  | .non => some .none
  | .bl b => some (.bool b)
  | .int i => some (.int i)
  | .str x => some (.str x)
  | .op _ => none
  | .node _ .lst xs => (pdL xs).map .list
  | .node _ .tup xs => (pdL xs).map .tuple
  | .node _ (.dct ks) xs => if ks.length = xs.length then (pdL xs).map fun ps => .dict ((ks.map keyP).zip ps) else none
  | .node _ _ _ => none
def pdL : List D → Option (List PyData)
  | [] => some []
  | d :: ds => match pd d, pdL ds with
    | some p, some ps => some (p :: ps)
    | _, _ => none
end
section
variable {X : Cx} {pins : List (Addr × Obj)} {σ : L2.St} {H : Hp} {s : Shared}
theorem zip_snd : ∀ {α β : Type} (ks : List α) (ps : List β), ks.length = ps.length → (ks.zip ps).map (·.2) = ps := fun ks ps h => by
  rw [List.map_snd_zip]
  omega
end
end Pm
namespace Pm
open PySem PySem.Spec PyProof.Rows L2
def okK : Key → Bool
  | .inl i => decide (i.natAbs.log2 < 200)
  | .inr x => x.cps.toList.all fun c => decide (c < 128)
def wtK : List Key → Nat
  | [] => 0
  | .inl _ :: r => 1 + wtK r
  | .inr x :: r => x.cps.size + 1 + wtK r
mutual
def okD (B : Nat) : D → Bool
  | .non => true
  | .bl _ => true
  | .int i => decide (i.natAbs ≤ B)
  | .str x => x.cps.toList.all fun c => decide (c < 128)
  | .op _ => false
  | .node _ .lst xs => okL B xs
  | .node _ .tup xs => okL B xs
  | .node _ (.dct ks) xs => decide (ks.length = xs.length) && (ks.all okK && okL B xs)
  | .node _ _ _ => false
def okL (B : Nat) : List D → Bool
  | [] => true
  | d :: ds => okD B d && okL B ds
end
mutual
def wtD : D → Nat
  | .str x => x.cps.size
  | .node _ (.dct ks) xs => wtK ks + wtL xs
  | .node _ _ xs => wtL xs
  | _ => 0
def wtL : List D → Nat
  | [] => 0
  | d :: ds => wtD d + 1 + wtL ds
end
theorem okL_all {B : Nat} : ∀ {xs : List D}, okL B xs = true ↔ ∀ x ∈ xs, okD B x = true
  | [] => by simp [okL]
  | x :: xs => by rw [okL, Bool.and_eq_true, okL_all]; simp
theorem wtL_mem {x : D} : ∀ {xs : List D}, x ∈ xs → wtD x + 1 ≤ wtL xs
  | y :: ys, h => by
    rw [wtL]
    rcases List.mem_cons.mp h with h | h
    · subst h; omega
    · have := wtL_mem h; omega
theorem wtL_len : ∀ (xs : List D), xs.length ≤ wtL xs
  | [] => Nat.zero_le _
  | x :: xs => by rw [wtL, List.length_cons]; have := wtL_len xs; omega
theorem ok_ty {B : Nat} {d : D} (h : okD B d = true) : (tyN d).isSome = true := by
  cases d with
  | node o k xs => cases k <;> first | rfl | simp [okD] at h
  | op v => simp [okD] at h
  | _ => rfl
end Pm
set_option maxHeartbeats 1000000
namespace Pg
open PySem PySem.Spec PyProof.Rows L2 Pm
noncomputable def b_is_number : M Fl := (rtn (callF x_is_between (aCons (loc 0) (aCons (Pm.un opNeg (con (.int 1000000000000))) (aCons (con (.int 1000000000000)) aNil)))))
noncomputable def x_is_number : FSem := mkF 1 1 [] b_is_number
/-- things at which nothing stops -/
structure Fi (B : Nat) (d : D) : Prop where
  ok : okD B d = true
  wt : wtD d ≤ 4000
theorem Fi.ty {B : Nat} {d : D} (h : Fi B d) : (tyN d).isSome = true := ok_ty h.ok
theorem Fi.str {B : Nat} {s : Str} (h : Fi B (.str s)) : s.length ≤ 1000000 := by
  have := h.wt
  rw [wtD] at this
  show s.cps.size ≤ 1000000
  omega
theorem Fi.len {B : Nat} {o : Bool} {k : Kd} {xs : List D} (h : Fi B (.node o k xs)) : xs.length ≤ 4000 := by
  have h1 := h.wt
  have h2 := wtL_len xs
  cases k <;> rw [wtD] at h1 <;> first | omega | simp
theorem Fi.tup {B : Nat} {o : Bool} {xs : List D} (h : Fi B (.node o .tup xs)) : ∀ x ∈ xs, Fi B x := fun x hx => by
  have h1 := h.ok
  have h2 := h.wt
  rw [okD] at h1
  rw [wtD] at h2
  · have := wtL_mem hx
    exact ⟨okL_all.mp h1 x hx, by omega⟩
  · simp
theorem Fi.lst {B : Nat} {o : Bool} {xs : List D} (h : Fi B (.node o .lst xs)) : ∀ x ∈ xs, Fi B x := fun x hx => by
  have h1 := h.ok
  have h2 := h.wt
  rw [okD] at h1
  rw [wtD] at h2
  · have := wtL_mem hx
    exact ⟨okL_all.mp h1 x hx, by omega⟩
  · simp
def btwB (a b : Int) : D → Bool
  | .int n => decide (a ≤ n) && decide (n ≤ b)
  | _ => false
abbrev numB : D → Bool := btwB (-1000000000000) 1000000000000
theorem integer_ok {B : Nat} {d : D} (hp : d.plain = true) (h : Fi B d) : x_is_integer [d] = .ret (.bl (isWhl d && !isBl d)) [d] := by
  have t1 := isi_int h.ty
  have t2 := isi_bl h.ty
  cases d with
  | node o k xs =>
    have ts : isWhl (.node o k xs) = false := rfl
    have tb : isBl (.node o k xs) = false := rfl
    rw [ts] at t1
    rw [ts, tb]
    unfold x_is_integer b_is_integer
    generalize D.node o k xs = NX at *
    simp [mkF, reFrz, seq, Pm.ite, rtn, mov, asg, drp, sNx, bnd, Pm.bin, Pm.un, app, aCons, aNil, idx, loc, con, Pm.ret, peek1, peeks, itemOf, on2I, iAdd, iSub, iGt, iGe, iLt, iLe, iDiv, iMod, use1, useL, gI, gN, tst, andT, orT, notT, andE, orE, notE, ifE, ixN, D.frz, D.plain, plainL, argsBack, opLen, opAbs, opInt1, opNeg, disp, cap, callF, takes, puts, selA, sel, aApp, par, gT, gsC, gs0, appF, opDivmod, frzL, plainL, t1, hp]
  | _ => simp [x_is_integer, b_is_integer, mkF, reFrz, seq, Pm.ite, rtn, mov, asg, drp, sNx, bnd, Pm.bin, Pm.un, app, aCons, aNil, idx, loc, con, Pm.ret, peek1, peeks, itemOf, on2I, iAdd, iSub, iGt, iGe, iLt, iLe, iDiv, iMod, use1, useL, gI, gN, tst, andT, orT, notT, andE, orE, notE, ifE, ixN, D.frz, D.plain, plainL, argsBack, opLen, opAbs, opInt1, opNeg, disp, cap, callF, takes, puts, selA, sel, aApp, par, gT, gsC, gs0, appF, opDivmod, frzL, plainL, t1, t2, isWhl, isBl]
theorem between_ok {B : Nat} {d : D} (a b : Int) (hp : d.plain = true) (h : Fi B d) : x_is_between [d, .int a, .int b] = .ret (.bl (btwB a b d)) [d, .int a, .int b] := by
  have t1 := integer_ok hp h
  unfold x_is_between b_is_between
  generalize x_is_integer = XI at *
  cases d with
  | node o k xs =>
    have ts : (isWhl (.node o k xs) && !isBl (.node o k xs)) = false := rfl
    have tb : btwB a b (.node o k xs) = false := rfl
    rw [ts] at t1
    rw [tb]
    generalize D.node o k xs = NX at *
    simp [mkF, reFrz, seq, Pm.ite, rtn, mov, asg, drp, sNx, bnd, Pm.bin, Pm.un, app, aCons, aNil, idx, loc, con, Pm.ret, peek1, peeks, itemOf, on2I, iAdd, iSub, iGt, iGe, iLt, iLe, iDiv, iMod, use1, useL, gI, gN, tst, andT, orT, notT, andE, orE, notE, ifE, ixN, D.frz, D.plain, plainL, argsBack, opLen, opAbs, opInt1, opNeg, disp, cap, callF, takes, puts, selA, sel, aApp, par, gT, gsC, gs0, appF, opDivmod, frzL, plainL, t1, hp]
  | int n =>
    by_cases h : a ≤ n
    · simp [mkF, reFrz, seq, Pm.ite, rtn, mov, asg, drp, sNx, bnd, Pm.bin, Pm.un, app, aCons, aNil, idx, loc, con, Pm.ret, peek1, peeks, itemOf, on2I, iAdd, iSub, iGt, iGe, iLt, iLe, iDiv, iMod, use1, useL, gI, gN, tst, andT, orT, notT, andE, orE, notE, ifE, ixN, D.frz, D.plain, plainL, argsBack, opLen, opAbs, opInt1, opNeg, disp, cap, callF, takes, puts, selA, sel, aApp, par, gT, gsC, gs0, appF, opDivmod, frzL, plainL, t1, isWhl, isBl, btwB, chI, cLe, h]
    · simp [mkF, reFrz, seq, Pm.ite, rtn, mov, asg, drp, sNx, bnd, Pm.bin, Pm.un, app, aCons, aNil, idx, loc, con, Pm.ret, peek1, peeks, itemOf, on2I, iAdd, iSub, iGt, iGe, iLt, iLe, iDiv, iMod, use1, useL, gI, gN, tst, andT, orT, notT, andE, orE, notE, ifE, ixN, D.frz, D.plain, plainL, argsBack, opLen, opAbs, opInt1, opNeg, disp, cap, callF, takes, puts, selA, sel, aApp, par, gT, gsC, gs0, appF, opDivmod, frzL, plainL, t1, isWhl, isBl, btwB, chI, cLe, h]
  | _ => simp [mkF, reFrz, seq, Pm.ite, rtn, mov, asg, drp, sNx, bnd, Pm.bin, Pm.un, app, aCons, aNil, idx, loc, con, Pm.ret, peek1, peeks, itemOf, on2I, iAdd, iSub, iGt, iGe, iLt, iLe, iDiv, iMod, use1, useL, gI, gN, tst, andT, orT, notT, andE, orE, notE, ifE, ixN, D.frz, D.plain, plainL, argsBack, opLen, opAbs, opInt1, opNeg, disp, cap, callF, takes, puts, selA, sel, aApp, par, gT, gsC, gs0, appF, opDivmod, frzL, plainL, t1, isWhl, isBl, btwB]
theorem number_ok {B : Nat} {d : D} (hp : d.plain = true) (h : Fi B d) : x_is_number [d] = .ret (.bl (numB d)) [d] := by
  have t1 := between_ok (-1000000000000) 1000000000000 hp h
  unfold x_is_number b_is_number
  generalize x_is_between = XB at *
  simp [mkF, reFrz, seq, Pm.ite, rtn, mov, asg, drp, sNx, bnd, Pm.bin, Pm.un, app, aCons, aNil, idx, loc, con, Pm.ret, peek1, peeks, itemOf, on2I, iAdd, iSub, iGt, iGe, iLt, iLe, iDiv, iMod, use1, useL, gI, gN, tst, andT, orT, notT, andE, orE, notE, ifE, ixN, D.frz, D.plain, plainL, argsBack, opLen, opAbs, opInt1, opNeg, disp, cap, callF, takes, puts, selA, sel, aApp, par, gT, gsC, gs0, appF, opDivmod, frzL, plainL, t1, hp]
end Pg
set_option maxHeartbeats 1000000
namespace Pm
open PySem PySem.Spec PyProof.Rows L2
end Pm
namespace Pm
open PySem PySem.Spec PyProof.Rows L2
end Pm
set_option maxHeartbeats 2000000
namespace Pm
open PySem PySem.Spec PyProof.Rows L2
/-- an own class of exceptions as the module knows it -/
structure NCls (K : PySem.W.Frag) (mg : Str → Option Value) (n : Str) (C : Addr) : Prop where
  mgC : mg n = some (.ref C)
  rg : reg K n = some C
  xk : XK K C
  ty : PySem.W.typeIn K (.ref C) = some (.type "type")
/-- .. that is made with one field -/
structure ECls (P : Program) (w : World) (K : PySem.W.Frag) (mg : Str → Option Value) (base : Heap) (n f : Str) (C : Addr) : Prop where
  nc : NCls K mg n C
  ini : ∃ (fI : Addr) (fd : FuncData) (pn : Str), XC K C fI f ∧ FnOk P w K mg base CX0 1 fI fd ["self", pn] (spI K f) ∧ Binds K fd ["self", pn] []
section
variable {K : PySem.W.Frag} {mg : Str → Option Value} {W : WX} {X : Cx}
theorem S_raiseE {A : Nat → Bool} {k : Nat} {e : Expr} {fe : M EV} {n f : Str} {C : Addr} {p pos pos2 : Pos} (E : ECls X.prog X.w X.K X.mg X.base n f C) (ft : Fit X W k) (hk : 2 ≤ k) (ha : PA X [e] (tA X.K X.mg W (aCons fe aNil))) (hc : X.calm = true := by rfl) (hg : Gl X n := by rfl)
    (hdb : (n == ("__debug__" : Str)) = false := by decide) (he : starEach [e] X.env = (false, eval e X.env) :: starEach [] X.env := by rfl) (hpl : (backTo pos (starEach [] X.env)).any (·.1) = false := by rfl) :
    PS X (.Raise (some (.Call (.Name n p) [e] [] pos)) none pos2) (tS X.K X.mg W A (raise1 n f fe)) := by
  obtain ⟨fI, fd, pn, T, F1, hb⟩ := E.ini
  exact S_raise1 (k := 1) hc ft.tk T F1 (ft.room.mono hk) hb E.nc.mgC E.nc.rg ha hg hdb he hpl
end
def clsB : Stmt → List Stmt
  | .ClassDef _ _ _ b _ _ _ _ _ _ _ => b
  | _ => []
end Pm
set_option maxHeartbeats 2000000
namespace Pm
open PySem PySem.Spec PyProof.Rows L2
end Pm
set_option maxHeartbeats 2000000
namespace Pm
open PySem PySem.Spec PyProof.Rows L2
/-- an instance of the class n, the name m no field of it -/
def chk (n m : Str) (fe : M EV) : M EV := bnd fe fun e => fun ρ => match peek1 ρ e with
  | some (.node _ (.ins n' fs) _) => if n' = n ∧ m ∉ fs then .ok e ρ else .stuck
  | _ => .stuck
/-- a field that is plain -/
def fldE (n f : Str) (fe : M EV) : M EV := bnd fe fun e => fun ρ => match peek1 ρ e with
  | some (.node _ (.ins n' fs) xs) => if n' = n then (match (fs.zip xs).lookup f with
    | some d => if d.plain = true then .ok (.val d) ρ else .stuck
    | none => .stuck) else .stuck
  | _ => .stuck
def putN (f : Str) : List Str → List Str
  | [] => [f]
  | g :: r => if g = f then g :: r else g :: putN f r
def putX {α : Type} (f : Str) (d : α) : List Str → List α → List α
  | g :: r, x :: xs => if g = f then d :: xs else x :: putX f d r xs
  | _, _ => [d]
/-- the instance of the slot i gets a field -/
def setA (i : Nat) (n f : Str) (fe : M EV) : M Fl := bnd fe fun e => bnd (use1 e) fun d => fun ρ => match ρ.getD i none with
  | some (.node true (.ins n' fs) xs) => if n' = n ∧ fs.length < 900 ∧ fs.length = xs.length then .ok .nx (ρ.set i (some (.node true (.ins n (putN f fs)) (putX f d fs xs)))) else .stuck
  | _ => .stuck
section
variable {K : PySem.W.Frag} {mg : Str → Option Value} {W : WX} {Z H : Hp} {S : Fp} {σ : Sl} {X : Cx} {A : Nat → Bool}
theorem put_zip {f : Str} {v : V} : ∀ {fs : List Str} {ys : List V}, fs.length = ys.length → (putN f fs).zip (putX f v fs ys) = putF f v (fs.zip ys)
  | [], [], _ => rfl
  | [], _ :: _, h => by simp at h
  | _ :: _, [], h => by simp at h
  | g :: r, y :: ys, h => by
    unfold putN putX
    rw [List.zip_cons_cons]
    unfold putF
    by_cases e : g = f
    · rw [if_pos e, if_pos e, if_pos e, List.zip_cons_cons]
    · rw [if_neg e, if_neg e, if_neg e, List.zip_cons_cons, put_zip (by simpa using h)]
theorem put_len {α : Type} {f : Str} {d : α} : ∀ {fs : List Str} {xs : List α}, fs.length = xs.length → (putN f fs).length = (putX f d fs xs).length
  | [], [], _ => rfl
  | [], _ :: _, h => by simp at h
  | _ :: _, [], h => by simp at h
  | g :: r, y :: ys, h => by
    unfold putN putX
    by_cases e : g = f
    · rw [if_pos e, if_pos e]; exact h
    · rw [if_neg e, if_neg e, List.length_cons, List.length_cons, put_len (by simpa using h)]
theorem look_no {f : Str} {α : Type} : ∀ {fs : List Str} {ys : List α}, f ∉ fs → (fs.zip ys).lookup f = none
  | [], _, _ => rfl
  | _ :: _, [], _ => rfl
  | g :: r, y :: ys, h => by
    have h1 : f ≠ g := fun e => h (e ▸ List.mem_cons_self)
    rw [List.zip_cons_cons, List.lookup_cons, beq_eq_false_iff_ne.mpr h1]
    exact look_no fun q => h (List.mem_cons_of_mem _ q)
/-- a field put among the fields -/
theorem RepL.putX {f : Str} {d : D} {v : V} {T : Fp} (rv : Rep K Z H d v T) : ∀ {fs : List Str} {xs : List D} {ys : List V} {S1 : Fp}, fs.length = xs.length → RepL K Z H xs ys S1 → (∀ a, S1 a → T a → False) → RepL K Z H (Pm.putX f d fs xs) (Pm.putX f v fs ys) (fun a => S1 a ∨ T a)
  | [], [], [], S1, _, _, _ => ⟨T, Fp0, fun _ x => .inr x, fun _ x => x.elim, fun _ _ x => x, rv, trivial⟩
  | [], [], _ :: _, _, _, r, _ => r.elim
  | [], _ :: _, _, _, h, _, _ => by simp at h
  | _ :: _, [], _, _, h, _, _ => by simp at h
  | _ :: _, _ :: _, [], _, _, r, _ => r.elim
  | g :: r, x :: xs, y :: ys, S1, h, ⟨U1, U2, u1, u2, uj, rx, rl⟩, dj => by
    unfold Pm.putX
    by_cases e : g = f
    · rw [if_pos e, if_pos e]
      exact ⟨T, U2, fun _ x => .inr x, fun a x => .inl (u2 a x), fun a x y => dj a (u2 a y) x, rv, rl⟩
    · rw [if_neg e, if_neg e]
      refine ⟨U1, fun a => U2 a ∨ T a, fun a x => .inl (u1 a x), fun a x => x.elim (fun y => .inl (u2 a y)) .inr, fun a x y => y.elim (fun z => uj a x z) fun z => dj a (u1 a x) z, rx, ?_⟩
      exact RepL.putX rv (by simpa using h) rl fun a x y => dj a (u2 a x) y
/-- what stands where an instance is read -/
theorem ins_at {b : Bool} {n : Str} {fs : List Str} {xs : List D} {v : V} {S0 : Fp} (w : Sam Z H) (r : Rep K Z H (.node b (.ins n fs) xs) v S0) : ∃ (a C dx : Addr) (ys : List V) (S1 : Fp), v = .ref a ∧ reg K n = some C ∧ fs.length = ys.length ∧ H a = some (.ins C dx (fs.zip ys)) ∧ RepL K Z H xs ys S1 := by
  cases b with
  | false =>
    obtain ⟨a, ys, rfl, ⟨C, dx, h1, h2, h3⟩, rl⟩ := r
    exact ⟨a, C, dx, ys, S0, rfl, h1, h2, w.get _ _ h3 nt_ins, rl⟩
  | true =>
    obtain ⟨a, ys, S', rfl, ⟨C, dx, h1, h2, h3⟩, sa, na, sub, rl⟩ := r
    exact ⟨a, C, dx, ys, S', rfl, h1, h2, h3, rl⟩
theorem tE_chk {n m : Str} {fe : M EV} {Q : VK} (h : tE K mg W (chk n m fe) σ H Q) : tE K mg W fe σ H fun v H1 => (∃ (a C dx : Addr) (kvs : List (Str × V)), v = .ref a ∧ reg K n = some C ∧ H1 a = some (.ins C dx kvs) ∧ kvs.lookup m = none) ∧ Q v H1 := by
  obtain ⟨Z, ρ, S, w, er, o⟩ := h
  refine ⟨Z, ρ, S, w, er, ?_⟩
  simp only [chk, bnd] at o
  cases e1 : fe ρ with
  | stuck => rw [e1] at o; exact o
  | exc x ρ1 => rw [e1] at o; exact o
  | ok ev ρ1 =>
    simp only [e1] at o
    intro v Z' H' S' Sd st dj er' evr
    cases hp : peek1 ρ1 ev with
    | none => simp only [hp] at o; exact o.elim
    | some d =>
      simp only [hp] at o
      split at o
      · rename_i d b n' fs xs hd
        cases hd
        by_cases hn : n' = n ∧ m ∉ fs
        · rw [if_pos hn] at o
          obtain ⟨rfl, hm⟩ := hn
          obtain ⟨S0, rd⟩ := peek_rep er' evr hp
          obtain ⟨a, C, dx, ys, S1, rfl, h1, h2, h3, _⟩ := ins_at st.wd.same rd
          exact ⟨⟨a, C, dx, _, rfl, h1, h3, look_no hm⟩, o _ Z' H' S' Sd st dj er' evr⟩
        · rw [if_neg hn] at o; exact o.elim
      · exact o.elim
theorem E_fld {n f : Str} {C : Addr} {fe : M EV} {e : Expr} {pos : Pos} (hC : reg X.K n = some C) (hc : Cls X.K C) (hn : NoAttr X.K C f) (he : PE X e (tE X.K X.mg W fe)) (hb : attributeBase e f X.env (eval e X.env) = eval e X.env := by rfl) :
    PE X (.Attribute e f pos) (tE X.K X.mg W (fldE n f fe)) :=
  PE.of (pe_fld he hb) fun σ H Q h => by
    obtain ⟨Z, ρ, S, w, er, o⟩ := h
    refine ⟨Z, ρ, S, w, er, ?_⟩
    simp only [fldE, bnd] at o
    cases e1 : fe ρ with
    | stuck => rw [e1] at o; exact o.elim
    | exc x ρ1 => rw [e1] at o; exact o
    | ok ev ρ1 =>
      simp only [e1] at o
      intro v Z' H' S' Sd st dj er' evr
      cases hp : peek1 ρ1 ev with
      | none => simp only [hp] at o; exact o.elim
      | some d =>
        simp only [hp] at o
        split at o
        · rename_i d b n' fs xs hd
          cases hd
          by_cases hn' : n' = n
          · rw [if_pos hn'] at o
            subst hn'
            split at o
            · rename_i dat hdat
              by_cases hpl : dat.plain = true
              · rw [if_pos hpl] at o
                obtain ⟨S0, rd⟩ := peek_rep er' evr hp
                obtain ⟨a, C', dx, ys, S1, rfl, h1, h2, h3, rl⟩ := ins_at st.wd.same rd
                rw [hC] at h1
                cases h1
                obtain ⟨y, S2, ly, ry⟩ := look_rep rl hdat
                have wd' : Wd Z' H' S' := st.wd.less fun a q => .inl q
                refine ⟨a, C, dx, fs.zip ys, y, rfl, h3, hc, hn, ly, ?_⟩
                exact o y Z' H' S' Fp0 (st.less fun a q => q.elim .inl fun z => z.elim) (fun _ _ z => z.elim) er' (Rep.plain ry hpl)
              · rw [if_neg hpl] at o
                exact o.elim
            · exact o.elim
          · rw [if_neg hn'] at o
            exact o.elim
        · exact o.elim
theorem set_fld {j : Nat} {n f : Str} {fs : List Str} {xs : List D} {ρ : Env} {d : D} {v : V} {T : Fp} (w : Wd Z H (fun a => S a ∨ T a)) (dj : ∀ a, S a → T a → False) (er : EnvR K Z H ρ σ S) (e : ρ.getD j none = some (.node true (.ins n fs) xs)) (hl : fs.length = xs.length) (rv : Rep K Z H d v T) :
    ∃ (p C dx : Addr) (ys : List V), σ[j]? = some (some (.ref p)) ∧ reg K n = some C ∧ H p = some (.ins C dx (fs.zip ys)) ∧ fs.length = ys.length ∧ ∃ S', (∀ a, S' a → S a ∨ T a) ∧ S p ∧ EnvR K Z (upd H p (.ins C dx (putF f v (fs.zip ys)))) (ρ.set j (some (.node true (.ins n (putN f fs)) (putX f d fs xs)))) σ S' := by
  obtain ⟨u, U1, U2, hv, u1, u2, uj, ru, eu⟩ := er.take (getD_some e)
  obtain ⟨p, ys, U', rfl, ⟨C, dx, c1, c2, c3⟩, sa, na, sub, rl⟩ := ru
  obtain ⟨hj, ej⟩ := List.getElem?_eq_some_iff.mp hv
  have es : σ.set j (some (.ref p)) = σ := by rw [← ej, List.set_getElem_self]
  have hl' : j < ρ.length := by rw [er.length]; exact hj
  have keep : ∀ {B : Fp}, (∀ a, B a → a = p → False) → ∀ a o, B a → H a = some o → upd H p (.ins C dx (putF f v (fs.zip ys))) a = some o := fun {B} n a o b q => by rw [upd_ne fun z => n a b z]; exact q
  have nT : ∀ a, T a → a = p → False := fun a x y => dj p (u1 p sa) (by rw [← y]; exact x)
  have rv' : Rep K Z (upd H p (.ins C dx (putF f v (fs.zip ys)))) d v T := rv.move (Same.refl Z) (keep nT) fun _ x => x
  have pl : RepL K Z (upd H p (.ins C dx (putF f v (fs.zip ys)))) (putX f d fs xs) (putX f v fs ys) (fun a => U' a ∨ T a) := RepL.putX rv' hl (rl.move (Same.refl Z) (keep fun a x y => na (by rw [← y]; exact x)) fun _ x => x) fun a x y => dj a (u1 a (sub a x)) y
  have rn : Rep K Z (upd H p (.ins C dx (putF f v (fs.zip ys)))) (.node true (.ins n (putN f fs)) (putX f d fs xs)) (.ref p) (fun a => a = p ∨ (U' a ∨ T a)) := ⟨p, putX f v fs ys, _, rfl, ⟨C, dx, c1, put_len c2, by rw [put_zip c2]; exact upd_same⟩, .inl rfl, fun x => x.elim na fun z => nT p z rfl, fun _ x => .inr x, pl⟩
  have q := EnvR.put (S := fun a => (a = p ∨ (U' a ∨ T a)) ∨ U2 a) (eu.move (Same.refl Z) (keep fun a x y => uj p sa (by rw [← y]; exact x)) fun _ x => x) hl' rn (fun _ x => .inl x) (fun _ x => .inr x) fun a x y => by
    rcases x with x | x | x
    · exact uj p sa (by rw [← x]; exact y)
    · exact uj a (sub a x) y
    · exact dj a (u2 a y) x
  rw [es] at q
  refine ⟨p, C, dx, ys, hv, c1, c3, c2, _, fun a x => ?_, u1 p sa, q⟩
  rcases x with (x | x | x) | x
  · exact .inl (by rw [x]; exact u1 p sa)
  · exact .inl (u1 a (sub a x))
  · exact .inr x
  · exact .inl (u2 a x)
theorem tS_setA {j : Nat} {n f : Str} {C : Addr} {fe : M EV} {D : Ends} (hC : reg K n = some C) (hc : Cls K C) (hn : NoAttr K C f) (h : tS K mg W A (setA j n f fe) D σ H) : sFld K (tVar j) (tE K mg W fe) f D σ H := by
  obtain ⟨Z, ρ, S, w, er, o⟩ := h
  refine ⟨Z, ρ, S, w, er, ?_⟩
  simp only [setA, bnd] at o
  cases e1 : fe ρ with
  | stuck => rw [e1] at o; exact o
  | exc x ρ1 => rw [e1] at o; exact o σ (Keep.refl σ)
  | ok ev ρ1 =>
    simp only [e1] at o
    intro v Z1 H1 S1 Sa st1 dj1 er1 r1
    cases e2 : use1 ev ρ1 with
    | stuck => rw [e2] at o; exact o.elim
    | exc x ρ2 => exact absurd e2 use1_noexc
    | ok d ρ2 =>
      simp only [e2] at o
      have w1 : Wd Z1 H1 (fun a => (S1 a ∨ Sa a) ∨ Fp0 a) := st1.wd.less fun a x => x.elim id False.elim
      obtain ⟨Z2, S2, st2, m2, er2, r2⟩ := use1_ok w1 dj1 (fun _ _ x => x) er1 r1 e2
      have st2' : Step Z1 H1 (fun a => S1 a ∨ Sa a) Z2 H1 (fun a => S2 a ∨ Sa a) := ⟨st2.wd.less fun a x => .inl x, st2.zz, fun a o n e _ => e, fun a x => .inl (x.elim (fun y => .inl (m2 a y)) .inr), fun a o e => (st2.znew a o e).elim .inl fun y => .inr (y.elim (fun z => z.elim .inl False.elim) .inr)⟩
      split at o
      · rename_i n' fs xs h1
        split at o
        · rename_i hz
          obtain ⟨rfl, hz2, hz3⟩ := hz
          obtain ⟨p, C', dx, ys, hv2, c1, hp, hl, S', m', sp, er'⟩ := set_fld (f := f) st2'.wd (fun a x y => dj1 a (m2 a x) y) er2 h1 hz3 r2
          rw [hC] at c1
          cases c1
          refine ⟨.ref p, hv2, p, C, dx, _, rfl, hp, hc, hn, ?_, ?_⟩
          · rw [List.length_zip]; omega
          · exact o σ .non _ _ S' Fp0 (Keep.refl σ) ((((st1.trans st2').trans (Step.write st2'.wd (.inl sp))).less m').less fun a x => x.elim id False.elim) (fun _ _ x => x) er' trivial
        · exact o.elim
      · exact o.elim
theorem S_setA {j : Nat} {n f x : Str} {C : Addr} {fe : M EV} {e : Expr} {p2 pos' pos : Pos} (hC : reg X.K n = some C) (hc : Cls X.K C) (hn : NoAttr X.K C f) (he : PE X e (tE X.K X.mg W fe)) (hj : X.N[j]? = some x := by rfl) (hv : Vis X.env.scope x := by first | exact Or.inl rfl | exact Or.inr (Or.inl rfl) | exact Or.inr (Or.inr rfl)) (hd : (x == ("__debug__" : Str)) = false := by decide) (hcd : (x == ("__classdict__" : Str)) = false := by decide)
    (hs : swapsWith e (some (.Attribute (.Name x p2) f pos')) pos.line X.env = pure false := by rfl) : PS X (.Assign [.Attribute (.Name x p2) f pos'] e pos) (tS X.K X.mg W A (setA j n f fe)) :=
  PS.of (ps_fld (pe_var hj hv hd hcd) he hs) fun D σ H q => tS_setA hC hc hn q
end
end Pm
set_option maxHeartbeats 2000000
namespace Pm
open PySem PySem.Spec PyProof.Rows L2
/-- C(..): a new instance, told by its __init__ -/
def makeC (n : Str) (g : FSem) (fs : M (List EV)) : M EV := bnd fs fun es => fun ρ => match takes ρ es with
  | none => .stuck
  | some (ds, ρ1) => match g (.node true (.ins n []) [] :: ds) with
    | .stuck => .stuck
    | .ret .non (d :: as) => .ok (.val d) (puts es ds as ρ1)
    | .ret _ _ => .stuck
    | .exc x (_ :: as) => .exc x (puts es ds as ρ1)
    | .exc _ [] => .stuck
section
variable {K : PySem.W.Frag} {mg : Str → Option Value} {W : WX} {Z H : Hp} {S : Fp} {σ : Sl} {X : Cx} {A : Nat → Bool}
/-- a method as its class knows it -/
structure MDef (P : Program) (w : World) (K : PySem.W.Frag) (mg : Str → Option Value) (base : Heap) (k : Nat) (C : Addr) (m : Str) (f : Addr) (fd : FuncData) (ps : List Str) (g : FSem) : Prop where
  ok : FnG P w K mg base k f fd ps g
  me : Meth K C m f
  bd : Binds K fd ps []
/-- a class's __init__ -/
structure IDef (P : Program) (w : World) (K : PySem.W.Frag) (mg : Str → Option Value) (base : Heap) (k : Nat) (n : Str) (C f : Addr) (fd : FuncData) (ps : List Str) (g : FSem) : Prop where
  ok : FnG P w K mg base k f fd ps g
  mkd : Mk K C f
  mg : mg n = some (.ref C)
  bd : Binds K fd ps []
theorem E_meth {k j : Nat} {n m : Str} {C f : Addr} {fd : FuncData} {ps : List Str} {g : FSem} {o e : Expr} {es : List Expr} {fo : M EV} {fs : M (List EV)} {apos pos : Pos} {pl : Sem Bool} (hC : reg X.K n = some C) (c : Cls X.K C) (F : MDef X.prog X.w X.K X.mg X.base k C m f fd ps g) (ft : Fit X W j) (ho : PE X o (tE X.K X.mg W fo)) (ha : PA X (e :: es) (tA X.K X.mg W fs)) (hk : k ≤ j := by first | decide | omega)
    (hst : starEach (e :: es) X.env = (false, eval e X.env) :: starEach es X.env := by rfl) (hpl : (backTo pos (starEach es X.env)).any (·.1) = false := by rfl)
    (ht : eval (.Call (.Attribute o m apos) (e :: es) [] pos) X.env = (do
      let ov ← eval o X.env
      standAt apos.atName
      let (f, first) ← holding [ov] (getMethod ov m pl)
      callWith pos f first (backTo pos (starEach (e :: es) X.env)) (backToKw pos (keywordEach [] X.env))) := by rfl) :
    PE X (.Call (.Attribute o m apos) (e :: es) [] pos) (tE X.K X.mg W (callF g (aCons (chk n m fo) fs))) := by
  refine ⟨fun pins s σ H Q I h => ?_⟩
  have q0 := tE_chk (tA_cons (tE_call h))
  refine PySem.W.methodCall_KW (pl := pl) (thn (ho.run pins s σ H _ I q0) fun u s1 ⟨x, H1, I1, rx, ⟨a, C', dx, kvs, ex, hr, ea, l⟩, q⟩ => ?_) ht
  subst ex
  rw [hC] at hr
  cases hr
  obtain rfl : u = Value.ref a := rx
  refine getmeth_ok I1 ea c F.me l ?_
  refine PySem.W.callWith_K (first := [.ref a]) (h₀ := X.base) I.ok.mod.kin F.me.kp (thn (ha.run pos pins s1 σ H1 _ I1 q) fun us s2 ⟨vs, H2, I2, r, q2⟩ => ⟨I2.kIn, ?_⟩) hst hpl
  refine wpAny_call (codeAny_mono (run_G (us := .ref a :: us) (ws := .ref a :: us) (vs := V.ref a :: vs) (kws := []) F.ok ft.gd (ft.room.mono hk) ft.tk (fun hl => by have b := F.bd s2 (.ref a :: us) I2.kIn (by rw [List.append_nil]; exact hl); rw [List.append_nil] at b; exact b) I2 (.cons rfl r) q2) fun r s' hq => ?_)
  cases r with
  | error e => exact hq
  | ok fl =>
    cases fl with
    | ret u => exact hq
    | next => exact hq.elim
    | brk => exact hq.elim
    | cont => exact hq.elim
theorem tE_make {n : Str} {C : Addr} {g : FSem} {fs : M (List EV)} {Q : VK} (hC : reg K n = some C) (h : tE K mg W (makeC n g fs) σ H Q) : tA K mg W fs σ H fun vs H1 => ∀ x dx, H1 x = none → H1 dx = none → dx ≠ x →
    spG K mg g (.ref x :: vs) (upd (upd H1 dx (.own x)) x (.ins C dx [])) (fun v H2 => v = .non ∧ Q (.ref x) H2) (fun cls d H => W cls d σ H) := by
  obtain ⟨Z, ρ, S, w, er, o⟩ := h
  refine ⟨Z, ρ, S, w, er, ?_⟩
  simp only [makeC, bnd] at o
  cases e1 : fs ρ with
  | stuck => rw [e1] at o; exact o
  | exc x ρ1 => rw [e1] at o; exact o
  | ok es ρ1 =>
    simp only [e1] at o
    intro vs Z1 H1 S1 Sa st1 dj1 er1 r1 x dx hx hdx ne
    cases e2 : takes ρ1 es with
    | none => simp only [e2] at o; exact o.elim
    | some p =>
      obtain ⟨ds, ρ2⟩ := p
      simp only [e2] at o
      obtain ⟨S2, T, m1, m2, tj, er2, rl⟩ := takes_ok er1 r1 dj1 e2
      have w2 : Wd Z1 H1 (fun a => T a ∨ S2 a) := st1.wd.less fun a x => x.elim (m2 a) fun y => .inl (m1 a y)
      have st1' : Step Z H S Z1 H1 (fun a => T a ∨ S2 a) := st1.less fun a x => x.elim (m2 a) fun y => .inl (m1 a y)
      have hx2 : upd H1 dx (.own x) x = none := by rw [upd_ne (Ne.symm ne)]; exact hx
      have sA := (Step.alloc (o := .own x) w2 hdx).less (S2 := fun a => T a ∨ S2 a) fun a q => .inl q
      have sB := (Step.alloc (o := .ins C dx []) sA.wd hx2)
      have stN : Step Z1 H1 (fun a => T a ∨ S2 a) Z1 (upd (upd H1 dx (.own x)) x (.ins C dx [])) (fun a => (a = x ∨ T a) ∨ S2 a) := (sA.trans sB).less fun a q => q.elim (fun q => q.elim .inr fun y => .inl (.inl y)) fun y => .inl (.inr y)
      have nT : ∀ a, T a → a ≠ x := fun a q e => w2.dom a (.inl q) (by rw [e]; exact hx)
      have nS : ∀ a, S2 a → a ≠ x := fun a q e => w2.dom a (.inr q) (by rw [e]; exact hx)
      have kp : ∀ a o, H1 a = some o → upd (upd H1 dx (.own x)) x (.ins C dx []) a = some o := fun a o e => by
        rw [upd_ne (ne_of_none e hx), upd_ne (ne_of_none e hdx)]; exact e
      have rl2 : RepL K Z1 (upd (upd H1 dx (.own x)) x (.ins C dx [])) (.node true (.ins n []) [] :: ds) (.ref x :: vs) (fun a => a = x ∨ T a) :=
        ⟨fun a => a = x, T, fun _ q => .inl q, fun _ q => .inr q, fun a q y => nT a y q, ⟨x, [], Fp0, rfl, ⟨C, dx, hC, rfl, upd_same⟩, rfl, fun q => q, fun _ q => q.elim, trivial⟩, rl.move (Same.refl Z1) (fun a o _ e => kp a o e) fun _ q => q⟩
      have w3 : Wd Z1 (upd (upd H1 dx (.own x)) x (.ins C dx [])) (fun a => (a = x ∨ T a) ∨ S2 a) := stN.wd
      have dj3 : ∀ a, (a = x ∨ T a) → S2 a → False := fun a q y => q.elim (fun e => nS a y e) fun t => tj a y t
      have er2' : EnvR K Z1 (upd (upd H1 dx (.own x)) x (.ins C dx [])) ρ2 σ S2 := er2.move (Same.refl Z1) (fun a o _ e => kp a o e) fun _ q => q
      have st1N := st1'.trans stN
      refine ⟨Z1, fun a => a = x ∨ T a, .node true (.ins n []) [] :: ds, er2.marks, w3.less fun a x => .inl x, rl2, ?_⟩
      cases e3 : g (.node true (.ins n []) [] :: ds) with
      | stuck => simp only [e3] at o; exact o
      | ret d as =>
        cases d with
        | non =>
          cases as with
          | nil => simp only [e3] at o; exact o.elim
          | cons d0 as =>
            simp only [e3] at o
            intro v Z3 H3 S3 Sd st3 dj4 ra rd
            cases (show v = .non from rd)
            refine ⟨rfl, ?_⟩
            obtain ⟨T1, T2, t1, t2, tj2, ra1, ra2⟩ := ra
            have st3' := st3.frame w3 dj3
            have ap := st3.apart (fun a q => w3.live a (.inr q)) dj3
            have er3 : EnvR K Z3 H3 ρ2 σ S2 := st3.stayE dj3 er2'
            have er4 := puts_ok (ds := ds) er3 r1 ra2 fun a q y => ap a (.inl (t2 a y)) q
            exact o (.ref x) Z3 H3 (fun a => S2 a ∨ T2 a) T1 ((st1N.trans st3').less fun a q => q.elim (fun q => q.elim .inr fun z => .inl (.inl (t2 a z))) fun y => .inl (.inl (t1 a y))) (fun a q y => q.elim (fun z => ap a (.inl (t1 a y)) z) fun z => tj2 a y z) er4 ra1
        | _ => simp only [e3] at o; exact o.elim
      | exc xx as =>
        cases as with
        | nil => simp only [e3] at o; exact o.elim
        | cons d0 as =>
          simp only [e3] at o
          intro cls dd Z3 H3 S3 st3 ra xr
          obtain ⟨T1, T2, t1, t2, tj2, ra1, ra2⟩ := ra
          have st3' := st3.frame w3 dj3
          have ap := st3.apart (fun a q => w3.live a (.inr q)) dj3
          have er3 : EnvR K Z3 H3 ρ2 σ S2 := st3.stayE dj3 er2'
          have er4 := puts_ok (ds := ds) er3 r1 ra2 fun a q y => ap a (t2 a y) q
          exact o cls dd Z3 H3 (fun a => S2 a ∨ T2 a) ((st1N.trans st3').less fun a q => q.elim .inr fun z => .inl (t2 a z)) er4 xr
theorem run_makeG {k : Nat} {n : Str} {C f : Addr} {fd : FuncData} {ps : List Str} {g : FSem} {pins : List (Addr × Obj)} {s : Shared} {Q : VK} {us : List Value} {vs : List V} (F : IDef X.prog X.w X.K X.mg X.base k n C f fd ps g) (hgd : X.A.guards = some []) (hr : Room (k + 1) X.A)
    (tk : Takes X W) (I : Inv X pins σ H s) (r : Vals vs us) (h : ∀ x dx, H x = none → H dx = none → dx ≠ x → spG X.K X.mg g (.ref x :: vs) (upd (upd H dx (.own x)) x (.ins C dx [])) (fun v H2 => v = .non ∧ Q (.ref x) H2) (fun cls d H => W cls d σ H)) :
    wpAny (model X.prog X.w) X.A (call (.ref C) us) (EP X pins σ Q) X.xe s := by
  have hq := h (s.heap.objs.size + 1) s.heap.objs.size (I.hok.fresh (Nat.le_succ _)) (I.hok.fresh (Nat.le_refl _)) (Nat.ne_of_lt (Nat.lt_succ_self _))
  have I2 := Inv.made (C := C) I
  have r2 : Vals (V.ref (s.heap.objs.size + 1) :: vs) (Value.ref (s.heap.objs.size + 1) :: us) := .cons rfl r
  have hl : (Value.ref (s.heap.objs.size + 1) :: us).length = ps.length := by rw [← r2.length]; exact spG_len F.ok.len hq
  refine wpAny_call (make_map (f := f) I.kIn F.mkd.makes F.mkd.init (beq_iff_eq.mp F.mkd.fn) (codeAny_mono (F.ok.run _ X.stack _ _ ⟨Value.ref (s.heap.objs.size + 1) :: us, []⟩ (Value.ref (s.heap.objs.size + 1) :: us) _ _ _ (by first | exact hgd | (simpa [Around.under] using hgd)) (hr.make C us [])
    (I2.env0.make C us []) (by have b := F.bd _ (Value.ref (s.heap.objs.size + 1) :: us) I2.kIn (by rw [List.append_nil]; exact hl); rw [List.append_nil] at b; exact b) r2 hq) fun r s' hq' => ?_))
  cases r with
  | error e => exact passAt tk σ pins _ _ e s' I2 hq'
  | ok fl =>
    cases fl with
    | ret u =>
      obtain ⟨v, H', I3, rv, ev, q3⟩ := I2.after hq'
      subst ev
      exact ⟨rv, ⟨V.ref (s.heap.objs.size + 1), H', I3, rfl, q3⟩⟩
    | next => exact False.elim hq'
    | brk => exact False.elim hq'
    | cont => exact False.elim hq'
theorem E_make {k j : Nat} {n : Str} {C f : Addr} {fd : FuncData} {ps : List Str} {g : FSem} {e : Expr} {es : List Expr} {fs : M (List EV)} {p pos : Pos} (hC : reg X.K n = some C) (F : IDef X.prog X.w X.K X.mg X.base k n C f fd ps g) (ft : Fit X W j) (ha : PA X (e :: es) (tA X.K X.mg W fs)) (hk : k + 1 ≤ j := by first | decide | omega) (hg : Gl X n := by rfl)
    (hdb : (n == ("__debug__" : Str)) = false := by decide) (he : starEach (e :: es) X.env = (false, eval e X.env) :: starEach es X.env := by rfl) (hpl : (backTo pos (starEach es X.env)).any (·.1) = false := by rfl) :
    PE X (.Call (.Name n p) (e :: es) [] pos) (tE X.K X.mg W (makeC n g fs)) := by
  refine ⟨fun pins s σ H Q I h => ?_⟩
  refine wpAny_Call_Name_kw (ld_glob I hg F.mg ?_ hdb)
  refine PySem.W.callWith_K (h₀ := X.base) I.ok.mod.kin F.mkd.kp (thn (ha.run pos pins s σ H _ I (tE_make hC h)) fun us s1 ⟨vs, H1, I1, r, q⟩ => ⟨I1.kIn, ?_⟩) he hpl
  exact run_makeG F ft.gd (ft.room.mono hk) ft.tk I1 r q
def augA (j : Nat) (n f : Str) (g : List D → Option D) (fe : M EV) : M Fl := setA j n f (bin g (fldE n f (loc j)) fe)
end
end Pm
namespace Pm
open PySem PySem.Spec PyProof.Rows L2
/-- m ends in the exception x, and R holds of the slots then -/
def Xp {α : Type} (m : M α) (ρ : Env) (x : XD) (R : Env → Prop) : Prop := ∃ ρ', m ρ = .exc x ρ' ∧ R ρ'
theorem Xp.of {α : Type} {m : M α} {ρ ρ' : Env} {x : XD} {R : Env → Prop} (e : m ρ = .exc x ρ') (h : R ρ') : Xp m ρ x R := ⟨ρ', e, h⟩
theorem Xp.mono {α : Type} {m : M α} {ρ : Env} {x : XD} {R R' : Env → Prop} (h : Xp m ρ x R) (i : ∀ ρ', R ρ' → R' ρ') : Xp m ρ x R' := by
  obtain ⟨ρ', e, r⟩ := h
  exact ⟨ρ', e, i ρ' r⟩
end Pm
namespace Sc
open PySem PySem.Spec PyProof.Rows L2 Pm
open Pg (sg)
noncomputable def b_Scanner____init__ : M Fl := (seq (Pm.ite (notT (tst (app opIsi (aCons (loc 1) (aCons (con (.op (.ty "str"))) aNil))))) (raise1 "InvalidText" "position" (con .non)) sNx)
    (seq (setA 0 "Scanner" "source" (loc 1))
    (setA 0 "Scanner" "spot" (con (.int 0)))))
noncomputable def x_Scanner____init__ : FSem := mkF 2 2 [] b_Scanner____init__
noncomputable def b_Scanner__is_at_end : M Fl := (rtn (Pm.bin opEq (fldE "Scanner" "spot" (loc 0)) (app opLen (aCons (fldE "Scanner" "source" (loc 0)) aNil))))
noncomputable def x_Scanner__is_at_end : FSem := mkF 1 1 [] b_Scanner__is_at_end
noncomputable def b_Scanner__sees : M Fl := (rtn (andE (notE (callF x_Scanner__is_at_end (aCons (chk "Scanner" "is_at_end" (loc 0)) aNil))) (Pm.bin opIn (idx (aCons (fldE "Scanner" "source" (loc 0)) (aCons (fldE "Scanner" "spot" (loc 0)) aNil))) (loc 1))))
noncomputable def x_Scanner__sees : FSem := mkF 2 2 [] b_Scanner__sees
noncomputable def b_Scanner__take : M Fl := (seq (Pm.ite (notT (tst (callF x_Scanner__sees (aCons (chk "Scanner" "sees" (loc 0)) (aCons (loc 1) aNil))))) (raise1 "InvalidText" "position" (fldE "Scanner" "spot" (loc 0))) sNx)
    (seq (augA 0 "Scanner" "spot" gAdd (con (.int 1)))
    (rtn (idx (aCons (fldE "Scanner" "source" (loc 0)) (aCons (Pm.bin (on2I iSub) (fldE "Scanner" "spot" (loc 0)) (con (.int 1))) aNil))))))
noncomputable def x_Scanner__take : FSem := mkF 2 2 [] b_Scanner__take
def scD (src : List Nat) (k : Nat) : D := .node true (.ins "Scanner" ["source", "spot"]) [.str (T src), .int (k : Int)]
theorem scD_pl (src : List Nat) (k : Nat) : (scD src k).plain = false := rfl
theorem e_ss : (("spot" : Str) == ("source" : Str)) = false := by decide +kernel
section
variable {src : List Nat} {k : Nat} {t : List (Option D)}
theorem fld_src {i : Nat} {ρ : Pm.Env} (h : ρ.getD i none = some (scD src k)) : fldE "Scanner" "source" (loc i) ρ = .ok (.val (.str (T src))) ρ := by
  unfold fldE
  have hl : loc i ρ = .ok (.ref i) ρ := by unfold loc; rw [h]
  simp only [bnd, hl, peek1, h, scD]
  rfl
theorem fld_spot {i : Nat} {ρ : Pm.Env} (h : ρ.getD i none = some (scD src k)) : fldE "Scanner" "spot" (loc i) ρ = .ok (.val (.int (k : Int))) ρ := by
  unfold fldE
  have hl : loc i ρ = .ok (.ref i) ρ := by unfold loc; rw [h]
  have e : ((["source", "spot"] : List Str).zip [D.str (T src), .int (k : Int)]).lookup ("spot" : Str) = some (D.int (k : Int)) := by
    simp [List.lookup, e_ss]
  simp only [bnd, hl, peek1, h, scD]
  rw [if_pos trivial, e]
  rfl
theorem chk_ok {i : Nat} {m : Str} {ρ : Pm.Env} (hm : m ∉ (["source", "spot"] : List Str)) (h : ρ.getD i none = some (scD src k)) : chk "Scanner" m (loc i) ρ = .ok (.ref i) ρ := by
  unfold chk
  have hl : loc i ρ = .ok (.ref i) ρ := by unfold loc; rw [h]
  simp only [bnd, hl, peek1, h, scD]
  rw [if_pos ⟨trivial, hm⟩]
end
theorem m1 : ("is_at_end" : Str) ∉ (["source", "spot"] : List Str) := by decide +kernel
theorem m2 : ("sees" : Str) ∉ (["source", "spot"] : List Str) := by decide +kernel
theorem m3 : ("take" : Str) ∉ (["source", "spot"] : List Str) := by decide +kernel
section
variable {src : List Nat} {k : Nat}
theorem atend_ok (hl : src.length ≤ 1000000) : x_Scanner__is_at_end [scD src k] = .ret (.bl (decide (k = src.length))) [scD src k] := by
  have hw : Wf x_Scanner__is_at_end [scD src k] fun d as => d = .bl (decide (k = src.length)) ∧ as = [scD src k] := by
    have f1 := fld_src (src := src) (k := k) (i := 0) (ρ := [some (scD src k)]) rfl
    have f2 := fld_spot (src := src) (k := k) (i := 0) (ρ := [some (scD src k)]) rfl
    have l : opLen [.str (T src)] = some (.int (src.length : Int)) := by
      show (if (T src).length ≤ 1000000 then some (D.int ((T src).length : Int)) else none) = _
      rw [T_len, if_pos hl]
    have q : opEq [.int (k : Int), .int (src.length : Int)] = some (.bl (decide (k = src.length))) := by
      rw [eq_int']
      congr 2
      by_cases h : k = src.length
      · rw [decide_eq_true h, h]; simp
      · rw [decide_eq_false h]; exact beq_eq_false_iff_ne.mpr fun e => h (Int.ofNat_inj.mp e)
    have pl := scD_pl src k
    unfold x_Scanner__is_at_end
    refine wf_mkF ?_
    unfold b_Scanner__is_at_end
    show Wp _ [some (scD src k)] _
    generalize scD src k = SD at *
    generalize T src = TS at *
    generalize decide (k = src.length) = B at *
    generalize (k : Int) = K0 at *
    generalize (src.length : Int) = L0 at *
    generalize fldE "Scanner" "source" (loc 0) = F1 at *
    generalize fldE "Scanner" "spot" (loc 0) = F2 at *
    generalize opLen = OL at *
    generalize opEq = OE at *
    refine wp_end fun K k1 k2 k3 k4 => ?_
    simp [Wp, mkF, reFrz, seq, Pm.ite, rtn, mov, asg, drp, sNx, bnd, Pm.bin, Pm.un, app, aCons, aNil, idx, loc, con, Pm.ret, peek1, peeks, itemOf, on2I, iAdd, iSub, iGt, iGe, iLt, iLe, iDiv, iMod, use1, useL, gI, gN, tst, andT, orT, notT, andE, orE, notE, ifE, ixN, D.frz, D.plain, plainL, argsBack, opLen, opAbs, opInt1, opNeg, disp, cap, callF, takes, puts, selA, sel, aApp, par, gT, gsC, gs0, appF, opDivmod, frzL, plainL, f1, f2, l, q]
    exact k2 _ _ ⟨[SD], by simp [argsBack, reFrz, pl], rfl, rfl⟩
  obtain ⟨d, as, e, rfl, rfl⟩ := hw
  exact e
def seen (src : List Nat) (k : Nat) (cs : List Nat) : Bool := match src[k]? with
  | some c => decide (c ∈ cs)
  | none => false
theorem char_at {c : Nat} (hl : src.length ≤ 1000000) (hc : src[k]? = some c) (ρ : Pm.Env) : itemOf (.val (.str (T src))) (k : Int) ρ = .ok (.val (.str (T [c]))) ρ := by
  have hlt := (List.getElem?_eq_some_iff.mp hc).1
  have ha : atI (T src).cps.toList (k : Int) = some c := by
    unfold atI ixN
    have e : (T src).cps.toList = src := rfl
    rw [e, if_pos (by omega), if_pos (by omega)]
    show src[((k : Int)).toNat]? = _
    rw [Int.toNat_natCast]
    exact hc
  show (if (T src).length ≤ 1000000 then _ else _) = _
  rw [T_len, if_pos hl]
  show (match atI (T src).cps.toList (k : Int) with | some c => _ | none => _) = _
  rw [ha]
  rfl
theorem in_cs (c : Nat) (cs : List Nat) : opIn [.str (T [c]), .str (T cs)] = some (.bl (decide (c ∈ cs))) := by
  have h : opIn [.str (T [c]), .str (T cs)] = some (.bl (subS (T [c]) (T cs))) := rfl
  rw [h, sub_T]
theorem sees_ok {cs : List Nat} (hl : src.length ≤ 1000000) (hk : k ≤ src.length) : x_Scanner__sees [scD src k, .str (T cs)] = .ret (.bl (seen src k cs)) [scD src k, .str (T cs)] := by
  have hw : Wf x_Scanner__sees [scD src k, .str (T cs)] fun d as => d = .bl (seen src k cs) ∧ as = [scD src k, .str (T cs)] := by
    have f1 := fun ρ => fld_src (src := src) (k := k) (i := 0) (ρ := some (scD src k) :: ρ) rfl
    have f2 := fun ρ => fld_spot (src := src) (k := k) (i := 0) (ρ := some (scD src k) :: ρ) rfl
    have f3 := fun ρ => chk_ok (src := src) (k := k) (i := 0) (ρ := some (scD src k) :: ρ) m1 rfl
    have ae := atend_ok (src := src) (k := k) hl
    have pl := scD_pl src k
    have fin : Pm.Fin [] [scD src k, .str (T cs)] (fun d as => d = .bl (seen src k cs) ∧ as = [scD src k, .str (T cs)]) (.rt (.bl (seen src k cs))) [some (scD src k), some (.str (T cs))] := ⟨[scD src k, .str (T cs)], by simp [argsBack, reFrz, pl, D.plain], rfl, rfl⟩
    unfold x_Scanner__sees
    refine wf_mkF ?_
    unfold b_Scanner__sees
    show Wp _ [some (scD src k), some (.str (T cs))] _
    cases hc : src[k]? with
    | none =>
      have hkl : k = src.length := by
        have := List.getElem?_eq_none_iff.mp hc
        omega
      have es : seen src k cs = false := by unfold seen; rw [hc]
      rw [decide_eq_true hkl] at ae
      rw [es] at fin ⊢
      generalize scD src k = SD at *
      generalize T cs = CS at *
      generalize T src = TS at *
      generalize fldE "Scanner" "source" (loc 0) = F1 at *
      generalize fldE "Scanner" "spot" (loc 0) = F2 at *
      generalize chk "Scanner" "is_at_end" (loc 0) = F3 at *
      generalize x_Scanner__is_at_end = XA at *
      refine wp_end fun K k1 k2 k3 k4 => ?_
      simp [Wp, mkF, reFrz, seq, Pm.ite, rtn, mov, asg, drp, sNx, bnd, Pm.bin, Pm.un, app, aCons, aNil, idx, loc, con, Pm.ret, peek1, peeks, itemOf, on2I, iAdd, iSub, iGt, iGe, iLt, iLe, iDiv, iMod, use1, useL, gI, gN, tst, andT, orT, notT, andE, orE, notE, ifE, ixN, D.frz, D.plain, plainL, argsBack, opLen, opAbs, opInt1, opNeg, disp, cap, callF, takes, puts, selA, sel, aApp, par, gT, gsC, gs0, appF, opDivmod, frzL, plainL, f3, ae, pl]
      exact k2 _ _ fin
    | some c =>
      have hlt := (List.getElem?_eq_some_iff.mp hc).1
      have es : seen src k cs = decide (c ∈ cs) := by unfold seen; rw [hc]
      have ci := char_at hl hc
      have ic := in_cs c cs
      rw [decide_eq_false (by omega)] at ae
      rw [es] at fin ⊢
      generalize scD src k = SD at *
      generalize decide (c ∈ cs) = B at *
      generalize T cs = CS at *
      generalize T src = TS at *
      generalize T [c] = TC at *
      generalize (k : Int) = K0 at *
      generalize fldE "Scanner" "source" (loc 0) = F1 at *
      generalize fldE "Scanner" "spot" (loc 0) = F2 at *
      generalize chk "Scanner" "is_at_end" (loc 0) = F3 at *
      generalize x_Scanner__is_at_end = XA at *
      generalize opIn = OI at *
      refine wp_end fun K k1 k2 k3 k4 => ?_
      simp [Wp, mkF, reFrz, seq, Pm.ite, rtn, mov, asg, drp, sNx, bnd, Pm.bin, Pm.un, app, aCons, aNil, idx, loc, con, Pm.ret, peek1, peeks, on2I, iAdd, iSub, iGt, iGe, iLt, iLe, iDiv, iMod, use1, useL, gN, tst, andT, orT, notT, andE, orE, notE, ifE, ixN, D.frz, D.plain, plainL, argsBack, opLen, opAbs, opInt1, opNeg, disp, cap, callF, takes, puts, selA, sel, aApp, par, gT, gsC, gs0, appF, opDivmod, frzL, plainL, f1, f2, f3, ae, pl, ci, ic]
      exact k2 _ _ fin
  obtain ⟨d, as, e, rfl, rfl⟩ := hw
  exact e
theorem aug_ok {t : List (Option D)} : augA 0 "Scanner" "spot" gAdd (con (.int 1)) (some (scD src k) :: t) = .ok .nx (some (scD src (k + 1)) :: t) := by
  have f2 := fld_spot (src := src) (k := k) (i := 0) (ρ := some (scD src k) :: t) rfl
  have ga : gAdd [.int (k : Int), .int 1] = some (.int ((k + 1 : Nat) : Int)) := rfl
  have hb : Pm.bin gAdd (fldE "Scanner" "spot" (loc 0)) (con (.int 1)) (some (scD src k) :: t) = .ok (.val (.int ((k + 1 : Nat) : Int))) (some (scD src k) :: t) := by
    generalize scD src k = SD at *
    generalize fldE "Scanner" "spot" (loc 0) = F2 at *
    generalize ((k + 1 : Nat) : Int) = K1 at *
    generalize (k : Int) = K0 at *
    generalize gAdd = GA at *
    simp [mkF, reFrz, seq, Pm.ite, rtn, mov, asg, drp, sNx, bnd, Pm.bin, Pm.un, app, aCons, aNil, idx, loc, con, Pm.ret, peek1, peeks, itemOf, on2I, iAdd, iSub, iGt, iGe, iLt, iLe, iDiv, iMod, use1, useL, gI, gN, tst, andT, orT, notT, andE, orE, notE, ifE, ixN, D.frz, D.plain, plainL, argsBack, opLen, opAbs, opInt1, opNeg, disp, cap, callF, takes, puts, selA, sel, aApp, par, gT, gsC, gs0, appF, opDivmod, frzL, plainL, f2, ga]
  unfold augA setA
  simp only [bnd, hb, use1, Pm.ret]
  have e0 : (some (scD src k) :: t).getD 0 none = some (.node true (.ins "Scanner" ["source", "spot"]) [.str (T src), .int (k : Int)]) := rfl
  simp only [e0]
  rw [if_pos ⟨trivial, by decide, rfl⟩]
  have e1 : putN ("spot" : Str) (["source", "spot"] : List Str) = (["source", "spot"] : List Str) := by
    have : ¬ (("source" : Str) = ("spot" : Str)) := by decide +kernel
    simp [putN, this]
  have e2 : putX ("spot" : Str) (D.int ((k + 1 : Nat) : Int)) (["source", "spot"] : List Str) [D.str (T src), .int (k : Int)] = [D.str (T src), .int ((k + 1 : Nat) : Int)] := by
    have : ¬ (("source" : Str) = ("spot" : Str)) := by decide +kernel
    simp [putX, this]
  rw [e1, e2]
  rfl
theorem take_ok {cs : List Nat} {c : Nat} (hl : src.length ≤ 1000000) (hc : src[k]? = some c) (hm : c ∈ cs) : x_Scanner__take [scD src k, .str (T cs)] = .ret (.str (T [c])) [scD src (k + 1), .str (T cs)] := by
  have hlt := (List.getElem?_eq_some_iff.mp hc).1
  have hw : Wf x_Scanner__take [scD src k, .str (T cs)] fun d as => d = .str (T [c]) ∧ as = [scD src (k + 1), .str (T cs)] := by
    have f1 := fun ρ => fld_src (src := src) (k := k + 1) (i := 0) (ρ := some (scD src (k + 1)) :: ρ) rfl
    have f2 := fun ρ => fld_spot (src := src) (k := k + 1) (i := 0) (ρ := some (scD src (k + 1)) :: ρ) rfl
    have f3 := fun ρ => chk_ok (src := src) (k := k) (i := 0) (ρ := some (scD src k) :: ρ) m2 rfl
    have se := sees_ok (k := k) (cs := cs) hl (by omega)
    have es : seen src k cs = true := by unfold seen; rw [hc]; exact decide_eq_true hm
    rw [es] at se
    have au := fun t => aug_ok (src := src) (k := k) (t := t)
    have ci := char_at hl hc
    have sb : iSub ((k + 1 : Nat) : Int) 1 = some (.int (k : Int)) := by
      show some (D.int (((k + 1 : Nat) : Int) - 1)) = _
      congr 2
      omega
    have pl := scD_pl src k
    have pl1 := scD_pl src (k + 1)
    have fin : Pm.Fin [] [scD src k, .str (T cs)] (fun d as => d = .str (T [c]) ∧ as = [scD src (k + 1), .str (T cs)]) (.rt (.str (T [c]))) [some (scD src (k + 1)), some (.str (T cs))] := ⟨[scD src (k + 1), .str (T cs)], by simp [argsBack, reFrz, pl, pl1, D.plain], rfl, rfl⟩
    unfold x_Scanner__take
    refine wf_mkF ?_
    unfold b_Scanner__take
    show Wp _ [some (scD src k), some (.str (T cs))] _
    generalize (fun (d : D) (as : List D) => d = .str (T [c]) ∧ as = [scD src (k + 1), .str (T cs)]) = QQ at *
    generalize ((k + 1 : Nat) : Int) = K1 at *
    generalize (k : Int) = K0 at *
    generalize scD src (k + 1) = SD1 at *
    generalize scD src k = SD at *
    generalize T cs = CS at *
    generalize T src = TS at *
    generalize T [c] = TC at *
    generalize fldE "Scanner" "source" (loc 0) = F1 at *
    generalize fldE "Scanner" "spot" (loc 0) = F2 at *
    generalize chk "Scanner" "sees" (loc 0) = F3 at *
    generalize augA 0 "Scanner" "spot" gAdd (con (.int 1)) = AU at *
    generalize x_Scanner__sees = XA at *
    generalize iSub = IS at *
    refine wp_seq fun K k1 k2 k3 k4 => ?_
    simp [Wp, mkF, reFrz, seq, Pm.ite, rtn, mov, asg, drp, sNx, bnd, Pm.bin, Pm.un, app, aCons, aNil, idx, loc, con, Pm.ret, peek1, peeks, itemOf, on2I, iAdd, iSub, iGt, iGe, iLt, iLe, iDiv, iMod, use1, useL, gI, gN, tst, andT, orT, notT, andE, orE, notE, ifE, ixN, D.frz, D.plain, plainL, argsBack, opLen, opAbs, opInt1, opNeg, disp, cap, callF, takes, puts, selA, sel, aApp, par, gT, gsC, gs0, appF, opDivmod, frzL, plainL, f3, se, pl]
    refine k1 _ ?_
    clear k1 k2 k3 k4 K
    refine wp_seq fun K k1 k2 k3 k4 => ?_
    refine Wp.of (au _) (k1 _ ?_)
    clear k1 k2 k3 k4 K
    refine wp_end fun K k1 k2 k3 k4 => ?_
    simp [Wp, mkF, reFrz, seq, Pm.ite, rtn, mov, asg, drp, sNx, bnd, Pm.bin, Pm.un, app, aCons, aNil, idx, loc, con, Pm.ret, peek1, peeks, on2I, iAdd, iSub, iGt, iGe, iLt, iLe, iDiv, iMod, use1, useL, gI, gN, tst, andT, orT, notT, andE, orE, notE, ifE, ixN, D.frz, D.plain, plainL, argsBack, opLen, opAbs, opInt1, opNeg, disp, cap, callF, takes, puts, selA, sel, aApp, par, gT, gsC, gs0, appF, opDivmod, frzL, plainL, f1, f2, sb, ci]
    exact k2 _ _ fin
  obtain ⟨d, as, e, rfl, rfl⟩ := hw
  exact e
theorem lit {s : String} {l : List Nat} (h : s.toList.map Char.toNat = l) : ((s : String) : Str) = T l := by rw [show ((s : String) : Str) = Str.ofString s from rfl, T_lit, h]
theorem litn : (("123456789" : String) : Str) = T [49, 50, 51, 52, 53, 54, 55, 56, 57] := lit rfl
theorem litd : (("0123456789" : String) : Str) = T [48, 49, 50, 51, 52, 53, 54, 55, 56, 57] := lit rfl
abbrev NZ : List Nat := [49, 50, 51, 52, 53, 54, 55, 56, 57]
abbrev DG : List Nat := [48, 49, 50, 51, 52, 53, 54, 55, 56, 57]
def isDg (c : Nat) : Bool := decide (c ∈ DG)
theorem isDg_iff {c : Nat} : isDg c = true ↔ 48 ≤ c ∧ c ≤ 57 := by
  unfold isDg
  rw [decide_eq_true_iff]
  constructor
  · intro h
    simp [DG] at h
    omega
  · intro h
    simp [DG]
    omega
/-- the digits from a place on -/
def run (src : List Nat) (k : Nat) : List Nat := (src.drop k).takeWhile isDg
theorem run_at {j : Nat} (hj : j < (run src k).length) : ∃ c, src[k + j]? = some c ∧ (run src k)[j]? = some c ∧ c ∈ DG := by
  have h1 := List.getElem?_eq_getElem hj
  obtain ⟨w, hw⟩ : ∃ w, src.drop k = run src k ++ w := ⟨(src.drop k).dropWhile isDg, (List.takeWhile_append_dropWhile).symm⟩
  have h2 : (src.drop k)[j]? = some (run src k)[j] := by
    rw [hw, List.getElem?_append_left hj, h1]
  rw [List.getElem?_drop] at h2
  refine ⟨_, h2, h1, ?_⟩
  have h3 := List.all_takeWhile (p := isDg) (l := src.drop k)
  rw [List.all_eq_true] at h3
  have h4 := h3 _ (List.getElem_mem hj)
  exact of_decide_eq_true h4
theorem run_end : seen src (k + (run src k).length) DG = false := by
  unfold seen
  rw [← List.getElem?_drop]
  generalize hL : src.drop k = L
  have : run src k = L.takeWhile isDg := by unfold run; rw [hL]
  rw [this]
  clear this hL
  induction L with
  | nil => rfl
  | cons c L ih =>
    by_cases h : isDg c = true
    · rw [List.takeWhile_cons_of_pos h]
      exact ih
    · rw [List.takeWhile_cons_of_neg h]
      show (match some c with | some c => decide (c ∈ DG) | none => false) = false
      simpa [isDg] using h
theorem run_len : k + (run src k).length ≤ src.length ∨ src.length < k := by
  by_cases h : src.length < k
  · exact .inr h
  · have : (run src k).length ≤ (src.drop k).length := (List.takeWhile_sublist _).length_le
    rw [List.length_drop] at this
    omega
end
end Sc
namespace Sc
open PySem PySem.Spec PyProof.Rows L2 Pm
open Pg (sg Tab rowD tabD abc_T)
open TL (numL numL_lt numL_step numL_digits numL_val numL_ne numL_inj numL_len)
abbrev RowT := Nat × Int × Int
/-- a number's text -/
def intL (i : Int) : List Nat := if i < 0 then 45 :: numL i.natAbs else numL i.natAbs
section
variable {src : List Nat} {k : Nat}
/-- an entry's text -/
def entL (r : RowT) : List Nat := r.1 :: 32 :: (intL r.2.1 ++ 32 :: intL r.2.2)
end
end Sc
namespace Sc
open PySem PySem.Spec PyProof.Rows L2 Pm
open Pg (sg Tab rowD tabD abc_T rows_plain tabD_plain TabOk Fi numB)
open TL (numL numL_lt numL_step numL_digits numL_val numL_ne numL_inj numL_len joinL)
/-- a table's text -/
def tabL (t : List RowT) : List Nat := joinL [59, 32] (t.map entL)
def tailL : List RowT → List Nat
  | [] => []
  | r :: t => 59 :: 32 :: (entL r ++ tailL t)
theorem tabL_cons (r : RowT) (t : List RowT) : tabL (r :: t) = entL r ++ tailL t := by
  induction t generalizing r with
  | nil => show joinL [59, 32] [entL r] = _; simp [joinL, tailL]
  | cons s t ih =>
    have := ih s
    show joinL [59, 32] (entL r :: entL s :: t.map entL) = _
    unfold tabL at this
    rw [List.map_cons] at this
    show entL r ++ ([59, 32] ++ joinL [59, 32] (entL s :: t.map entL)) = _
    rw [this]
    simp [tailL]
structure Rws (t : List RowT) : Prop where
  n1 : 1 ≤ t.length
  n6 : t.length ≤ 6
  asc : (t.map (·.1)).Pairwise (· < ·)
  let1 : ∀ r ∈ t, 97 ≤ r.1 ∧ r.1 ≤ 122
  num : ∀ r ∈ t, -1000000000000 ≤ r.2.1 ∧ r.2.1 ≤ 1000000000000 ∧ -1000000000000 ≤ r.2.2 ∧ r.2.2 ≤ 1000000000000
theorem numL_small {n : Nat} (h : n ≤ 1000000000000) : (numL n).length ≤ 13 := numL_len (by decide) (by omega)
theorem intL_small {i : Int} (h1 : -1000000000000 ≤ i) (h2 : i ≤ 1000000000000) : (intL i).length ≤ 14 := by
  have := numL_small (n := i.natAbs) (by omega)
  unfold intL
  split
  · rw [List.length_cons]; omega
  · omega
theorem Rws.ent {t : List RowT} (h : Rws t) : ∀ r ∈ t, (entL r).length ≤ 31 := fun r hr => by
  have h2 := h.num r hr
  have a := intL_small h2.1 h2.2.1
  have b := intL_small h2.2.2.1 h2.2.2.2
  unfold entL
  simp only [List.length_cons, List.length_append]
  omega
theorem tail_len {t : List RowT} (h : ∀ r ∈ t, (entL r).length ≤ 31) : (tailL t).length ≤ t.length * 33 := by
  induction t with
  | nil => simp [tailL]
  | cons r t ih =>
    have h1 := h r (by simp)
    have h2 := ih fun x hx => h x (by simp [hx])
    simp only [tailL, List.length_cons, List.length_append, Nat.add_mul, Nat.one_mul]
    omega
theorem Rws.len {t : List RowT} (h : Rws t) : (tabL t).length ≤ 1000 := by
  cases t with
  | nil => have := h.n1; simp at this
  | cons r t =>
    rw [tabL_cons, List.length_append]
    have h1 := h.ent r (by simp)
    have h2 := tail_len fun x hx => h.ent x (List.mem_cons_of_mem _ hx)
    have h3 := h.n6
    rw [List.length_cons] at h3
    have : t.length * 33 ≤ 5 * 33 := Nat.mul_le_mul_right _ (by omega)
    omega
end Sc
namespace Sc
open PySem PySem.Spec PyProof.Rows L2 Pm
open Pg (sg Tab rowD tabD abc_T rows_plain tabD_plain TabOk Fi numB)
open TL (numL numL_lt numL_step numL_digits numL_val numL_ne numL_inj numL_len joinL)
theorem init_ok (src : List Nat) : x_Scanner____init__ [.node true (.ins "Scanner" []) [], .str (T src)] = .ret .non [scD src 0, .str (T src)] := by
  have hw : Wf x_Scanner____init__ [.node true (.ins "Scanner" []) [], .str (T src)] fun d as => d = .non ∧ as = [scD src 0, .str (T src)] := by
    have i1 : opIsi [.str (T src), .op (.ty "str")] = some (.bl true) := isi_str rfl
    have s1 : setA 0 "Scanner" "source" (loc 1) [some (.node true (.ins "Scanner" []) []), some (.str (T src))] = .ok .nx [some (.node true (.ins "Scanner" (["source"] : List Str)) [.str (T src)]), some (.str (T src))] := by
      unfold setA
      have hl : loc 1 [some (.node true (.ins "Scanner" []) []), some (.str (T src))] = .ok (.ref 1) [some (.node true (.ins "Scanner" []) []), some (.str (T src))] := rfl
      simp only [bnd, hl]
      rfl
    have s2 : setA 0 "Scanner" "spot" (con (.int 0)) [some (.node true (.ins "Scanner" (["source"] : List Str)) [.str (T src)]), some (.str (T src))] = .ok .nx [some (scD src 0), some (.str (T src))] := by
      unfold setA
      have hl : con (.int 0) [some (.node true (.ins "Scanner" (["source"] : List Str)) [.str (T src)]), some (.str (T src))] = .ok (.val (.int 0)) [some (.node true (.ins "Scanner" (["source"] : List Str)) [.str (T src)]), some (.str (T src))] := rfl
      have ne : ¬ (("source" : Str) = ("spot" : Str)) := by decide +kernel
      have e1 : putN ("spot" : Str) (["source"] : List Str) = (["source", "spot"] : List Str) := by simp [putN, ne]
      have e2 : putX ("spot" : Str) (D.int 0) (["source"] : List Str) [D.str (T src)] = [.str (T src), .int 0] := by simp [putX, ne]
      have e0 : ([some (D.node true (.ins "Scanner" (["source"] : List Str)) [.str (T src)]), some (.str (T src))]).getD 0 none = some (.node true (.ins "Scanner" (["source"] : List Str)) [.str (T src)]) := rfl
      simp only [bnd, hl, use1, Pm.ret, e0]
      rw [if_pos ⟨trivial, by decide, rfl⟩, e1, e2]
      rfl
    have pl := scD_pl src 0
    unfold x_Scanner____init__
    refine wf_mkF ?_
    unfold b_Scanner____init__
    show Wp _ [some (.node true (.ins "Scanner" []) []), some (.str (T src))] _
    have g0 : Pm.ite (notT (tst (app opIsi (aCons (loc 1) (aCons (con (.op (.ty "str"))) aNil))))) (raise1 "InvalidText" "position" (con .non)) sNx [some (.node true (.ins "Scanner" []) []), some (.str (T src))] = .ok .nx [some (.node true (.ins "Scanner" []) []), some (.str (T src))] := by
      generalize T src = TS at *
      generalize opIsi = OI at *
      simp [mkF, reFrz, seq, Pm.ite, rtn, mov, asg, drp, sNx, bnd, Pm.bin, Pm.un, app, aCons, aNil, idx, loc, con, Pm.ret, peek1, peeks, itemOf, on2I, iAdd, iSub, iGt, iGe, iLt, iLe, iDiv, iMod, use1, useL, gI, gN, tst, andT, orT, notT, andE, orE, notE, ifE, ixN, D.frz, D.plain, plainL, argsBack, opLen, opAbs, opInt1, opNeg, disp, cap, callF, takes, puts, selA, sel, aApp, par, gT, gsC, gs0, appF, opDivmod, frzL, plainL, i1]
    refine wp_seq fun K k1 k2 k3 k4 => ?_
    refine Wp.of g0 (k1 _ ?_)
    clear k1 k2 k3 k4 K
    refine wp_seq fun K k1 k2 k3 k4 => ?_
    refine Wp.of s1 (k1 _ ?_)
    clear k1 k2 k3 k4 K
    refine wp_end fun K k1 k2 k3 k4 => ?_
    exact Wp.of s2 (k1 _ ⟨[scD src 0, .str (T src)], by simp [argsBack, reFrz, pl, D.plain], rfl, rfl⟩)
  obtain ⟨d, as, e, rfl, rfl⟩ := hw
  exact e
end Sc
namespace Pg
open PySem PySem.Spec PyProof.Rows L2 Pm
end Pg
namespace Sc
open PySem PySem.Spec PyProof.Rows L2 Pm
open Pg (sg rowD tabD abc_T rows_plain tabD_plain dr divS ABC get_sg perm_erase erase_map sorted_sg sgs_plain)
open TL (numL joinL)
noncomputable def b_lnumber (S : FSem) : M Fl := (seq (asg (idx (aCons (disp true .lst (aCons (con (.int 1)) (aCons (con (.int 3)) (aCons (loc 1) (aCons (Pm.bin (on2I iPow) (con (.int 10)) (con (.int 12))) aNil))))) (aCons (callF S (aCons (loc 0) (aCons (con (.int 4)) aNil))) aNil))) (gN 2))
    (rtn (Pm.bin (on2I iSub) (callF S (aCons (loc 0) (aCons (Pm.bin hAdd (Pm.bin hMulT (con (.int 2)) (loc 2)) (con (.int 1))) aNil))) (loc 2))))
noncomputable def x_lnumber (S : FSem) : FSem := mkF 2 3 [] (b_lnumber S)
theorem pow12 : iPow 10 12 = some (.int 1000000000000) := rfl
theorem at4i {a b c e r : Int} (h0 : 0 ≤ r) (h1 : r < 4) : ∃ p, atI [D.int a, .int b, .int c, .int e] r = some (.int p) ∧ (p = a ∨ p = b ∨ p = c ∨ p = e) := by
  have : r = 0 ∨ r = 1 ∨ r = 2 ∨ r = 3 := by omega
  rcases this with rfl | rfl | rfl | rfl
  · exact ⟨a, rfl, by simp⟩
  · exact ⟨b, rfl, by simp⟩
  · exact ⟨c, rfl, by simp⟩
  · exact ⟨e, rfl, by simp⟩
theorem number_ok {S : FSem} (hS : Draws S) {ns : List Int} {q a : Int} {xs : List D} (hl : ns.length ≤ 63) (hp : Pen ns a (.node true .lst xs)) (hq : 0 ≤ q) (hq2 : q ≤ 1000000000000) (ha : a + 10 ≤ 1000000) :
    ∃ (r : Int) (xs' : List D), x_lnumber S [.node true .lst xs, .int q] = .ret (.int r) [.node true .lst xs', .int q] ∧ -1000000000000 ≤ r ∧ r ≤ 1000000000000 ∧ Pen ns (a + 2) (.node true .lst xs') := by
  obtain ⟨k, y1, e1, k0, k1, p1⟩ := dr hS (m := 4) hl hp (by omega) (by decide) (by decide)
  obtain ⟨b, eb, hb⟩ := at4i (a := 1) (b := 3) (c := q) (e := 1000000000000) k0 k1
  have hb0 : 0 ≤ b ∧ b ≤ 1000000000000 := by omega
  obtain ⟨r, z1, e2, r0, r1, p2⟩ := dr hS (m := 2 * b + 1) hl p1 (by omega) (by omega) (divS (by omega) (by omega))
  have hw : Wf (x_lnumber S) [.node true .lst xs, .int q] fun d as => d = .int (r - b) ∧ as = [.node true .lst z1, .int q] := by
    have m1 : hMulT [.int 2, .int b] = some (.int (2 * b)) := by
      rw [hMulT_ii]
      exact mulL (by decide)
    have a1 := hAdd_ii (2 * b) 1
    have pw := pow12
    unfold x_lnumber
    refine wf_mkF ?_
    unfold b_lnumber
    show Wp _ [some (.node true .lst xs), some (.int q), none] _
    generalize 2 * b + 1 = m at *
    generalize hMulT = HM at *
    generalize hAdd = HA at *
    generalize iPow = IP at *
    refine wp_seq fun K k1 k2 k3 k4 => ?_
    simp [Wp, mkF, reFrz, seq, Pm.ite, rtn, mov, asg, drp, sNx, bnd, Pm.bin, Pm.un, app, aCons, aNil, idx, loc, con, Pm.ret, peek1, peeks, itemOf, on2I, iAdd, iSub, iGt, iGe, iLt, iLe, iDiv, iMod, use1, useL, gI, gN, tst, andT, orT, notT, andE, orE, notE, ifE, ixN, D.frz, D.plain, plainL, argsBack, opLen, opAbs, opInt1, opNeg, disp, cap, callF, takes, puts, selA, sel, aApp, par, gT, gsC, gs0, appF, opDivmod, frzL, plainL, e1, pw, eb]
    refine k1 _ ?_
    clear k1 k2 k3 k4 K
    refine wp_end fun K k1 k2 k3 k4 => ?_
    simp [Wp, mkF, reFrz, seq, Pm.ite, rtn, mov, asg, drp, sNx, bnd, Pm.bin, Pm.un, app, aCons, aNil, idx, loc, con, Pm.ret, peek1, peeks, itemOf, on2I, iAdd, iSub, iGt, iGe, iLt, iLe, iDiv, iMod, use1, useL, gI, gN, tst, andT, orT, notT, andE, orE, notE, ifE, ixN, D.frz, D.plain, plainL, argsBack, opLen, opAbs, opInt1, opNeg, disp, cap, callF, takes, puts, selA, sel, aApp, par, gT, gsC, gs0, appF, opDivmod, frzL, plainL, m1, a1, e2]
    exact k2 _ _ ⟨[.node true .lst z1, .int q], by simp [argsBack, reFrz, D.plain], rfl, rfl⟩
  obtain ⟨d, as, e, rfl, rfl⟩ := hw
  exact ⟨r - b, z1, e, by omega, by omega, p2.mono (by omega)⟩
end Sc
namespace Pg
open PySem PySem.Spec PyProof.Rows L2 Pm
/-- no letter of t is d -/
structure Not (t : Tab) (d : D) : Prop where
  pl : d.plain = true
  ne : ∀ r ∈ t, opEq [sg r.1, d] = some (.bl false)
theorem Not.frz {t : Tab} {d : D} (h : Not t d) : d.frz = d := D.frz_of_plain _ h.pl
end Pg
namespace Pg
open PySem PySem.Spec PyProof.Rows L2 Pm
end Pg
namespace Pg
open PySem PySem.Spec PyProof.Rows L2 Pm
abbrev RowT := Nat × Int × Int
theorem tab_src {i : Nat} {ρ : Pm.Env} {t : Tab} (h1 : ρ.getD i none = some (tabD t)) (h2 : ρ.set i (some (tabD t)) = ρ) : srcA (loc i) ρ = .ok (t.map rowD) ρ := by
  have e : loc i ρ = .ok (.ref i) ρ := by simp only [loc, h1]
  simp only [srcA, bnd, e, use1, h1]
  unfold tabD
  simp only [D.frz, frzL_of_plain _ (rows_plain t)]
  show Res.ok (t.map rowD) (ρ.set i (some (tabD t))) = _
  rw [h2]
end Pg
namespace Pg
open PySem PySem.Spec PyProof.Rows L2 Pm
end Pg
namespace Hp
abbrev C := Int × Int × Int
/-- a sum along t -/
def sm (N : Int → Int) (a : Int) : Nat → Int
  | 0 => 0
  | n + 1 => sm N a n + N (a + n)
def holds (c : C) (t i : Int) : Prop := 0 ≤ c.1 + c.2.1 * t + c.2.2 * i
instance (c : C) (t i : Int) : Decidable (holds c t i) := inferInstanceAs (Decidable (_ ≤ _))
def lineB (a b : C) (s : Int) : C := (a.1 * b.2.2 + s * b.1 * a.2.2, a.2.1 * b.2.2 + s * b.2.1 * a.2.2, a.2.2 * b.2.2)
def quad (cs : List C) : List C := (0, 0, 1) :: (0, 1, -1) :: cs
/-- how many i on the line i + j = t -/
def Nc (cs : List C) (t : Int) : Int := if t < 0 then 0 else (((List.range (t.toNat + 1)).countP fun i : Nat => decide (∀ c ∈ cs, holds c t (i : Int)) : Nat) : Int)
end Hp
namespace Hp
/-- the sum below x -/
def upTo (N : Int → Int) (x : Int) : Int := sm N 0 x.toNat
end Hp
namespace Fl
def fs (m a b : Int) : Nat → Int
  | 0 => 0
  | n + 1 => fs m a b n + (a * n + b) / m
end Fl
namespace Pm
open PySem PySem.Spec PyProof.Rows L2
/-- a def that is told, whose table is its own and not told -/
def okTab (K : PySem.W.Frag) (recs : List Str) (t : Str × Addr × Addr) : Bool :=
  recs.any (fun n => n == t.1) && (K.lookup t.2.2).isNone && PySem.W.codeHdIn K t.2.1 t.2.2 && (tabsK K).all fun u => !decide (u.2.2 = t.2.2) || decide (u.1 = t.1)
def okTabs (K : PySem.W.Frag) (recs : List Str) : Bool := (tabsK K).all (okTab K recs)
def tabAt (K : PySem.W.Frag) (b : Addr) : Option (Str × Addr × Addr) := (tabsK K).find? fun t => decide (t.2.2 = b)
/-- the script alone is tracked, at a, locked; and the tables -/
noncomputable def scrH (K : PySem.W.Frag) (a : Addr) (ob : Obj) (ns : List Int) : Hp := fun b => open Classical in if b = a ∧ K.lookup a = none then some (.frz ob (.lst (ns.map V.int))) else if (tabAt K b).isSome then some (.tbl #[]) else none
/-- the same, the tables marked -/
noncomputable def scrZ (K : PySem.W.Frag) (a : Addr) (ob : Obj) (ns : List Int) : Hp := fun b => open Classical in if b = a ∧ K.lookup a = none then some (.frz ob (.lst (ns.map V.int))) else (tabAt K b).map fun t => mark (lamName t.1)
theorem reps_ints {K : PySem.W.Frag} {Z H : Hp} {S : Fp} : ∀ ns : List Int, RepL K Z H (ns.map D.int) (ns.map V.int) S
  | [] => trivial
  | n :: ns => ⟨Fp0, S, fun _ x => x.elim, fun _ x => x, fun _ x _ => x, rfl, reps_ints ns⟩
theorem tabAt_mem {K : PySem.W.Frag} {b : Addr} {t : Str × Addr × Addr} (h : tabAt K b = some t) : t ∈ tabsK K ∧ t.2.2 = b :=
  ⟨List.mem_of_find?_eq_some h, of_decide_eq_true (List.find?_some (p := fun t : Str × Addr × Addr => decide (t.2.2 = b)) h)⟩
theorem tabAt_of {K : PySem.W.Frag} {recs : List Str} (ok : okTabs K recs = true) {t : Str × Addr × Addr} (h : t ∈ tabsK K) : ∃ u, tabAt K t.2.2 = some u ∧ u.1 = t.1 := by
  cases e : tabAt K t.2.2 with
  | none =>
    have := List.find?_eq_none.mp e t h
    simp at this
  | some u =>
    obtain ⟨h1, h2⟩ := tabAt_mem e
    have q := List.all_eq_true.mp ok t h
    unfold okTab at q
    rw [Bool.and_eq_true] at q
    have q2 := List.all_eq_true.mp q.2 u h1
    simp only [h2, decide_true, Bool.not_true, Bool.false_or, decide_eq_true_eq] at q2
    exact ⟨u, rfl, q2⟩
theorem okTab_of {K : PySem.W.Frag} {recs : List Str} (ok : okTabs K recs = true) {t : Str × Addr × Addr} (h : t ∈ tabsK K) : recs.any (fun n => n == t.1) = true ∧ K.lookup t.2.2 = none ∧ PySem.W.codeHdIn K t.2.1 t.2.2 = true := by
  have q := List.all_eq_true.mp ok t h
  unfold okTab at q
  rw [Bool.and_eq_true, Bool.and_eq_true, Bool.and_eq_true] at q
  exact ⟨q.1.1.1, Option.isNone_iff_eq_none.mp q.1.1.2, q.1.2⟩
/-- what a lambda's maker is told: its code object and its table -/
def TBs (K : PySem.W.Frag) (mg : Str → Option Value) (base : Heap) : Prop := ∀ t ∈ tabsK K, LamX.TabB base mg t.2.1 t.2.2
/-- the law's call at the head's end -/
theorem end_call {P : Program} {w : World} {K : PySem.W.Frag} {mg mb : Str → Option Value} {k : Nat} {fa a : Addr} {fd : FuncData} {x : Str} {g : FSem} {s1 : Shared} {vs : List Value} {ns : List Int} {recs : List Str}
    (hK : K.In s1.heap) (hm : s1.heap.Ns mainGlobals mg) (hb : s1.heap.Ns builtinsNs mb) (hbb : ∀ x : Str, x ≠ "__name__" → mb x = bootBuiltins x) (hl : s1.heap.NoLimit) (hg : s1.gens = #[])
    (okt : okTabs K recs = true) (htb : ∀ t ∈ tabsK K, s1.heap.get? t.2.2 = some { cls := .none, data := .fields #[] })
    (hbm : ∃ (bm : Addr) (ob : Obj), mg "__builtins__" = some (.ref bm) ∧ bm ≠ builtinsNs ∧ s1.heap.get? bm = some ob ∧ ob.cls = .type "module" ∧ ob.dict = some builtinsNs ∧ ob.data = .plain)
    (ha : s1.heap.get? a = some { cls := .type "list", data := .seq vs.toArray }) (hi : IntsAre vs ns) (hz : ns.length ≤ sizeLine) (hr : Room k callerA)
    (F : ∀ base : Heap, K.In base → base.Ns mainGlobals mg → TBs K mg base → FnG P w K mg base k fa fd [x] g) (bd : ∀ (s : Shared) (u : Value), BindsTo s fd ⟨[u], []⟩ [(x, u)])
    (ok : ∃ as, g [.scr (ns.map D.int)] = .ret (.bl true) as) :
    codeAny (model P w) callerA (.call (.ref fa) ⟨[.ref a], []⟩) (fun r s' => r = .ok (.ret (.bool true)) ∧ OldK s1.heap s'.heap ∧ s'.os = s1.os ∧ AllBare s'.gens) s1 := by
  have rv := vals_ints hi
  have nl := hi.length
  obtain ⟨H, hH⟩ : ∃ H : Hp, H = scrH K a { cls := .type "list", data := .seq vs.toArray } ns := ⟨_, rfl⟩
  obtain ⟨Z, hZ⟩ : ∃ Z : Hp, Z = scrZ K a { cls := .type "list", data := .seq vs.toArray } ns := ⟨_, rfl⟩
  have tget : ∀ b t, tabAt K b = some t → s1.heap.get? b = some { cls := .none, data := .fields #[] } := fun b t e => by
    obtain ⟨h1, h2⟩ := tabAt_mem e
    rw [← h2]
    exact htb t h1
  have aT : tabAt K a = none := by
    cases e : tabAt K a with
    | none => rfl
    | some t =>
      have q := tget a t e
      rw [ha] at q
      have q2 : Data.seq vs.toArray _ = Data.fields #[] := congrArg Obj.data (Option.some.inj q)
      cases q2
  have at1 : ∀ b o, H b = some o → (b = a ∧ K.lookup a = none ∧ o = .frz { cls := .type "list", data := .seq vs.toArray } (.lst (ns.map V.int))) ∨ (∃ t, tabAt K b = some t ∧ o = .tbl #[]) := fun b o e => by
    rw [hH] at e
    unfold scrH at e
    split at e
    · rename_i c
      exact .inl ⟨c.1, c.2, (Option.some.inj e).symm⟩
    · split at e
      · rename_i c
        obtain ⟨t, ht⟩ := Option.isSome_iff_exists.mp c
        exact .inr ⟨t, ht, (Option.some.inj e).symm⟩
      · cases e
  have Ht : ∀ b t, tabAt K b = some t → H b = some (.tbl #[]) ∧ Z b = some (mark (lamName t.1)) := fun b t e => by
    have nb : ¬ (b = a ∧ K.lookup a = none) := fun c => by
      rw [c.1, aT] at e
      cases e
    rw [hH, hZ]
    unfold scrH scrZ
    rw [if_neg nb, if_neg nb, e]
    exact ⟨rfl, rfl⟩
  have atZ : ∀ b o, Z b = some o → (b = a ∧ H b = some o ∧ NT o) ∨ (∃ t, tabAt K b = some t ∧ o = mark (lamName t.1)) := fun b o e => by
    have e0 := e
    rw [hZ] at e
    unfold scrZ at e
    split at e
    · rename_i c
      cases e
      refine .inl ⟨c.1, ?_, nt_frz⟩
      rw [hH]
      unfold scrH
      rw [if_pos c]
    · obtain ⟨t, ht, rfl⟩ := Option.map_eq_some_iff.mp e
      exact .inr ⟨t, ht, rfl⟩
  have hok : HOk P w H s1.heap := fun b o e => by
    rcases at1 b o e with ⟨rfl, _, rfl⟩ | ⟨t, ht, rfl⟩
    · exact ⟨ha, by rw [List.length_map]; exact hz, vs, _, rv, ha⟩
    · exact tget b t ht
  have sqz : SqL K Z a (ns.map V.int) := by
    cases e : K.lookup a with
    | none => exact .inl (.inr ⟨{ cls := .type "list", data := .seq vs.toArray }, by rw [hZ]; exact if_pos ⟨rfl, e⟩⟩)
    | some o =>
      have q := hK a o e
      rw [ha] at q
      cases q
      exact .inr ⟨_, vs.toArray, 0, e, rfl, rfl, rfl, by rw [List.size_toArray, nl]; exact hz, by simpa using rv⟩
  have low : ∀ {b : Addr} {o : Obj}, s1.heap.get? b = some o → (∀ ys n, o.data ≠ .seq ys n) → o.data ≠ .fields #[] → (hidT s1.heap H).get? b = some o := fun {b o} e n1 n2 => hidT_get e (by
    cases q : H b with
    | none => rfl
    | some u =>
      rcases at1 b u q with ⟨rfl, _, _⟩ | ⟨t, ht, _⟩
      · rw [ha] at e
        cases e
        exact (n1 _ _ rfl).elim
      · rw [tget b t ht] at e
        cases e
        exact (n2 rfl).elim)
  have lowN : ∀ {b : Addr} {m : Str → Option Value}, s1.heap.Ns b m → (hidT s1.heap H).Ns b m := fun {b m} h => by
    obtain ⟨o, es, ep, e, d, r⟩ := h
    refine ⟨o, es, ep, low e (fun ys n q => ?_) fun q => ?_, d, r⟩
    · rw [d] at q
      cases q
    · rw [d] at q
      cases q
  have lowK : K.In (hidT s1.heap H) := fun b o e => hidT_get (hK b o e) (by
    cases q : H b with
    | none => rfl
    | some u =>
      rcases at1 b u q with ⟨rfl, n, _⟩ | ⟨t, ht, _⟩
      · rw [n] at e
        cases e
      · obtain ⟨h1, h2⟩ := tabAt_mem ht
        have := (okTab_of okt h1).2.1
        rw [h2, e] at this
        cases this)
  have md : Mod K mg (hidT s1.heap H) := ⟨lowK, lowN hm, ⟨mb, lowN hb, hbb⟩, by
    obtain ⟨mc, p, q⟩ := hl
    exact ⟨mc, lowN p, q⟩⟩
  have tbs : TBs K mg (hidT s1.heap H) := fun t ht => by
    have hP := htb t ht
    obtain ⟨_, _, hc⟩ := okTab_of okt ht
    refine ⟨PySem.W.codeHd_of_K lowK hc, ?_, fun z => ?_⟩
    · obtain ⟨bm, ob, b1, b2, b3, b4, b5, b6⟩ := hbm
      refine ⟨bm, ob, b1, b2, fun q => ?_, fun q => ?_, low b3 (fun ys n q => ?_) fun q => ?_, b4, b5, b6⟩
      · obtain ⟨o, es, ep, e, hd, _⟩ := hm
        rw [q, e] at b3
        cases b3
        rw [hd] at b6
        cases b6
      · rw [q, hP] at b3
        cases b3
        cases b6
      · rw [b6] at q
        cases q
      · rw [b6] at q
        cases q
    · obtain ⟨o, es, ep, e, hd, _⟩ := hm
      rw [z, hP] at e
      cases e
      cases hd
  have e0 : Env0 P w K mg (hidT s1.heap H) callerA [] s1 H := ⟨rfl, md, fun _ _ e => of_hidT e, Nat.le_of_eq (hidT_size _ _), trivial, fun _ z => (nomatch z), hok, .of_eq hg⟩
  have mks : Marks K Z := fun t ht => by
    obtain ⟨u, h1, h2⟩ := tabAt_of okt ht
    rw [(Ht _ u h1).2, h2]
  have wd : Wd Z H Fp0 := ⟨⟨fun b o e n => by
    rcases atZ b o e with ⟨_, h, _⟩ | ⟨t, ht, rfl⟩
    · exact h
    · exact absurd rfl (n _)⟩, fun _ x => x.elim, fun _ x => x.elim, (tabsK K).map fun t => (t.2.2, lamName t.1), fun b ps e => by
    rcases atZ b _ e with ⟨_, _, h⟩ | ⟨t, ht, q⟩
    · exact absurd rfl (h _)
    · obtain ⟨h1, h2⟩ := tabAt_mem ht
      exact ⟨_, q, List.mem_map.mpr ⟨t, h1, by rw [h2]⟩⟩, fun p hp => by
    obtain ⟨t, ht, rfl⟩ := List.mem_map.mp hp
    obtain ⟨u, h1, h2⟩ := tabAt_of okt ht
    obtain ⟨h3, h4⟩ := Ht _ u h1
    rw [h2] at h4
    exact ⟨h4, #[], h3, True.intro, fun pos cv z => by simp [codeAmong] at z⟩⟩
  obtain ⟨as, eg⟩ := ok
  have sp : spG K mg g [.ref a] H (fun v _ => v = .bl true) (fun _ _ _ => False) := by
    refine ⟨Z, Fp0, [.scr (ns.map D.int)], mks, wd, ⟨Fp0, Fp0, fun _ x => x, fun _ x => x, fun _ x _ => x, ⟨a, ns.map V.int, rfl, sqz, reps_ints ns⟩, trivial⟩, ?_⟩
    rw [eg]
    exact fun v Z' H' S' Sd _ _ _ r => r
  refine codeAny_mono ((F _ lowK (lowN hm) tbs).run callerA [] s1 H ⟨[.ref a], []⟩ [.ref a] [.ref a] _ _ rfl hr e0 (bd s1 (.ref a)) (.cons rfl .nil) sp) fun r s' h => ?_
  cases r with
  | error e =>
    obtain ⟨_, _, _, _, _, _, _, _, _, _, _, _, z⟩ := h
    exact z.elim
  | ok fl =>
    cases fl with
    | next => exact h.elim
    | brk => exact h.elim
    | cont => exact h.elim
    | ret u =>
      obtain ⟨v, H', os, bare, un, hok', r', q⟩ := h
      have q' : v = .bl true := q
      subst q'
      obtain rfl : u = Value.bool true := r'
      have keep : ∀ b o, tabAt K b = none → s1.heap.get? b = some o → s'.heap.get? b = some o := fun b o nt e => by
        cases t : H b with
        | none => exact un.keep b o e t (fun z => (nomatch z)) (fun z => (nomatch z))
        | some u =>
          rcases at1 b u t with ⟨rfl, n, rfl⟩ | ⟨t2, ht, _⟩
          · obtain ⟨e2, _⟩ := hok' b _ (un.frzs b _ _ t)
            rw [ha] at e
            rw [← e]
            exact e2
          · rw [nt] at ht
            cases ht
      have grow : ∀ b t, tabAt K b = some t → ∃ more : Array Value, s'.heap.get? b = some { cls := .none, data := .fields more } := fun b t e => by
        obtain ⟨more, z⟩ := un.tbls b #[] (Ht b t e).1
        exact ⟨_, hok' b _ z⟩
      refine ⟨rfl, ⟨fun b o e => ?_, fun b o e => ?_⟩, os, bare⟩
      · cases ht : tabAt K b with
        | none => exact .inl (keep b o ht e)
        | some t =>
          obtain ⟨more, hm2⟩ := grow b t ht
          have e1 := tget b t ht
          rw [e1] at e
          cases e
          obtain ⟨h1, h2⟩ := tabAt_mem ht
          have cd := PySem.W.codeHd_of_K hK (okTab_of okt h1).2.2
          rw [h2] at cd
          exact .inr (.inl ⟨(cd.tab e1).isCodeTable, rfl, #[], more, rfl, by rw [Array.empty_append]; exact hm2⟩)
      · cases ht : tabAt K b with
        | none => exact ⟨o, keep b o ht e⟩
        | some t =>
          obtain ⟨more, hm2⟩ := grow b t ht
          exact ⟨_, hm2⟩
theorem walkT {l : PySem.W.OpenLaw} {n k : Nat} {q : Program} {loose : List Str} {XP : (Str → Option Value) → Heap → Prop} {YP : World → Heap → Prop} {d : DefRec} {K : Params → PySem.W.Frag} {g : FSem} {x : Str}
    (hn : l.most = some n) (hn2 : n ≤ sizeLine) (hdf : d.params.defaults = []) (hr : Room k callerA) (hY : ∀ (w : World) (h : Heap), YP w h → (K w.params).In h)
    (okt : ∀ w : World, okTabs (K w.params) ((recsOf q).map (·.name)) = true)
    (F : ∀ (w : World) (mg : Str → Option Value) (fa : Addr) (h : Heap), (K w.params).In h → h.Ns mainGlobals mg → mg d.name = some (.ref fa) →
      ∃ fd : FuncData, (∀ (s : Shared) (u : Value), BindsTo s fd ⟨[u], []⟩ [(x, u)]) ∧ ∀ base : Heap, (K w.params).In base → base.Ns mainGlobals mg → TBs (K w.params) mg base → FnG l.prog w (K w.params) mg base k fa fd [x] g)
    (ok : ∀ ns : List Int, ns.length ≤ n → ∃ as, g [.scr (ns.map D.int)] = .ret (.bl true) as) : PySem.W.WalkO q loose XP YP l.row.toRowW d [] (fun f vs => PySem.call f vs) := by
  refine Att.attach_call hn hdf fun w s0 s1 mg mb fa o pm cd doc a vs ns G Y ho hd hcd hmg hobj hints hlen hg => ?_
  have KX := hY w _ Y
  obtain ⟨fd, hb, hF⟩ := F w mg fa _ KX G.T.g hmg
  refine end_call KX G.T.g G.T.b G.T.builtins G.T.nolimit hg (okt w) (fun t ht => ?_) G.T.bmain hobj hints (Nat.le_trans hlen hn2) hr hF hb (ok ns hlen)
  obtain ⟨h1, _, _⟩ := okTab_of (okt w) ht
  unfold tabsK at ht
  obtain ⟨x, hx, ex⟩ := List.mem_filterMap.mp ht
  obtain ⟨cp, hcp, rfl⟩ := Option.map_eq_some_iff.mp ex
  obtain ⟨nm, hn1, hn2⟩ := List.any_eq_true.mp h1
  obtain ⟨dr, hdr, rfl⟩ := List.mem_map.mp hn1
  obtain ⟨d2, hd2⟩ : ∃ d2, (recsOf q).find? (fun e => e.name == x) = some d2 := by
    cases e : (recsOf q).find? (fun e => e.name == x) with
    | some d2 => exact ⟨d2, rfl⟩
    | none =>
      have := List.find?_eq_none.mp e dr hdr
      exact absurd hn2 this
  exact (PySem.W.tab_of (c := cp.1) (P := cp.2) G.T KX hd2 hcp).2
end Pm
namespace L2
open PySem PySem.Spec PyProof.Rows
end L2
namespace Pm
open PySem PySem.Spec PyProof.Rows L2
end Pm
namespace Pm
open PySem PySem.Spec PyProof.Rows L2
end Pm
namespace Pm
open PySem PySem.Spec PyProof.Rows L2
end Pm
namespace Pm
open PySem PySem.Spec PyProof.Rows L2
abbrev Quad := Int × Str × Str × Int × Int
def q0 : Quad := (0, "", "", 0, 0)
def IsQ (h : Heap) (v : Value) (q : Quad) : Prop := ∃ (t p : Addr) (t1 t2 t3 t4 t5 : Tok), v = .ref t ∧ h.IsTuple t #[.int q.1 t1, .str q.2.1 t2, .str q.2.2.1 t3, .ref p] ∧ h.IsTuple p #[.int q.2.2.2.1 t4, .int q.2.2.2.2 t5]
theorem tuple_keep {h h' : Heap} {t : Addr} {its : Array Value} (k : ∀ b o, h.get? b = some o → h'.get? b = some o) (x : h.IsTuple t its) : h'.IsTuple t its := by
  obtain ⟨o, ho, r⟩ := x
  exact ⟨o, k _ _ ho, r⟩
theorem IsQ.keep {h h' : Heap} {v : Value} {q : Quad} (k : ∀ b o, h.get? b = some o → h'.get? b = some o) (x : IsQ h v q) : IsQ h' v q := by
  obtain ⟨t, p, t1, t2, t3, t4, t5, e, a, b⟩ := x
  exact ⟨t, p, t1, t2, t3, t4, t5, e, tuple_keep k a, tuple_keep k b⟩
end Pm
namespace Pm
open PySem PySem.Spec PyProof.Rows L2
end Pm
namespace Pm
open PySem PySem.Spec PyProof.Rows L2
theorem un1 {A : Around} (h : A.units + 64 < cLine) : A.units + 1 < cLine := by omega
end Pm
namespace Pkc
open PySem PySem.Spec PyProof.Rows L2 Pm
def Sc (e : Nat) (c : Hp.C) : Prop := Sm e c.1 ∧ Sm e c.2.1 ∧ Sm e c.2.2
theorem Sc.mono {e f : Nat} {c : Hp.C} (h : Sc e c) (l : e ≤ f) : Sc f c := ⟨h.1.mono l, h.2.1.mono l, h.2.2.mono l⟩
theorem sm1 : Sm 1 (1 : Int) := by unfold Sm; decide
theorem Sc.line {a b : Hp.C} {s : Int} {e : Nat} (ha : Sc e a) (hb : Sc e b) (hs : Sm 1 s) (h0 : 0 < e) : Sc (e + e + 2) (Hp.lineB a b s) := by
  obtain ⟨p1, p2, p3⟩ := ha
  obtain ⟨q1, q2, q3⟩ := hb
  have n1 : ∀ {x y : Int}, Sm e x → Sm e y → Sm (e + e + 1) (s * x * y) := fun hx hy => ((hs.mul hx).mul hy).mono (by omega)
  exact ⟨((p1.mul q3).mono (by omega)).add (n1 q1 p3), ((p2.mul q3).mono (by omega)).add (n1 q2 p3), (p3.mul q3).mono (by omega)⟩
end Pkc
namespace Pkc
open PySem PySem.Spec PyProof.Rows L2 Pm
theorem Sm.one {e : Nat} (h : 0 < e) : Sm e 1 := sm1.mono h
end Pkc
namespace Pkc
open PySem PySem.Spec PyProof.Rows L2 Pm
/-- the number of points up to a total at which conditions hold -/
abbrev cnt (cs : List Hp.C) (T : Int) : Int := Hp.upTo (Hp.Nc (Hp.quad cs)) (T + 1)
def val (f : Hp.C) (u v : Int) : Int := f.1 - u * f.2.1 + v * f.2.2
end Pkc
namespace Pkc
open PySem PySem.Spec PyProof.Rows L2 Pm
open Pg (Tab tabD rowD sg has rowOf lets rows_plain tabD_plain SmT empty_T join_sg)
abbrev Row := Nat × Int × Int
def turn (p : Row × Row) : Bool := decide (p.1.2.2 < 0) != decide (p.2.2.2 < 0)
def turnedL (t u : Tab) : List Nat := ((t.zip u).filter turn).map fun p => p.1.1
end Pkc
namespace Pkc
open PySem PySem.Spec PyProof.Rows L2 Pm
open Pg (Tab tabD rowD sg has rowOf lets rows_plain tabD_plain)
abbrev Runs := List (Nat × Int)
variable {t u : Tab}
end Pkc
namespace Pkc
open PySem PySem.Spec PyProof.Rows L2 Pm
open Pg (Tab tabD rowD sg has rowOf lets rows_plain tabD_plain)
structure Sim (t u : Tab) : Prop where
  hl : lets t = lets u
  fac : ∃ p q c : Int, 0 < p ∧ 0 < q ∧ ∀ (i : Nat) (r s : Row), t[i]? = some r → u[i]? = some s → p * r.2.1 = q * s.2.1 + c ∧ p * r.2.2 = q * s.2.2
theorem lets_len {t u : Tab} (h : lets t = lets u) : t.length = u.length := by
  have := congrArg List.length h
  unfold lets at this
  rw [List.length_map, List.length_map] at this
  exact this
theorem Sim.refl (t : Tab) : Sim t t := ⟨rfl, 1, 1, 0, by decide, by decide, fun i r s h1 h2 => by
  rw [h1] at h2
  cases h2
  omega⟩
theorem Sim.symm {t u : Tab} (h : Sim t u) : Sim u t := by
  obtain ⟨hl, p, q, c, hp, hq, h⟩ := h
  refine ⟨hl.symm, q, p, -c, hq, hp, fun i r s h1 h2 => ?_⟩
  have := h i s r h2 h1
  omega
theorem Sim.trans {t u v : Tab} (h : Sim t u) (k : Sim u v) : Sim t v := by
  obtain ⟨hl, p, q, c, hp, hq, h⟩ := h
  obtain ⟨kl, p', q', c', hp', hq', k⟩ := k
  refine ⟨hl.trans kl, p' * p, q * q', q * c' + p' * c, Int.mul_pos hp' hp, Int.mul_pos hq hq', fun i r s h1 h2 => ?_⟩
  have hi : i < u.length := by rw [← lets_len hl]; exact (List.getElem?_eq_some_iff.mp h1).1
  have h3 : u[i]? = some u[i] := List.getElem?_eq_getElem hi
  obtain ⟨a1, a2⟩ := h i r _ h1 h3
  obtain ⟨b1, b2⟩ := k i _ s h3 h2
  constructor
  · rw [Int.mul_assoc, a1, Int.mul_add, ← Int.mul_assoc, Int.mul_comm p' q, Int.mul_assoc, b1, Int.mul_add, Int.mul_assoc]
    omega
  · rw [Int.mul_assoc, a2, ← Int.mul_assoc, Int.mul_comm p' q, Int.mul_assoc, b2, Int.mul_assoc]
theorem pos_iff {p q x y : Int} (hp : 0 < p) (hq : 0 < q) (h : p * x = q * y) : (0 < x ↔ 0 < y) ∧ (x < 0 ↔ y < 0) := by
  have pos : ∀ {k z : Int}, 0 < k → 0 < k * z → 0 < z := fun {k z} hk hz => by
    rcases Int.lt_trichotomy z 0 with w | w | w
    · have := Int.mul_neg_of_pos_of_neg hk w; omega
    · rw [w, Int.mul_zero] at hz; omega
    · exact w
  have a : 0 < x ↔ 0 < p * x := ⟨fun k => Int.mul_pos hp k, pos hp⟩
  have b : 0 < y ↔ 0 < q * y := ⟨fun k => Int.mul_pos hq k, pos hq⟩
  have c : x < 0 ↔ p * x < 0 := ⟨fun k => Int.mul_neg_of_pos_of_neg hp k, fun k => by
    rcases Int.lt_trichotomy x 0 with z | z | z
    · exact z
    · rw [z, Int.mul_zero] at k; omega
    · have := Int.mul_pos hp z; omega⟩
  have d : y < 0 ↔ q * y < 0 := ⟨fun k => Int.mul_neg_of_pos_of_neg hq k, fun k => by
    rcases Int.lt_trichotomy y 0 with z | z | z
    · exact z
    · rw [z, Int.mul_zero] at k; omega
    · have := Int.mul_pos hq z; omega⟩
  rw [h] at a c
  exact ⟨a.trans b.symm, c.trans d.symm⟩
theorem Sim.turned {t u : Tab} (h : Sim t u) : turnedL t u = [] := by
  obtain ⟨hl, p, q, c, hp, hq, h⟩ := h
  unfold turnedL
  rw [List.map_eq_nil_iff, List.filter_eq_nil_iff]
  intro x hx
  obtain ⟨i, hi⟩ := List.getElem?_of_mem hx
  rw [List.getElem?_zip_eq_some] at hi
  obtain ⟨_, e⟩ := h i _ _ hi.1 hi.2
  have := (pos_iff hp hq e).2
  unfold turn
  by_cases k : x.1.2.2 < 0
  · have k2 := this.mp k
    simp [k, k2]
  · have k2 : ¬ x.2.2.2 < 0 := fun q => k (this.mpr q)
    simp [k, k2]
end Pkc
namespace Pkc
open PySem PySem.Spec PyProof.Rows L2 Pm
open Pg (Tab tabD rowD sg has rowOf lets rows_plain tabD_plain put_len)
def inR (rs : Runs) (c : Nat) : Bool := rs.any fun r => r.1 == c
theorem inR_snoc (rs : Runs) (p : Nat × Int) (c : Nat) : inR (rs ++ [p]) c = (inR rs c || decide (p.1 = c)) := by
  unfold inR
  rw [List.any_append]
  by_cases h : p.1 = c <;> simp [h]
/-- the last two operators of runs -/
structure Last (rs : Runs) (x y : Nat) : Prop where
  ex : ∃ (I : Runs) (q : Nat × Int), rs = I ++ [q] ∧ y = q.1 ∧ (1 < q.2 ∧ x = q.1 ∨ ¬ 1 < q.2 ∧ ∃ (I' : Runs) (p : Nat × Int), I = I' ++ [p] ∧ x = p.1)
theorem Last.mem {rs : Runs} {x y : Nat} (h : Last rs x y) : inR rs x = true ∧ inR rs y = true := by
  obtain ⟨I, q, rfl, rfl, hx⟩ := h.ex
  refine ⟨?_, by rw [inR_snoc]; simp⟩
  rcases hx with ⟨_, rfl⟩ | ⟨_, I', p, rfl, rfl⟩
  · rw [inR_snoc]; simp
  · rw [inR_snoc, inR_snoc]; simp
end Pkc
namespace Pg
open PySem PySem.Spec PyProof.Rows L2 Pm
end Pg
namespace Pg
open PySem PySem.Spec PyProof.Rows L2 Pm
end Pg
namespace Rp
open PySem PySem.Spec PyProof.Rows L2 Pm
open Pg (sg rowD tabD abc_T rows_plain tabD_plain tabD_frz dr divS ABC get_sg perm_erase erase_map sorted_sg sgs_plain ix_nat tab_src join_sg)
open TL (numL joinL)
open Sc (Rws RowT)
noncomputable def b_lnumber (S : FSem) : M Fl := (seq (asg (idx (aCons (disp true .lst (aCons (con (.int 1)) (aCons (con (.int 3)) (aCons (loc 1) (aCons (Pm.bin (on2I iPow) (con (.int 10)) (con (.int 12))) aNil))))) (aCons (callF S (aCons (loc 0) (aCons (con (.int 4)) aNil))) aNil))) (gN 2))
    (rtn (Pm.bin (on2I iSub) (callF S (aCons (loc 0) (aCons (Pm.bin hAdd (Pm.bin hMulT (con (.int 2)) (loc 2)) (con (.int 1))) aNil))) (loc 2))))
noncomputable def x_lnumber (S : FSem) : FSem := mkF 2 3 [] (b_lnumber S)
noncomputable def b_lgreat_number (S : FSem) : M Fl := (seq (asg (disp true .lst (aCons (con (.int 1)) (aCons (con (.int 2)) (aCons (Pm.bin hAdd (con (.int 1)) (callF S (aCons (loc 0) (aCons (con (.int 50)) aNil)))) (aCons (Pm.bin hAdd (Pm.bin (on2I iPow) (con (.int 10)) (con (.int 9))) (callF S (aCons (loc 0) (aCons (Pm.bin (on2I iPow) (con (.int 10)) (con (.int 9))) aNil)))) aNil))))) (gN 1))
    (rtn (idx (aCons (Pm.bin hAdd (loc 1) (disp true .lst (aCons (Pm.bin (on2I iSub) (Pm.bin (on2I iPow) (con (.int 10)) (con (.int 30))) (callF S (aCons (loc 0) (aCons (Pm.bin (on2I iPow) (con (.int 10)) (con (.int 6))) aNil)))) (aCons (Pm.bin (on2I iPow) (con (.int 10)) (con (.int 30))) aNil)))) (aCons (callF S (aCons (loc 0) (aCons (con (.int 6)) aNil))) aNil)))))
noncomputable def x_lgreat_number (S : FSem) : FSem := mkF 1 2 [] (b_lgreat_number S)
def lets (t : List RowT) : List Nat := t.map (·.1)
end Rp
set_option maxHeartbeats 2000000
namespace Pm
open PySem PySem.Spec PyProof.Rows L2
def dcIt (own : List Nat) (g : Tg) (c : M Bool) (ek ev : M EV) : List D → Env → List Key → List D → Res (List Key × List D)
  | [], ρ, ks, xs => .ok (ks, xs) ρ
  | d :: ds, ρ, ks, xs => match g d ρ with
    | .ok _ ρ1 => match c ρ1 with
      | .ok true ρ2 => match ek ρ2 with
        | .ok e1 ρ3 => match (peek1 ρ3 e1).bind keyOf with
          | some k => match ev ρ3 with
            | .ok e2 ρ4 => match peek1 ρ4 e2 with
              | some d' => if d'.plain = true ∧ ks.length < cap then dcIt own g c ek ev ds (wipeE ρ4 own) (putKs ks k) (putL ks xs k d') else .stuck
              | none => .stuck
            | _ => .stuck
          | none => .stuck
        | _ => .stuck
      | .ok false ρ2 => dcIt own g c ek ev ds (wipeE ρ2 own) ks xs
      | _ => .stuck
    | _ => .stuck
def dcomp (own : List Nat) (s : M (List D)) (g : Tg) (c : M Bool) (ek ev : M EV) : M EV := bnd s fun ds => fun ρ => match dcIt own g c ek ev ds (wipeE ρ own) [] [] with
  | .ok (ks, xs) ρ' => .ok (.val (.node true (.dct ks) xs)) (backE ρ ρ' own)
  | _ => .stuck
section
variable {K : PySem.W.Frag} {mg : Str → Option Value} {W : WX} {Z H : Hp} {S : Fp} {σ : Sl} {X : Cx} {A : Nat → Bool}
theorem tE_dcomp {own : List Nat} {s : M (List D)} {g : Tg} {c : M Bool} {ek ev : M EV} {Q : VK} (h : tE K mg W (dcomp own s g c ek ev) σ H Q) :
    tDc (tI K mg W s) (tG K (fun j => decide (j ∈ own)) g) (tT K mg wF c) (tE K mg wF ek) (tE K mg wF ev) own σ H Q := by
  obtain ⟨Z, ρ, S, w, er, o⟩ := h
  refine ⟨Z, ρ, S, w, er, ?_⟩
  simp only [dcomp, bnd] at o
  cases e1 : s ρ with
  | stuck => rw [e1] at o; exact o
  | exc x ρ1 => rw [e1] at o; exact o
  | ok ds ρ1 =>
    simp only [e1] at o
    intro J Z1 H1 S1 st er1 wk L hL
    cases e2 : dcIt own g c ek ev ds (wipeE ρ1 own) [] [] with
    | stuck => simp only [e2] at o; exact o.elim
    | exc x ρ2 => simp only [e2] at o; exact o.elim
    | ok accF ρF =>
      obtain ⟨ksF, xsF⟩ := accF
      simp only [e2] at o
      have f1 : Step Z1 H1 S1 Z1 (upd H1 L (.dK [])) (fun a => S1 a ∨ a = L) := Step.alloc (st.wd) hL
      have f2 : ∀ a o, H1 a = some o → upd H1 L (.dK []) a = some o := fun a o e => by rw [upd_ne (ne_of_none e hL)]; exact e
      have f3 : ∀ a, S1 a → a = L → False := fun a s e => st.wd.dom a s (by rw [e]; exact hL)
      refine ⟨fun i m H' => ∃ Z' ρ' S' ks xs ys, Step Z1 H1 S1 Z' H' (fun a => S' a ∨ a = L) ∧ (∀ a, S' a → a = L → False) ∧ EnvR K Z' H' (wipeE ρ' own) (L2.wipe σ own) S' ∧ H' L = some (.dK (ks.zip ys)) ∧ ks.length = ys.length ∧ RepL K Z' H' xs ys Fp0 ∧ i + m = ds.length ∧
        dcIt own g c ek ev (ds.drop i) (wipeE ρ' own) ks xs = .ok (ksF, xsF) ρF, ⟨ds.length, Z1, ρ1, S1, [], [], [], f1, f3, (er1.move (Same.refl _) (fun a o _ e => f2 a o e) fun _ x => x).wipe, upd_same, rfl, trivial, by omega, e2⟩, ?_⟩
      rintro i m H2 ⟨Z2, ρ2, S2, ks, xs, ys, st2, dj2, er2, hys, hlen, ra, him, ci⟩
      obtain ⟨w3, w4⟩ := wk Z2 H2 st2.zz st2.wd.same
      by_cases hi : i < ds.length
      · obtain ⟨go, yl⟩ := w4 i ds[i] (List.getElem?_eq_getElem hi)
        have ed : ds.drop i = ds[i] :: ds.drop (i + 1) := List.drop_eq_getElem_cons hi
        rw [ed] at ci
        refine .inr ⟨go, fun H' => ∃ Z' ρ' S' ks xs ys, Step Z1 H1 S1 Z' H' (fun a => S' a ∨ a = L) ∧ (∀ a, S' a → a = L → False) ∧ EnvR K Z' H' (wipeE ρ' own) (L2.wipe σ own) S' ∧ H' L = some (.dK (ks.zip ys)) ∧ ks.length = ys.length ∧ RepL K Z' H' xs ys Fp0 ∧ (i + 1) + (m - 1) = ds.length ∧
          dcIt own g c ek ev (ds.drop (i + 1)) (wipeE ρ' own) ks xs = .ok (ksF, xsF) ρF, fun H' q => ⟨m - 1, by omega, q⟩, fun x H3 y => ?_⟩
        obtain ⟨Z3, st3, k3, r3⟩ := yl x H3 (fun a => S2 a ∨ a = L) st2.wd y
        have er3 : EnvR K Z3 H3 (wipeE ρ2 own) (L2.wipe σ own) S2 := er2.move st3.zz (fun a o _ e => k3 a o e) fun _ x => x
        have w3' : Wd Z3 H3 (fun a => S2 a ∨ Fp0 a) := st3.wd.less fun a x => x.elim .inl False.elim
        refine ⟨Z3, wipeE ρ2 own, S2, Fp0, ds[i], w3', fun _ _ x => x, er3, r3, ?_⟩
        simp only [dcIt] at ci
        cases e3 : g ds[i] (wipeE ρ2 own) with
        | stuck => rw [e3] at ci; cases ci
        | exc x ρ3 => rw [e3] at ci; cases ci
        | ok u ρ3 =>
          simp only [e3] at ci
          intro σ4 Z4 H4 S4 kp4 st4 er4
          have hw4 : L2.wipe σ4 own = L2.wipe σ own := (wipe_keep kp4).trans wipe_wipe
          refine ⟨hw4, ?_⟩
          obtain ⟨F, hF⟩ : ∃ F : Fp, F = fun a => a = L := ⟨_, rfl⟩
          have inL : F L := by rw [hF]
          have dF : ∀ a, S2 a → F a → False := fun a x y => dj2 a x (by rw [hF] at y; exact y)
          have w3F : Wd Z3 H3 (fun a => S2 a ∨ F a) := by rw [hF]; exact st3.wd
          have st13 : Step Z1 H1 S1 Z3 H3 (fun a => S2 a ∨ F a) := by rw [hF]; exact st2.trans st3
          have st4' : Step Z3 H3 S2 Z4 H4 S4 := (Step.less (Step.refl (w3F.less fun a x => .inl x)) (S2 := fun a => S2 a ∨ Fp0 a) (fun a x => x.elim id False.elim)).trans st4
          have st4F := st4'.frame w3F dF
          have dF4 := st4'.apart (fun a x => w3F.live a (.inr x)) dF
          have ra3 : RepL K Z3 H3 xs ys Fp0 := ra.move st3.zz (fun _ _ x => x.elim) fun _ x => x
          have ra4 : RepL K Z4 H4 xs ys Fp0 := ra3.move st4'.zz (fun _ _ x => x.elim) fun _ x => x
          have hy4 : H4 L = some (.dK (ks.zip ys)) := st4'.fr L _ (fun x => dF L x inL) (k3 _ _ hys) nt_dK
          refine ⟨Z4, ρ3, S4, st4.wd, er4, ?_⟩
          cases e4 : c ρ3 with
          | stuck => rw [e4] at ci; cases ci
          | exc x ρ4 => rw [e4] at ci; cases ci
          | ok t ρ4 =>
            intro Z5 H5 S5 st5 er5
            have st5F := st5.frame st4F.wd dF4
            have dF5 := st5.apart (fun a x => st4F.wd.live a (.inr x)) dF4
            have ra5 : RepL K Z5 H5 xs ys Fp0 := ra4.move st5.zz (fun _ _ x => x.elim) fun _ x => x
            have hy5 : H5 L = some (.dK (ks.zip ys)) := st5.fr L _ (fun x => dF4 L x inL) hy4 nt_dK
            have st15 : Step Z1 H1 S1 Z5 H5 (fun a => S5 a ∨ F a) := (st13.trans st4F).trans st5F
            cases t with
            | false =>
              rw [if_neg Bool.false_ne_true]
              simp only [e4] at ci
              refine ⟨Z5, ρ4, S5, ks, xs, ys, by rw [hF] at st15; exact st15, fun a x y => dF5 a x (by rw [hF]; exact y), ?_, hy5, hlen, ra5, by omega, ci⟩
              have q := er5.wipe (own := own)
              rw [hw4] at q
              exact q
            | true =>
              rw [if_pos rfl]
              simp only [e4] at ci
              refine ⟨Z5, ρ4, S5, st5.wd, er5, ?_⟩
              cases e5 : ek ρ4 with
              | stuck => rw [e5] at ci; cases ci
              | exc x ρ5 => rw [e5] at ci; cases ci
              | ok k1 ρ5 =>
                simp only [e5] at ci
                intro yk Z6 H6 S6 Sd st6' dj6 er6 r6
                cases e6 : (peek1 ρ5 k1).bind keyOf with
                | none => simp only [e6] at ci; cases ci
                | some key =>
                  simp only [e6] at ci
                  obtain ⟨kd, hkd, hkey⟩ := Option.bind_eq_some_iff.mp e6
                  have hyk : yk = kV key := keyOf_rep hkey (peek1_rep er6 r6 hkd)
                  have st6 : Step Z5 H5 S5 Z6 H6 S6 := st6'.less fun a x => .inl x
                  have st6F := st6.frame st5F.wd dF5
                  have dF6 := st6.apart (fun a x => st5F.wd.live a (.inr x)) dF5
                  have ra6 : RepL K Z6 H6 xs ys Fp0 := ra5.move st6.zz (fun _ _ x => x.elim) fun _ x => x
                  have hy6 : H6 L = some (.dK (ks.zip ys)) := st6.fr L _ (fun x => dF5 L x inL) hy5 nt_dK
                  have st16 := st15.trans st6F
                  refine ⟨Z6, ρ5, S6, st6.wd, er6, ?_⟩
                  cases e7 : ev ρ5 with
                  | stuck => rw [e7] at ci; cases ci
                  | exc x ρ6 => rw [e7] at ci; cases ci
                  | ok v1 ρ6 =>
                    simp only [e7] at ci
                    intro z Z7 H7 S7 Se st7' dj7 er7 r7
                    cases e8 : peek1 ρ6 v1 with
                    | none => simp only [e8] at ci; cases ci
                    | some d' =>
                      simp only [e8] at ci
                      by_cases hz : d'.plain = true ∧ ks.length < cap
                      · rw [if_pos hz] at ci
                        obtain ⟨hp, hcap⟩ := hz
                        have rz : Rep K Z7 H7 d' z Fp0 := (peek1_rep er7 r7 e8).plain hp
                        have st7 : Step Z6 H6 S6 Z7 H7 S7 := st7'.less fun a x => .inl x
                        have st7F := st7.frame st6F.wd dF6
                        have dF7 := st7.apart (fun a x => st6F.wd.live a (.inr x)) dF6
                        have ra7 : RepL K Z7 H7 xs ys Fp0 := ra6.move st7.zz (fun _ _ x => x.elim) fun _ x => x
                        have hy7 : H7 L = some (.dK (ks.zip ys)) := st7.fr L _ (fun x => dF6 L x inL) hy6 nt_dK
                        have st17 := st16.trans st7F
                        have hl : (ks.zip ys).length < sizeLine := by
                          rw [List.length_zip, sizeLine_eq]
                          have : ks.length < 1000000 := hcap
                          omega
                        refine ⟨_, key, hyk, hy7, hl, ?_⟩
                        rw [putK_zip key z ks ys hlen]
                        have st8 : Step Z7 H7 (fun a => S7 a ∨ F a) Z7 (upd H7 L (.dK ((putKs ks key).zip (putL ks ys key z)))) (fun a => S7 a ∨ F a) := Step.write st17.wd (.inr inL)
                        refine ⟨Z7, ρ6, S7, putKs ks key, putL ks xs key d', putL ks ys key z, ?_, ?_, ?_, upd_same, putL_len ks ys key z hlen, ?_, by omega, ci⟩
                        · have q := st17.trans st8
                          rw [hF] at q
                          exact q
                        · exact fun a x y => dF7 a x (by rw [hF]; exact y)
                        · have q := er7.wipe (own := own)
                          rw [hw4] at q
                          exact q.move (Same.refl _) (fun a o t q => by rw [upd_ne fun z => dF7 a t (by rw [z]; exact inL)]; exact q) fun _ x => x
                        · exact putL_rep (rz.move (Same.refl _) (fun _ _ x => x.elim) fun _ x => x) (ra7.move (Same.refl _) (fun _ _ x => x.elim) fun _ x => x)
                      · rw [if_neg hz] at ci
                        cases ci
      · refine .inl ⟨w3 i (by omega), ?_⟩
        rw [List.drop_eq_nil_of_le (by omega)] at ci
        simp only [dcIt, Res.ok.injEq, Prod.mk.injEq] at ci
        obtain ⟨⟨rfl, rfl⟩, rfl⟩ := ci
        have er2' := wipeE_back er1 st2.zz (own := own) er2.unwipe
        exact o (.ref L) Z2 H2 S2 (fun a => a = L) (st.trans st2) dj2 er2' ⟨L, ys, Fp0, rfl, ⟨hlen, hys⟩, rfl, fun x => x, fun _ x => x.elim, ra⟩
variable {tg iter : Expr} {pos : Pos}
theorem ps_setDc {i : Nat} {y : Str} {py : Pos} {kx vx tg iter : Expr} {ifs : List Expr} {scope : Scope} {own : List (Str × Nat)} {pos spos : Pos} {wi : TI} {g : TG} {tt : TT} {tk tv : TE} (hc : X.calm = true) (hN : X.N.Nodup) (hy : X.N[i]? = some y) (hyl : X.env.scope.names.lookup y = some .local)
    (hsw : swapsWith (.DictComp kx vx [⟨tg, iter, ifs, 0⟩] scope pos) (some (.Name y py)) spos.line X.env = pure true) (hi : PI X tg iter wi) (ok : BlkOk X.N X.env.scope scope own)
    (hg : ∀ (s : Shared) (H : Hp) (C : Addr) (cl : List (Str × Addr)) (fp : List Addr), PG (X.blk s H scope (compEnvC scope cl C X.env) fp) tg g) (ht : ∀ (s : Shared) (H : Hp) (C : Addr) (cl : List (Str × Addr)) (fp : List Addr), PTs (X.blk s H scope (compEnvC scope cl C X.env) fp) ifs tt)
    (hk : ∀ (s : Shared) (H : Hp) (C : Addr) (cl : List (Str × Addr)) (fp : List Addr), PE (X.blk s H scope (compEnvC scope cl C X.env) fp) kx tk)
    (he : ∀ (s : Shared) (H : Hp) (C : Addr) (cl : List (Str × Addr)) (fp : List Addr), PE (X.blk s H scope (compEnvC scope cl C X.env) fp) vx tv) (hs : ∀ x, foldedSetIterable iter X.env x = pure x := by intro _; rfl) :
    PS X (.Assign [.Name y py] (.DictComp kx vx [⟨tg, iter, ifs, 0⟩] scope pos) spos) (tAsg (tDc wi g tt tk tv (own.map (·.2))) (gName i)) := by
  refine ⟨fun pins s σ H D I h => ?_⟩
  rw [exec_Assign_Name_used _ _ _ _ hsw]
  refine wpAny_bind (wpAny_standAt (wpAny_bind ?_))
  show wpAny _ X.A (do let _ ← comprehension (.DictComp kx vx [⟨tg, iter, ifs, 0⟩] scope pos) scope X.env (firstIterPos [⟨tg, iter, ifs, 0⟩] pos) newDict false (eval iter X.env) (some (assign (.Name y py) X.env))) _ _ s
  have h : tDc wi g tt tk tv (own.map (·.2)) σ H (fun x H1 => gName i x σ H1 D.nx) := h
  refine wpAny_bind (thn (dc_core (Qf := fun _ s' => SP X pins D .next s') hc hN I hi ok hg ht hk he hs h fun L C s' m H' I' q hn f => ?_) fun _ s' hq => wpAny_pure (wpAny_pure hq))
  show wpAny _ _ (assign (.Name y py) X.env (.ref L)) _ _ _
  refine wpAny_assign_Name (store_ok2 (v := V.ref L) I' hN hy (.inl hyl) rfl (fun s2 I2 ⟨a, sb, ha⟩ => ?_) (.inr hyl))
  obtain ⟨f0, f1, f2, f3, f4, f5⟩ := f
  have haC : C ≠ a := by
    rcases ha with z | z
    · rw [z]; exact f1
    · exact fun e => f4 y a z e.symm
  refine ⟨m, hn.sameBut sb haC, fun h3 sb3 => ?_⟩
  exact ⟨_, H', I2.turned (t' := s2.toks) (fun b o hb e => (sb3.2 b hb).trans e) f0 f1 f3 f4 f5, q⟩
theorem S_dc {i : Nat} {y : Str} {py spos : Pos} {kx vx : Expr} {ifs : List Expr} {scope : Scope} {own : List (Str × Nat)} {s : M (List D)} {g : Tg} {cc : M Bool} {ek ev : M EV} (hN : X.N.Nodup) (hi : PI X tg iter (tI X.K X.mg W s)) (ok : BlkOk X.N X.env.scope scope own)
    (hg : ∀ (s : Shared) (H : Hp) (C : Addr) (cl : List (Str × Addr)) (fp : List Addr), PG (X.blk s H scope (compEnvC scope cl C X.env) fp) tg (tG X.K (ownA own) g)) (ht : ∀ (s : Shared) (H : Hp) (C : Addr) (cl : List (Str × Addr)) (fp : List Addr), PTs (X.blk s H scope (compEnvC scope cl C X.env) fp) ifs (tT X.K X.mg wF cc))
    (hk : ∀ (s : Shared) (H : Hp) (C : Addr) (cl : List (Str × Addr)) (fp : List Addr), PE (X.blk s H scope (compEnvC scope cl C X.env) fp) kx (tE X.K X.mg wF ek)) (he : ∀ (s : Shared) (H : Hp) (C : Addr) (cl : List (Str × Addr)) (fp : List Addr), PE (X.blk s H scope (compEnvC scope cl C X.env) fp) vx (tE X.K X.mg wF ev))
    (hc : X.calm = true := by rfl) (hs : ∀ x, foldedSetIterable iter X.env x = pure x := by intro _; rfl)
    (hA : A i = true := by rfl) (hy : X.N[i]? = some y := by rfl) (hyl : X.env.scope.names.lookup y = some .local := by rfl) (hsw : swapsWith (.DictComp kx vx [⟨tg, iter, ifs, 0⟩] scope pos) (some (.Name y py)) spos.line X.env = pure true := by rfl) :
    PS X (.Assign [.Name y py] (.DictComp kx vx [⟨tg, iter, ifs, 0⟩] scope pos) spos) (tS X.K X.mg W A (asg (dcomp (own.map (·.2)) s g cc ek ev) (gN i))) :=
  PS.of (ps_setDc hc hN hy hyl hsw hi ok hg ht hk he hs) fun D σ H q => by
    have q1 := tS_asg q
    refine tE_dcomp (Q := _) ?_
    exact tE_mono (fun v H1 r => tG_N hA r) q1
end
end Pm
set_option maxHeartbeats 2000000
namespace Pm
open PySem PySem.Spec PyProof.Rows L2
section
variable {K : PySem.W.Frag} {mg : Str → Option Value} {W : WX} {Z H : Hp} {S : Fp} {σ : Sl} {X : Cx} {A : Nat → Bool}
/-- a property as its class knows it -/
structure PDef (P : Program) (w : World) (K : PySem.W.Frag) (mg : Str → Option Value) (base : Heap) (k : Nat) (C : Addr) (f : Str) (p a : Addr) (fd : FuncData) (g : FSem) : Prop where
  ok : FnG P w K mg base k a fd ["self"] g
  pr : PropOf K C f p a
  bd : Binds K fd ["self"] []
/-- what does not raise -/
def noX (g : FSem) : FSem := fun ds => match g ds with
  | .exc _ _ => .stuck
  | r => r
theorem spG_noX {g : FSem} {vs : List V} {Q : VK} {E : L2.XK} (h : spG K mg (noX g) vs H Q E) : spG K mg g vs H Q fun _ _ _ => False := by
  obtain ⟨Z, S, ds, mk, w, r, o⟩ := h
  refine ⟨Z, S, ds, mk, w, r, ?_⟩
  unfold noX at o
  cases e : g ds with
  | stuck => rw [e] at o; exact o
  | ret d as => rw [e] at o; exact o
  | exc x as => rw [e] at o; exact o.elim
theorem E_prop {k j : Nat} {n f : Str} {C p ga : Addr} {fd : FuncData} {g : FSem} {o : Expr} {fo : M EV} {pos : Pos} (hC : reg X.K n = some C) (c : Cls X.K C) (F : PDef X.prog X.w X.K X.mg X.base k C f p ga fd g) (ft : Fit X W j) (ho : PE X o (tE X.K X.mg W fo)) (hk : k + 1 ≤ j := by first | decide | omega)
    (hab : attributeBase o f X.env (eval o X.env) = eval o X.env := by rfl) :
    PE X (.Attribute o f pos) (tE X.K X.mg W (callF (noX g) (aCons (chk n f fo) aNil))) := by
  refine ⟨fun pins s σ H Q I h => ?_⟩
  have q0 := tE_chk (tA_cons (tE_call h))
  refine attr_of hab (thn (ho.run pins s σ H _ I q0) fun u s1 ⟨x, H1, I1, rx, ⟨a, C', dx, kvs, ex, hr, ea, l⟩, q⟩ => ?_)
  subst ex
  rw [hC] at hr
  cases hr
  obtain rfl : u = Value.ref a := rx
  have q' := spG_noX (tA_nil q)
  obtain ⟨mA, O, _, _, _, _⟩ := ins_get I1.hok ea
  obtain ⟨od, J, _⟩ := O.look
  obtain ⟨rest, hrec⟩ := F.pr.rec_
  have I2 := I1.tok (s1.toks + 1)
  have hc : (PySem.W.clsIn X.K C).isSome = true := by
    obtain ⟨cd, hc, _⟩ := PySem.W.any_some c.hd
    rw [hc]
    rfl
  have hroom := ft.room.mono hk
  refine PySem.W.get_bind I1.kIn J (PySem.W.plainGet_of (c.get f)).1 (PySem.W.findObj_data hc F.pr.at_ F.pr.get F.pr.tak) (PySem.W.plainGet_of (c.get f)).2 (wpAny_call (PySem.W.prop_get (s := { s1 with toks := s1.toks + 1 }) I1.kIn hrec ?_))
  refine codeAny_mono (F.ok.run X.A.in1 X.stack { s1 with toks := s1.toks + 1 } H1 ⟨[.ref a], []⟩ [.ref a] [V.ref a] _ _ (by first | exact ft.gd | (simpa [Around.in1] using ft.gd)) hroom.in1 I2.env0.in1 (F.bd _ [.ref a] I2.kIn rfl) (.cons rfl .nil) q') fun r s' hq => ?_
  cases r with
  | error e =>
    obtain ⟨_, _, _, _, _, _, _, _, _, _, _, _, hE⟩ := hq
    exact hE.elim
  | ok fl =>
    cases fl with
    | ret u =>
      obtain ⟨v, H', I3, rv, q3⟩ := I2.after hq
      show wpAny _ _ (handedOut u) _ _ _
      rw [PySem.W.handedOut_of (handed_of rv)]
      exact wpAny_pure ⟨v, H', I3, rv, q3⟩
    | next => exact False.elim hq
    | brk => exact False.elim hq
    | cont => exact False.elim hq
end
end Pm
set_option maxHeartbeats 2000000
namespace Pm
open PySem PySem.Spec PyProof.Rows L2
/-- the arguments of a setter: the value is worked out first -/
def setPA (j : Nat) (n f : Str) (fe : M EV) : M (List EV) := fun ρ => match fe ρ with
  | .ok ev ρ1 => (match ρ1.getD j none with
    | some (.node _ (.ins n' fs) _) => if n' = n ∧ f ∉ fs then .ok [.ref j, ev] ρ1 else .stuck
    | _ => .stuck)
  | .exc x ρ1 => .exc x ρ1
  | .stuck => .stuck
def setP (j : Nat) (n f : Str) (g : FSem) (fe : M EV) : M Fl := drp (callF g (setPA j n f fe))
section
variable {K : PySem.W.Frag} {mg : Str → Option Value} {W : WX} {Z H : Hp} {S : Fp} {σ : Sl} {X : Cx} {A : Nat → Bool}
theorem tA_setP {j : Nat} {n f : Str} {fe : M EV} {R : List V → Hp → Prop} (h : tA K mg W (setPA j n f fe) σ H R) : tE K mg W fe σ H fun y H1 => ∃ (a C dx : Addr) (kvs : List (Str × V)), σ[j]? = some (some (.ref a)) ∧ reg K n = some C ∧ H1 a = some (.ins C dx kvs) ∧ R [.ref a, y] H1 := by
  obtain ⟨Z, ρ, S, w, er, o⟩ := h
  refine ⟨Z, ρ, S, w, er, ?_⟩
  unfold setPA at o
  cases e1 : fe ρ with
  | stuck => simp only [e1] at o; exact o.elim
  | exc x ρ1 => simp only [e1] at o; exact o
  | ok ev ρ1 =>
    simp only [e1] at o
    intro y Z1 H1 S1 Sa st1 dj1 er1 r1
    split at o
    · rename_i b n' fs xs hd
      split at o
      · rename_i hn
        obtain ⟨rfl, hf⟩ := hn
        obtain ⟨u, U1, U2, hv, u1, u2, uj, ru, eu⟩ := er1.take (getD_some hd)
        obtain ⟨a, C, dx, ys, S3, rfl, h1, h2, h3, _⟩ := ins_at st1.wd.same ru
        exact ⟨a, C, dx, _, hv, h1, h3, o [.ref a, y] Z1 H1 S1 Sa st1 dj1 er1 ⟨Fp0, Sa, fun _ x => x.elim, fun _ x => x, fun _ x _ => x, hv, ⟨Sa, Fp0, fun _ x => x, fun _ x => x.elim, fun _ _ x => x, r1, trivial⟩⟩⟩
      · exact o.elim
    · exact o.elim
/-- a setter as its class knows it -/
structure SDef (P : Program) (w : World) (K : PySem.W.Frag) (mg : Str → Option Value) (base : Heap) (k : Nat) (C : Addr) (f : Str) (p a : Addr) (fd : FuncData) (v : Str) (g : FSem) : Prop where
  ok : FnG P w K mg base k a fd ["self", v] g
  tk : PySem.W.takerIn K C f = some (some (.ref p))
  ty : PySem.W.typeIn K (.ref p) = some (.type "property")
  rc : ∃ (x : Value) (rest : List Value), PySem.W.recIn K p "property" = some (x :: .ref a :: rest)
  bd : Binds K fd ["self", v] []
theorem S_setP {k jj j : Nat} {n f x v : Str} {C p ga : Addr} {fd : FuncData} {g : FSem} {fe : M EV} {e : Expr} {p2 pos' pos : Pos} (hC : reg X.K n = some C) (c : Cls X.K C) (F : SDef X.prog X.w X.K X.mg X.base k C f p ga fd v g) (ft : Fit X W jj) (he : PE X e (tE X.K X.mg W fe)) (hk : k + 2 ≤ jj := by first | decide | omega) (hj : X.N[j]? = some x := by rfl) (hv : Vis X.env.scope x := by first | exact Or.inl rfl | exact Or.inr (Or.inl rfl) | exact Or.inr (Or.inr rfl)) (hd : (x == ("__debug__" : Str)) = false := by decide) (hcd : (x == ("__classdict__" : Str)) = false := by decide)
    (hs : swapsWith e (some (.Attribute (.Name x p2) f pos')) pos.line X.env = pure false := by rfl) : PS X (.Assign [.Attribute (.Name x p2) f pos'] e pos) (tS X.K X.mg W A (setP j n f g fe)) := by
  refine ⟨fun pins s σ H D I h => ?_⟩
  have q0 := tA_setP (tE_call (tS_drp h))
  refine plainObj_wpAny_Assign_Attribute (thn (he.run pins s σ H _ I q0) fun u s1 ⟨y, H1, I1, ry, a, C', dx, kvs, hσ, hr, ea, q⟩ => thn ((pe_var hj hv hd hcd).run pins s1 σ H1 (fun z H2 => z = .ref a ∧ H2 = H1) I1 ⟨.ref a, hσ, rfl, rfl⟩) fun ov s2 ⟨z, H2, I2, rz, ez, eH⟩ => ?_) hs
  subst ez eH
  rw [hC] at hr
  cases hr
  obtain rfl : ov = Value.ref a := rz
  obtain ⟨mA, O, _, _, _, _⟩ := ins_get I2.hok ea
  obtain ⟨od, J, _⟩ := O.look
  obtain ⟨x0, rest, hrec⟩ := F.rc
  have I3 := I2.tok (s2.toks + 1)
  have hroom := ft.room.mono hk
  refine PySem.W.set_plain I2.kIn J c.sa (PySem.W.osa_descr (s := { s2 with toks := s2.toks + 1 }) PySem.W.KF.slot_pset I2.kIn J c.po F.tk F.ty (PySem.W.prop_set (s := { s2 with toks := s2.toks + 1 }) I2.kIn hrec ?_))
  refine codeAny_mono (F.ok.run X.A.in1.in1 X.stack { s2 with toks := s2.toks + 1 } H2 ⟨[.ref a, u], []⟩ [.ref a, u] [V.ref a, y] _ _ (by first | exact ft.gd | (simpa [Around.in1] using ft.gd)) hroom.in1.in1 I3.env0.in1.in1 (F.bd _ [.ref a, u] I3.kIn rfl) (.cons rfl (.cons ry .nil)) q) fun r s' hq => ?_
  cases r with
  | error e => exact passAt ft.tk σ pins _ _ e s' I3 hq
  | ok fl =>
    cases fl with
    | ret u =>
      obtain ⟨v, H', I4, rv, q3⟩ := I3.after hq
      exact ⟨σ, _, I4, q3⟩
    | next => exact False.elim hq
    | brk => exact False.elim hq
    | cont => exact False.elim hq
end
end Pm
set_option maxHeartbeats 2000000
namespace Pm
open PySem PySem.Spec PyProof.Rows L2
/-- gives a whole number -/
def conS (n : Int) : FSem := fun ds => .ret (.int n) ds
section
variable {K : PySem.W.Frag} {mg : Str → Option Value} {W : WX} {Z H : Hp} {S : Fp} {σ : Sl} {X : Cx} {A : Nat → Bool}
theorem spG_conS {n : Int} {vs : List V} {Q : VK} {E : L2.XK} (h : spG K mg (conS n) vs H Q E) : Q (.int n) H := by
  obtain ⟨Z, S, ds, mk, w, r, o⟩ := h
  exact o (.int n) Z H S Fp0 ((Step.refl w).less fun a q => q.elim id fun z => z.elim) (fun _ _ z => z.elim) r rfl
/-- C.f is a whole number -/
structure CInt (K : PySem.W.Frag) (C : Addr) (f : Str) (n : Int) : Prop where
  at_ : ∃ t, PySem.W.findIn K (.ref C) f = some (some (.int n t)) ∧ PySem.W.specialIn K (.int n t) "__get__" = some none
  cp : PySem.W.copiedNames.contains f = false
theorem E_ccon {n f : Str} {C : Addr} {i : Int} {o : Expr} {fo : M EV} {pos : Pos} (hC : reg X.K n = some C) (c : Cls X.K C) (F : CInt X.K C f i) (ho : PE X o (tE X.K X.mg W fo))
    (hab : attributeBase o f X.env (eval o X.env) = eval o X.env := by rfl) :
    PE X (.Attribute o f pos) (tE X.K X.mg W (callF (conS i) (aCons (chk n f fo) aNil))) := by
  refine ⟨fun pins s σ H Q I h => ?_⟩
  have q0 := tE_chk (tA_cons (tE_call h))
  refine attr_of hab (thn (ho.run pins s σ H _ I q0) fun u s1 ⟨x, H1, I1, rx, ⟨a, C', dx, kvs, ex, hr, ea, l⟩, q⟩ => ?_)
  subst ex
  rw [hC] at hr
  cases hr
  obtain rfl : u = Value.ref a := rx
  have q' := spG_conS (tA_nil q)
  obtain ⟨mA, O, rr, _, _, _⟩ := ins_get I1.hok ea
  have hn : mA f = none := RelO.none_of (by rw [← l]; exact rr f)
  obtain ⟨od, J, hl⟩ := O.look
  obtain ⟨t, ht, hg⟩ := F.at_
  exact PySem.W.get_value I1.kIn J (PySem.W.plainGet_of (c.get f)).1 (PySem.W.findObj_cls c.hd ht hg rfl F.cp (by rw [hl f, hn])) rfl ⟨.int i, H1, I1.tok _, ⟨_, rfl⟩, q'⟩
end
end Pm
namespace Pm
open PySem PySem.Spec PyProof.Rows L2
def frzE (f : M EV) : M EV := fun ρ => match f ρ with
  | .ok (.val d) ρ1 => .ok (.val d.frz) ρ1
  | r => r
section
variable {K : PySem.W.Frag} {mg : Str → Option Value} {W : WX} {Z H : Hp} {S : Fp} {σ : Sl} {X : Cx} {e : Expr} {fa : M EV}
theorem tE_frz {Q : VK} (h : tE K mg W (frzE fa) σ H Q) : tE K mg W fa σ H Q := by
  obtain ⟨Z, ρ, S, w, er, o⟩ := h
  refine ⟨Z, ρ, S, w, er, ?_⟩
  simp only [frzE] at o
  cases e1 : fa ρ with
  | stuck => rw [e1] at o; exact o
  | exc x ρ1 => rw [e1] at o; exact o
  | ok ev ρ1 =>
    rw [e1] at o
    cases ev with
    | ref i => exact o
    | val d =>
      intro v Z' H' S' Sd st dj er' r
      have w' := st.wd
      have stp : Step Z' H' (fun a => S' a ∨ Sd a) (thaw Z' H' Sd) H' (fun a => S' a ∨ Fp0 a) := Step.freeze w' (fun a x => .inr x) (fun a x => x.elim .inl fun y => y.elim) fun a x y => x.elim (fun t => dj a t y) fun t => t.elim
      have rf : Rep K (thaw Z' H' Sd) H' d.frz v Fp0 := Rep.frz (show Rep K Z' H' d v Sd from r) (fun a x => w'.sep a (.inr x)) fun _ x => x
      exact o v _ H' S' Fp0 (st.trans stp) (fun _ _ x => x) (er'.move stp.zz (fun _ _ _ x => x) fun _ x => x) rf
theorem E_frz (h : PE X e (tE X.K X.mg W fa)) : PE X e (tE X.K X.mg W (frzE fa)) := PE.of h fun _ _ _ q => tE_frz q
end
end Pm
namespace Rp
open PySem PySem.Spec PyProof.Rows L2 Pm
open Pg (sg rowD tabD abc_T rows_plain tabD_plain tabD_frz dr divS ABC get_sg perm_erase erase_map sorted_sg sgs_plain ix_nat tab_src join_sg)
open TL (numL joinL)
open Sc (Rws RowT)
noncomputable def b_Place____init__ : M Fl := (seq (setA 0 "Place" "mark" (loc 1))
    (seq (setA 0 "Place" "first_use" (loc 2))
    (seq (setA 0 "Place" "uses" (loc 3))
    (seq (setA 0 "Place" "first_strength" (Pm.bin (on2I iSub) (loc 4) (Pm.bin hMulT (loc 2) (loc 5))))
    (setA 0 "Place" "loss" (Pm.bin hMulT (loc 3) (loc 5)))))))
noncomputable def x_Place____init__ : FSem := mkF 6 6 [] b_Place____init__
noncomputable def b_places_of_1 : M Fl := (seq (Pm.ite (tst (Pm.bin (opDIn true) (loc 5) (loc 2))) (raise1 "UnknownOperator" "letter" (loc 5)) sNx)
    (seq (asg (Pm.bin opDGet (loc 2) (loc 5)) (gT (gsC (gN 6) (gsC (gN 7) gs0)) 2))
    (drp (appd 3 (makeC "Place" x_Place____init__ (aCons (loc 5) (aCons (smet1 opCountS (cut (loc 1) none (some (loc 4))) (loc 5)) (aCons (smet1 opCountS (loc 1) (loc 5)) (aCons (loc 6) (aCons (loc 7) aNil))))))))))
noncomputable def b_places_of : M Fl := (seq (asg (dcomp [5, 6, 7] (srcA (loc 0)) (gT (gsC (gN 5) (gsC (gN 6) (gsC (gN 7) gs0))) 3) yesT (loc 5) (frzE (disp false .tup (aCons (loc 6) (aCons (loc 7) aNil))))) (gN 2))
    (seq (asg (disp true .lst aNil) (gN 3))
    (seq (forS (srcEnumS (loc 1)) (gT (gsC (gN 4) (gsC (gN 5) gs0)) 2) b_places_of_1)
    (rtn (mov 3)))))
noncomputable def x_places_of : FSem := mkF 2 8 [] b_places_of
theorem putN_new {f : Str} : ∀ {fs : List Str}, f ∉ fs → putN f fs = fs ++ [f]
  | [], _ => rfl
  | g :: fs, h => by
    have h1 : ¬ g = f := fun e => h (by rw [e]; exact List.mem_cons_self)
    have h2 := putN_new (f := f) (fs := fs) fun q => h (List.mem_cons_of_mem _ q)
    simp [putN, h1, h2]
theorem putX_new {f : Str} {d : D} : ∀ {fs : List Str} {xs : List D}, f ∉ fs → fs.length = xs.length → putX f d fs xs = xs ++ [d]
  | [], [], _, _ => rfl
  | [], _ :: _, _, h => by simp at h
  | _ :: _, [], _, h => by simp at h
  | g :: fs, x :: xs, h, hl => by
    have h1 : ¬ g = f := fun e => h (by rw [e]; exact List.mem_cons_self)
    have h2 := putX_new (f := f) (d := d) (fs := fs) (xs := xs) (fun q => h (List.mem_cons_of_mem _ q)) (by simpa using hl)
    simp [putX, h1, h2]
theorem setA_new {i : Nat} {n f : Str} {fe : M EV} {ρ ρ1 ρ2 : Pm.Env} {ev : EV} {d : D} {fs : List Str} {xs : List D} (hf : fe ρ = .ok ev ρ1) (hu : use1 ev ρ1 = .ok d ρ2) (h : ρ2.getD i none = some (.node true (.ins n fs) xs)) (nf : f ∉ fs) (hl : fs.length = xs.length) (h9 : fs.length < 900) :
    setA i n f fe ρ = .ok .nx (ρ2.set i (some (.node true (.ins n (fs ++ [f])) (xs ++ [d])))) := by
  unfold setA
  simp only [bnd, hf, hu, h]
  rw [if_pos (by first | exact ⟨rfl, h9, hl⟩ | exact ⟨trivial, h9, hl⟩), putN_new nf, putX_new nf hl]
theorem setA_int {i : Nat} {n f : Str} {fe : M EV} {ρ : Pm.Env} {k : Int} {fs : List Str} {xs : List D} (hf : fe ρ = .ok (.val (.int k)) ρ) (h : ρ.getD i none = some (.node true (.ins n fs) xs)) (nf : f ∉ fs) (hl : fs.length = xs.length) (h9 : fs.length < 900) :
    setA i n f fe ρ = .ok .nx (ρ.set i (some (.node true (.ins n (fs ++ [f])) (xs ++ [.int k])))) := setA_new hf rfl h nf hl h9
/-- a place: mark, uses before it, uses, strength and step of the mark -/
def plD (b : Bool) (c : Nat) (fu us : Nat) (st lo : Int) : D := .node b (.ins "Place" ["mark", "first_use", "uses", "first_strength", "loss"]) [sg c, .int (fu : Int), .int (us : Int), .int (st - fu * lo), .int (us * lo)]
theorem place_ok {c fu us : Nat} {st lo : Int} (h1 : fu ≤ 1000) (h2 : us ≤ 1000) (h3 : -1000000000000 ≤ lo) (h4 : lo ≤ 1000000000000) :
    x_Place____init__ [.node true (.ins "Place" []) [], sg c, .int (fu : Int), .int (us : Int), .int st, .int lo] = .ret .non [plD true c fu us st lo, sg c, .int (fu : Int), .int (us : Int), .int st, .int lo] := by
  have m1 : hMulT [.int (fu : Int), .int lo] = some (.int (fu * lo)) := by
    rw [hMulT_ii]
    exact mulL (by omega)
  have m2 : hMulT [.int (us : Int), .int lo] = some (.int (us * lo)) := by
    rw [hMulT_ii]
    exact mulL (by omega)
  have hw : Wf x_Place____init__ [.node true (.ins "Place" []) [], sg c, .int (fu : Int), .int (us : Int), .int st, .int lo] fun d as => d = .non ∧ as = [plD true c fu us st lo, sg c, .int (fu : Int), .int (us : Int), .int st, .int lo] := by
    unfold x_Place____init__
    refine wf_mkF ?_
    unfold b_Place____init__
    show Wp _ [some (.node true (.ins "Place" []) []), some (sg c), some (.int (fu : Int)), some (.int (us : Int)), some (.int st), some (.int lo)] _
    have e4 : Pm.bin (on2I iSub) (loc 4) (Pm.bin hMulT (loc 2) (loc 5)) = Pm.bin (on2I iSub) (loc 4) (Pm.bin hMulT (loc 2) (loc 5)) := rfl
    refine wp_seq fun K k1 k2 k3 k4 => ?_
    refine Wp.of (setA_new rfl rfl rfl (by decide) rfl (by decide)) (k1 _ ?_)
    clear k1 k2 k3 k4 K
    refine wp_seq fun K k1 k2 k3 k4 => ?_
    refine Wp.of (setA_new rfl rfl rfl (by decide) rfl (by decide)) (k1 _ ?_)
    clear k1 k2 k3 k4 K
    refine wp_seq fun K k1 k2 k3 k4 => ?_
    refine Wp.of (setA_new rfl rfl rfl (by decide) rfl (by decide)) (k1 _ ?_)
    clear k1 k2 k3 k4 K
    refine wp_seq fun K k1 k2 k3 k4 => ?_
    refine Wp.of (setA_int (fs := ["mark", "first_use", "uses"]) (xs := [sg c, .int (fu : Int), .int (us : Int)]) (k := st - fu * lo) ?_ rfl (by decide) rfl (by decide)) (k1 _ ?_)
    · generalize hMulT = HM at *
      simp [mkF, reFrz, seq, Pm.ite, rtn, mov, asg, drp, sNx, bnd, Pm.bin, Pm.un, app, aCons, aNil, idx, loc, con, Pm.ret, peek1, peeks, itemOf, on2I, iAdd, iSub, iGt, iGe, iLt, iLe, iDiv, iMod, use1, useL, gI, gN, tst, andT, orT, notT, andE, orE, notE, ifE, ixN, D.frz, D.plain, plainL, argsBack, opLen, opAbs, opInt1, opNeg, disp, cap, callF, takes, puts, selA, sel, aApp, par, gT, gsC, gs0, appF, opDivmod, frzL, plainL, m1]
    clear k1 k2 k3 k4 K
    refine Wp.of (setA_int (fs := ["mark", "first_use", "uses", "first_strength"]) (xs := [sg c, .int (fu : Int), .int (us : Int), .int (st - fu * lo)]) (k := us * lo) ?_ rfl (by decide) rfl (by decide)) ?_
    · generalize hMulT = HM at *
      simp [mkF, reFrz, seq, Pm.ite, rtn, mov, asg, drp, sNx, bnd, Pm.bin, Pm.un, app, aCons, aNil, idx, loc, con, Pm.ret, peek1, peeks, itemOf, on2I, iAdd, iSub, iGt, iGe, iLt, iLe, iDiv, iMod, use1, useL, gI, gN, tst, andT, orT, notT, andE, orE, notE, ifE, ixN, D.frz, D.plain, plainL, argsBack, opLen, opAbs, opInt1, opNeg, disp, cap, callF, takes, puts, selA, sel, aApp, par, gT, gsC, gs0, appF, opDivmod, frzL, plainL, m2]
    · exact ⟨_, rfl, rfl, rfl⟩
  obtain ⟨d, as, e, rfl, rfl⟩ := hw
  exact e
end Rp
namespace Rp
open PySem PySem.Spec PyProof.Rows L2 Pm
open Pg (sg rowD tabD abc_T rows_plain tabD_plain tabD_frz dr divS ABC get_sg perm_erase erase_map sorted_sg sgs_plain ix_nat tab_src join_sg)
open TL (numL joinL)
open Sc (Rws RowT)
def keyR (c : Nat) : Key := .inr (T [c])
def keysT (t : List RowT) : List Key := t.map fun r => keyR r.1
def valsT (t : List RowT) : List D := t.map fun r => .tup [.int r.2.1, .int r.2.2]
theorem keyR_inj {a b : Nat} (h : keyR a = keyR b) : a = b := by
  have h1 : T [a] = T [b] := by
    injection h
  have h2 := T_inj h1
  simpa using h2
theorem putKs_new {ks : List Key} {k : Key} (h : k ∉ ks) : putKs ks k = ks ++ [k] := by
  unfold putKs
  rw [if_neg]
  simp only [List.any_eq_true, decide_eq_true_eq, not_exists, not_and]
  exact fun x hx e => h (by rw [← e]; exact hx)
theorem putL_new {ks : List Key} {xs : List D} {k : Key} {d : D} (h : k ∉ ks) : putL ks xs k d = xs ++ [d] := by
  unfold putL
  rw [if_neg]
  simp only [List.any_eq_true, decide_eq_true_eq, not_exists, not_and]
  exact fun x hx e => h (by rw [← e]; exact hx)
theorem dc_rows {TD : D} {x1 : Option D} : ∀ (s p : List RowT), (keysT (p ++ s)).Nodup → (p ++ s).length ≤ 1000 →
    dcIt [5, 6, 7] (gT (gsC (gN 5) (gsC (gN 6) (gsC (gN 7) gs0))) 3) yesT (loc 5) (frzE (disp false .tup (aCons (loc 6) (aCons (loc 7) aNil)))) (s.map rowD) [some TD, x1, none, none, none, none, none, none] (keysT p) (valsT p) = .ok (keysT (p ++ s), valsT (p ++ s)) [some TD, x1, none, none, none, none, none, none]
  | [], p, _, _ => by simp [dcIt]
  | r :: s, p, nd, hl => by
    have nk : keyR r.1 ∉ keysT p := fun h => by
      unfold keysT at nd h
      rw [List.map_append, List.map_cons] at nd
      exact (List.nodup_append.mp nd).2.2 _ h _ List.mem_cons_self rfl
    have e : p ++ r :: s = (p ++ [r]) ++ s := by simp
    have ih := dc_rows (TD := TD) (x1 := x1) s (p ++ [r]) (by rw [← e]; exact nd) (by rw [← e]; exact hl)
    have hc : (keysT p).length < cap := by
      rw [keysT, List.length_map]
      rw [List.length_append] at hl
      show _ < 1000000
      omega
    have e1 : keysT (p ++ [r]) = keysT p ++ [keyR r.1] := by simp [keysT]
    have e2 : valsT (p ++ [r]) = valsT p ++ [.tup [.int r.2.1, .int r.2.2]] := by simp [valsT]
    rw [e1, e2] at ih
    rw [e, List.map_cons]
    have g1 : gT (gsC (gN 5) (gsC (gN 6) (gsC (gN 7) gs0))) 3 (rowD r) [some TD, x1, none, none, none, none, none, none] = .ok () [some TD, x1, none, none, none, some (sg r.1), some (.int r.2.1), some (.int r.2.2)] := rfl
    have g2 : frzE (disp false .tup (aCons (loc 6) (aCons (loc 7) aNil))) [some TD, x1, none, none, none, some (sg r.1), some (.int r.2.1), some (.int r.2.2)] = .ok (.val (.tup [.int r.2.1, .int r.2.2])) [some TD, x1, none, none, none, some (sg r.1), some (.int r.2.1), some (.int r.2.2)] := rfl
    have g3 : (peek1 [some TD, x1, none, none, none, some (sg r.1), some (.int r.2.1), some (.int r.2.2)] (.ref 5)).bind keyOf = some (keyR r.1) := rfl
    have g4 : loc 5 [some TD, x1, none, none, none, some (sg r.1), some (.int r.2.1), some (.int r.2.2)] = .ok (.ref 5) [some TD, x1, none, none, none, some (sg r.1), some (.int r.2.1), some (.int r.2.2)] := rfl
    unfold dcIt
    simp only [g1, g2, g3, g4]
    have g5 : yesT [some TD, x1, none, none, none, some (sg r.1), some (.int r.2.1), some (.int r.2.2)] = .ok true [some TD, x1, none, none, none, some (sg r.1), some (.int r.2.1), some (.int r.2.2)] := rfl
    simp only [g5, g4, g3, g2]
    have g6 : peek1 [some TD, x1, none, none, none, some (sg r.1), some (.int r.2.1), some (.int r.2.2)] (.val (.tup [.int r.2.1, .int r.2.2])) = some (.tup [.int r.2.1, .int r.2.2]) := rfl
    simp only [g6]
    rw [if_pos ⟨rfl, hc⟩, putKs_new nk, putL_new nk]
    exact ih
theorem keys_nd {t : List RowT} (ht : Rws t) : (keysT t).Nodup := by
  have e : keysT t = (lets t).map keyR := by simp [keysT, lets]
  rw [e]
  have hp : (lets t).Pairwise (· < ·) := ht.asc
  refine List.Pairwise.map keyR (fun a b h q => ?_) hp
  have := keyR_inj q
  omega
theorem dict_ok {t : List RowT} (ht : Rws t) {x1 : Option D} :
    dcomp [5, 6, 7] (srcA (loc 0)) (gT (gsC (gN 5) (gsC (gN 6) (gsC (gN 7) gs0))) 3) yesT (loc 5) (frzE (disp false .tup (aCons (loc 6) (aCons (loc 7) aNil)))) [some (tabD t), x1, none, none, none, none, none, none]
      = .ok (.val (.node true (.dct (keysT t)) (valsT t))) [some (tabD t), x1, none, none, none, none, none, none] := by
  have hs : srcA (loc 0) [some (tabD t), x1, none, none, none, none, none, none] = .ok (t.map rowD) [some (tabD t), x1, none, none, none, none, none, none] := tab_src rfl rfl
  have h := dc_rows (TD := tabD t) (x1 := x1) t [] (by simpa using keys_nd ht) (by have := ht.n6; simp; omega)
  unfold dcomp
  simp only [bnd, hs]
  show (match dcIt [5, 6, 7] (gT (gsC (gN 5) (gsC (gN 6) (gsC (gN 7) gs0))) 3) yesT (loc 5) (frzE (disp false .tup (aCons (loc 6) (aCons (loc 7) aNil)))) (t.map rowD) [some (tabD t), x1, none, none, none, none, none, none] (keysT []) (valsT []) with
    | .ok (ks, xs) ρ' => Res.ok (EV.val (.node true (.dct ks) xs)) (backE _ ρ' [5, 6, 7])
    | _ => .stuck) = _
  rw [h]
  rfl
end Rp
namespace Pg
open PySem PySem.Spec PyProof.Rows L2 Pm
end Pg
namespace Pg
open PySem PySem.Spec PyProof.Rows L2 Pm
end Pg
namespace Pg
open PySem PySem.Spec PyProof.Rows L2 Pm
end Pg
namespace Pg
open PySem PySem.Spec PyProof.Rows L2 Pm
theorem rt_plain (p : Option Nat) : (rtD p).plain = true := by cases p <;> rfl
end Pg
set_option maxHeartbeats 1000000
namespace Pg
open PySem PySem.Spec PyProof.Rows L2 Pm
end Pg
namespace Pm
open PySem PySem.Spec PyProof.Rows L2
section
variable {K : PySem.W.Frag} {mg : Str → Option Value} {W : WX} {Z H : Hp} {S : Fp} {σ : Sl} {X : Cx} {p : Addr}
abbrev prs (K : PySem.W.Frag) (mg : Str → Option Value) (W : WX) (q : List (Key × M EV)) : List (TE × TE) := q.map fun kv => (tC (kV kv.1), tE K mg W kv.2)
end
end Pm
set_option maxHeartbeats 1000000
namespace Pm
open PySem PySem.Spec PyProof.Rows L2
theorem wp_nx {a b : M Fl} {ρ : Env} (ρ1 : Env) {Q : Fl → Env → Prop} (h : a ρ = .ok .nx ρ1) (q : Wp b ρ1 Q) : Wp (seq a b) ρ Q := wp_seq fun K k1 k2 k3 k4 => Wp.of h (k1 _ q)
def deckD (ns : List Int) (p l : Int) : D := .node true (.dct [.inr "cells", .inr "next", .inr "rest"]) [.node false .lst (ns.map D.int), .int p, .int l]
def Dk (ns : List Int) (a : Int) (z : D) : Prop := ∃ p l, z = deckD ns p l ∧ 0 ≤ p ∧ p ≤ a ∧ 0 ≤ l
def DrawsK (S : FSem) : Prop := ∀ (ns : List Int) (a m : Int) (z : D), ns.length ≤ 63 → Dk ns a z → a ≤ 1000000 → 0 < m → divOk m = true → ∃ (r : Int) (z' : D), S [z, .int m] = .ret (.int r) [z', .int m] ∧ 0 ≤ r ∧ r < m ∧ Dk ns (a + 1) z'
theorem Dk.mono {ns : List Int} {a b : Int} {z : D} (h : Dk ns a z) (hl : a ≤ b) : Dk ns b z := by
  obtain ⟨p, l, rfl, h1, h2, h3⟩ := h
  exact ⟨p, l, rfl, h1, by omega, h3⟩
theorem Dk.ow {ns : List Int} {a : Int} {z : D} (h : Dk ns a z) : z.plain = false := by
  obtain ⟨p, l, rfl, _⟩ := h
  rfl
end Pm
set_option maxHeartbeats 1000000
namespace Pg
open PySem PySem.Spec PyProof.Rows L2 Pm
/-- what waits, from the top on -/
def rest (W : List (Nat × Tr.LT)) : List Nat := W.reverse.flatMap fun q => q.1 :: q.2.lab
end Pg
set_option maxHeartbeats 1000000
namespace Pg
open PySem PySem.Spec PyProof.Rows L2 Pm
end Pg
namespace Pm
open PySem PySem.Spec PyProof.Rows L2
end Pm
set_option maxHeartbeats 1000000
namespace Pm
open PySem PySem.Spec PyProof.Rows L2 RZ
open PySem.Sem (wp)
end Pm
set_option maxHeartbeats 1000000
namespace Pm
open PySem PySem.Spec PyProof.Rows L2 RZ
open PySem.Sem (wp)
end Pm
namespace Pm
open PySem PySem.Spec PyProof.Rows L2
end Pm
set_option maxHeartbeats 1000000
namespace Pg
open PySem PySem.Spec PyProof.Rows L2 Pm
end Pg
namespace Ex
abbrev PP := List (Nat × Nat)
mutual
/-- the pairs by their opening signs -/
def Op.pr : Op → Nat → PP
  | .dot, _ => []
  | .par e, i => (i, i + 1 + e.text.length) :: E.pr e (i + 1)
def E.pr : E → Nat → PP
  | .one o, i => Op.pr o i
  | .cons o _ e, i => Op.pr o i ++ E.pr e (i + o.text.length + 1)
end
end Ex
set_option maxHeartbeats 1000000
namespace Pg
open PySem PySem.Spec PyProof.Rows L2 Pm
theorem enumS_T (l : List Nat) : enumS (Pm.T l) = l.zipIdx.map fun p => D.tup [.int (p.2 : Int), sg p.1] := rfl
end Pg
namespace Rp
open PySem PySem.Spec PyProof.Rows L2 Pm
open Pg (sg rowD tabD abc_T rows_plain tabD_plain tabD_frz dr divS ABC get_sg perm_erase erase_map sorted_sg sgs_plain ix_nat tab_src join_sg cnt_T take_T)
open TL (numL joinL)
open Sc (Rws RowT)
def rowOf (t : List RowT) (c : Nat) : RowT := (t.find? fun r => r.1 == c).getD (0, 0, 0)
theorem get_row : ∀ {t : List RowT} {c : Nat}, c ∈ lets t → getL (keysT t) (valsT t) (keyR c) = some (.tup [.int (rowOf t c).2.1, .int (rowOf t c).2.2])
  | [], c, h => by simp [lets] at h
  | r :: t, c, h => by
    by_cases e : r.1 = c
    · subst e
      simp [keysT, valsT, getL, rowOf]
    · have h2 : c ∈ lets t := by
        simp only [lets, List.map_cons, List.mem_cons] at h
        rcases h with h | h
        · exact absurd h.symm e
        · exact h
      have ne : ¬ keyR r.1 = keyR c := fun q => e (keyR_inj q)
      have ih := get_row h2
      unfold keysT valsT at ih ⊢
      rw [List.map_cons, List.map_cons, getL, if_neg ne, ih]
      have : (r.1 == c) = false := by simpa using e
      simp [rowOf, List.find?_cons, this]
theorem row_mem {t : List RowT} {c : Nat} (h : c ∈ lets t) : rowOf t c ∈ t := by
  unfold rowOf lets at *
  obtain ⟨r, hr, e⟩ := List.mem_map.mp h
  cases hf : t.find? fun r => r.1 == c with
  | none =>
    have := List.find?_eq_none.mp hf r hr
    simp [e] at this
  | some q => exact List.mem_of_find?_eq_some hf
theorem in_row {t : List RowT} {c : Nat} (h : c ∈ lets t) : opDIn true [sg c, .node true (.dct (keysT t)) (valsT t)] = some (.bl false) := by
  have hl : (keysT t).length = (valsT t).length := by simp [keysT, valsT]
  have ha : ((keysT t).any fun k' => decide (k' = keyR c)) = true := by
    obtain ⟨r, hr, e⟩ := List.mem_map.mp h
    rw [List.any_eq_true]
    exact ⟨keyR r.1, List.mem_map_of_mem hr, by rw [e]; simp⟩
  show (if (keysT t).length = (valsT t).length then some (D.bl (if true = true then !((keysT t).any fun k' => decide (k' = keyR c)) else _)) else none) = _
  rw [if_pos hl, ha]
  rfl
theorem dget_row {t : List RowT} {c : Nat} (h : c ∈ lets t) : opDGet [.node true (.dct (keysT t)) (valsT t), sg c] = some (.tup [.int (rowOf t c).2.1, .int (rowOf t c).2.2]) := by
  show (match getL (keysT t) (valsT t) (keyR c) with
    | some d => if d.plain then some d else none
    | none => none) = _
  rw [get_row h]
  rfl
def placeD (b : Bool) (t : List RowT) (l : List Nat) (i c : Nat) : D := plD b c ((l.take i).count c) (l.count c) (rowOf t c).2.1 (rowOf t c).2.2
theorem place_step {t : List RowT} {l : List Nat} {i c : Nat} {acc : List D} {x6 x7 : Option D} (ht : Rws t) (hl : l.length ≤ 1000) (hc : c ∈ lets t) (ha : acc.length ≤ 1000) :
    Wp b_places_of_1 [some (tabD t), some (.str (T l)), some (.node true (.dct (keysT t)) (valsT t)), some (.node true .lst acc), some (.int (i : Int)), some (sg c), x6, x7] fun f ρ' => f = .nx ∧
      ρ' = [some (tabD t), some (.str (T l)), some (.node true (.dct (keysT t)) (valsT t)), some (.node true .lst (acc ++ [placeD true t l i c])), some (.int (i : Int)), some (sg c), some (.int (rowOf t c).2.1), some (.int (rowOf t c).2.2)] := by
  have h1 := in_row hc
  have h2 := dget_row hc
  have hn := ht.num _ (row_mem hc)
  have k1 : (l.take i).count c ≤ 1000 := Nat.le_trans List.count_le_length (by rw [List.length_take]; omega)
  have k2 : l.count c ≤ 1000 := Nat.le_trans List.count_le_length hl
  have h3 := place_ok (c := c) (fu := (l.take i).count c) (us := l.count c) (st := (rowOf t c).2.1) (lo := (rowOf t c).2.2) k1 k2 hn.2.2.1 hn.2.2.2
  have h4 := cnt_T (l.take i) c
  have h5 := cnt_T l c
  have h6 := take_T (l := l) (by show _ ≤ 1000000; omega) i
  have h7 : acc.length < cap := by show _ < 1000000; omega
  have tp := tabD_plain t
  unfold placeD
  have pf : (plD true c ((l.take i).count c) (l.count c) (rowOf t c).2.1 (rowOf t c).2.2).plain = false := rfl
  generalize plD true c ((l.take i).count c) (l.count c) (rowOf t c).2.1 (rowOf t c).2.2 = PL at *
  generalize (rowOf t c).2.1 = st at *
  generalize (rowOf t c).2.2 = lo at *
  generalize (l.take i).count c = fu at *
  generalize l.count c = us at *
  generalize tabD t = TD at *
  generalize keysT t = KS at *
  generalize valsT t = VS at *
  unfold b_places_of_1
  generalize x_Place____init__ = XP at *
  generalize opDIn true = DI at *
  generalize opDGet = DG at *
  generalize opCountS = OC at *
  refine wp_seq fun K k1 k2 k3 k4 => ?_
  simp [Wp, mkF, reFrz, seq, Pm.ite, rtn, mov, asg, drp, sNx, bnd, Pm.bin, Pm.un, app, aCons, aNil, idx, loc, con, Pm.ret, peek1, peeks, itemOf, on2I, iAdd, iSub, iGt, iGe, iLt, iLe, iDiv, iMod, use1, useL, gI, gN, tst, andT, orT, notT, andE, orE, notE, ifE, ixN, D.frz, D.plain, plainL, argsBack, opLen, opAbs, opInt1, opNeg, disp, cap, callF, takes, puts, selA, sel, aApp, par, gT, gsC, gs0, appF, opDivmod, frzL, plainL, h1]
  refine k1 _ ?_
  clear k1 k2 k3 k4 K
  refine wp_seq fun K k1 k2 k3 k4 => ?_
  simp [Wp, mkF, reFrz, seq, Pm.ite, rtn, mov, asg, drp, sNx, bnd, Pm.bin, Pm.un, app, aCons, aNil, idx, loc, con, Pm.ret, peek1, peeks, itemOf, on2I, iAdd, iSub, iGt, iGe, iLt, iLe, iDiv, iMod, use1, useL, gI, gN, tst, andT, orT, notT, andE, orE, notE, ifE, ixN, D.frz, D.plain, plainL, argsBack, opLen, opAbs, opInt1, opNeg, disp, cap, callF, takes, puts, selA, sel, aApp, par, gT, gsC, gs0, appF, opDivmod, frzL, plainL, h2]
  refine k1 _ ?_
  clear k1 k2 k3 k4 K
  simp [Wp, smet1, cut, makeC, mkF, reFrz, seq, Pm.ite, rtn, mov, asg, drp, sNx, bnd, Pm.bin, Pm.un, app, aCons, aNil, idx, loc, con, Pm.ret, peek1, peeks, itemOf, on2I, iAdd, iSub, iGt, iGe, iLt, iLe, iDiv, iMod, use1, useL, gI, gN, tst, andT, orT, notT, andE, orE, notE, ifE, ixN, D.frz, D.plain, plainL, argsBack, opLen, opAbs, opInt1, opNeg, disp, cap, callF, takes, puts, selA, sel, aApp, par, gT, gsC, gs0, appF, opDivmod, frzL, plainL, h3, h4, h5, h6, h7, appd, tp]
def placesD (b : Bool) (t : List RowT) (l : List Nat) : List D := l.zipIdx.map fun p => placeD b t l p.2 p.1
theorem places_ok {t : List RowT} {l : List Nat} (ht : Rws t) (hl : l.length ≤ 1000) (hin : ∀ c ∈ l, c ∈ lets t) : x_places_of [tabD t, .str (T l)] = .ret (.node true .lst (placesD true t l)) [tabD t, .str (T l)] := by
  have hw : Wf x_places_of [tabD t, .str (T l)] fun d as => d = .node true .lst (placesD true t l) ∧ as = [tabD t, .str (T l)] := by
    have e1 := dict_ok ht (x1 := some (.str (T l)))
    have tp := tabD_plain t
    unfold x_places_of
    refine wf_mkF ?_
    unfold b_places_of
    show Wp _ [some (tabD t), some (.str (T l)), none, none, none, none, none, none] _
    refine wp_seq fun K k1 k2 k3 k4 => ?_
    refine Wp.of (asg_val e1 (by show 2 < 8; decide)) (k1 _ ?_)
    clear k1 k2 k3 k4 K
    show Wp _ [some (tabD t), some (.str (T l)), some (.node true (.dct (keysT t)) (valsT t)), none, none, none, none, none] _
    refine wp_seq fun K k1 k2 k3 k4 => ?_
    refine Wp.of (a := .nx) (ρ' := [some (tabD t), some (.str (T l)), some (.node true (.dct (keysT t)) (valsT t)), some (.node true .lst []), none, none, none, none]) rfl (k1 _ ?_)
    clear k1 k2 k3 k4 K
    refine wp_seq fun K k1 k2 k3 k4 => ?_
    have hs : srcEnumS (loc 1) [some (tabD t), some (.str (T l)), some (.node true (.dct (keysT t)) (valsT t)), some (.node true .lst []), none, none, none, none] = .ok (l.zipIdx.map fun p => D.tup [.int (p.2 : Int), sg p.1]) [some (tabD t), some (.str (T l)), some (.node true (.dct (keysT t)) (valsT t)), some (.node true .lst []), none, none, none, none] := by
      rw [← Pg.enumS_T]
      rfl
    refine wp_for hs (fun j ρ => ∃ x4 x5 x6 x7 : Option D, ρ = [some (tabD t), some (.str (T l)), some (.node true (.dct (keysT t)) (valsT t)), some (.node true .lst ((placesD true t l).take j)), x4, x5, x6, x7]) ⟨none, none, none, none, rfl⟩ ?_ ?_
    · rintro j d ρ hd ⟨x4, x5, x6, x7, rfl⟩
      have hj : j < l.length := by
        have := (List.getElem?_eq_some_iff.mp hd).1
        simpa using this
      have hd' : d = D.tup [.int (j : Int), sg l[j]] := by
        rw [List.getElem?_map, List.getElem?_zipIdx, List.getElem?_eq_getElem hj] at hd
        simpa using hd.symm
      subst hd'
      refine ⟨[some (tabD t), some (.str (T l)), some (.node true (.dct (keysT t)) (valsT t)), some (.node true .lst ((placesD true t l).take j)), some (.int (j : Int)), some (sg l[j]), x6, x7], rfl, ?_⟩
      refine (place_step ht hl (hin _ (List.getElem_mem hj)) (by rw [List.length_take]; omega)).mono ?_
      rintro f ρ' ⟨rfl, rfl⟩
      refine ⟨some (.int (j : Int)), some (sg l[j]), some (.int (rowOf t l[j]).2.1), some (.int (rowOf t l[j]).2.2), ?_⟩
      have hp : (placesD true t l)[j]? = some (placeD true t l j l[j]) := by
        unfold placesD
        rw [List.getElem?_map, List.getElem?_zipIdx, List.getElem?_eq_getElem hj]
        simp
      rw [List.take_add_one, hp]
      rfl
    · rintro ρ ⟨x4, x5, x6, x7, rfl⟩
      refine k1 _ ?_
      clear k1 k2 k3 k4 K
      rw [List.take_of_length_le (by simp [placesD])]
      generalize placesD true t l = PL at *
      generalize tabD t = TD at *
      refine wp_end fun K k1 k2 k3 k4 => ?_
      simp [Wp, mkF, reFrz, seq, Pm.ite, rtn, mov, asg, drp, sNx, bnd, Pm.bin, Pm.un, app, aCons, aNil, idx, loc, con, Pm.ret, peek1, peeks, itemOf, on2I, iAdd, iSub, iGt, iGe, iLt, iLe, iDiv, iMod, use1, useL, gI, gN, tst, andT, orT, notT, andE, orE, notE, ifE, ixN, D.frz, D.plain, plainL, argsBack, opLen, opAbs, opInt1, opNeg, disp, cap, callF, takes, puts, selA, sel, aApp, par, gT, gsC, gs0, appF, opDivmod, frzL, plainL]
      refine k2 _ _ ⟨[TD, .str (T l)], by simp [argsBack, reFrz, tp, D.plain], rfl, rfl⟩
  obtain ⟨d, as, e, rfl, rfl⟩ := hw
  exact e
end Rp
namespace Rp
open PySem PySem.Spec PyProof.Rows L2 Pm
open Pg (sg rowD tabD abc_T rows_plain tabD_plain tabD_frz dr divS ABC get_sg)
open Sc (Rws RowT)
theorem at6i {a b c d e f r : Int} (h0 : 0 ≤ r) (h1 : r < 6) : ∃ p, atI [D.int a, .int b, .int c, .int d, .int e, .int f] r = some (.int p) ∧ (p = a ∨ p = b ∨ p = c ∨ p = d ∨ p = e ∨ p = f) := by
  have : r = 0 ∨ r = 1 ∨ r = 2 ∨ r = 3 ∨ r = 4 ∨ r = 5 := by omega
  rcases this with rfl | rfl | rfl | rfl | rfl | rfl
  · exact ⟨a, rfl, by simp⟩
  · exact ⟨b, rfl, by simp⟩
  · exact ⟨c, rfl, by simp⟩
  · exact ⟨d, rfl, by simp⟩
  · exact ⟨e, rfl, by simp⟩
  · exact ⟨f, rfl, by simp⟩
theorem great_ok {S : FSem} (hS : Draws S) {ns : List Int} {a : Int} {z : List D} (hl : ns.length ≤ 63) (hp : Pen ns a (.node true .lst z)) (ha : a + 10 ≤ 1000000) :
    ∃ (z' : List D) (n : Nat), x_lgreat_number S [.node true .lst z] = .ret (.int (n : Int)) [.node true .lst z'] ∧ 1 ≤ n ∧ n ≤ 10 ^ 30 ∧ Pen ns (a + 4) (.node true .lst z') := by
  obtain ⟨r1, z1, e1, r10, r11, p1⟩ := dr hS (m := 50) hl hp (by omega) (by decide) (by decide)
  obtain ⟨r2, z2, e2, r20, r21, p2⟩ := dr hS (m := 1000000000) hl p1 (by omega) (by decide) (by decide)
  obtain ⟨r3, z3, e3, r30, r31, p3⟩ := dr hS (m := 1000000) hl p2 (by omega) (by decide) (by decide)
  obtain ⟨r4, z4, e4, r40, r41, p4⟩ := dr hS (m := 6) hl p3 (by omega) (by decide) (by decide)
  have w9 : iPow 10 9 = some (.int 1000000000) := rfl
  have w6 : iPow 10 6 = some (.int 1000000) := rfl
  have w30 : iPow 10 30 = some (.int 1000000000000000000000000000000) := rfl
  have a1 := hAdd_ii 1 r1
  have a2 := hAdd_ii 1000000000 r2
  obtain ⟨p, ep, hp'⟩ := at6i (a := 1) (b := 2) (c := 1 + r1) (d := 1000000000 + r2) (e := 1000000000000000000000000000000 - r3) (f := 1000000000000000000000000000000) r40 r41
  have hpos : 1 ≤ p ∧ p ≤ 1000000000000000000000000000000 := by omega
  obtain ⟨n, rfl⟩ := Int.eq_ofNat_of_zero_le (show 0 ≤ p by omega)
  have ha3 : hAdd [.node true .lst [.int 1, .int 2, .int (1 + r1), .int (1000000000 + r2)], .node true .lst [.int (1000000000000000000000000000000 - r3), .int 1000000000000000000000000000000]] = some (.lst true [.int 1, .int 2, .int (1 + r1), .int (1000000000 + r2), .int (1000000000000000000000000000000 - r3), .int 1000000000000000000000000000000]) := rfl
  refine ⟨z4, n, ?_, by omega, by have : (10 : Nat) ^ 30 = 1000000000000000000000000000000 := by decide
                                  omega, p4.mono (by omega)⟩
  unfold x_lgreat_number b_lgreat_number
  generalize iPow = IP at *
  generalize hAdd = HA at *
  simp [mkF, reFrz, seq, Pm.ite, rtn, mov, asg, drp, sNx, bnd, Pm.bin, Pm.un, app, aCons, aNil, idx, loc, con, Pm.ret, peek1, peeks, itemOf, on2I, iAdd, iSub, iGt, iGe, iLt, iLe, iDiv, iMod, use1, useL, gI, gN, tst, andT, orT, notT, andE, orE, notE, ifE, ixN, D.frz, D.plain, plainL, argsBack, opLen, opAbs, opInt1, opNeg, disp, cap, callF, takes, puts, selA, sel, aApp, par, gT, gsC, gs0, appF, opDivmod, frzL, plainL, e1, e2, e3, e4, w9, w6, w30, a1, a2, ha3, ep]
end Rp
set_option maxHeartbeats 1000000
namespace Pm
open PySem PySem.Spec PyProof.Rows L2
end Pm
set_option maxHeartbeats 2000000
namespace Pm
open PySem PySem.Spec PyProof.Rows L2
def starM (h : FSem) : FSem := fun ds => match ds with
  | d0 :: rest => if plainL rest = true ∧ rest.length ≤ cap then
    (match h [d0, .node false .tup rest] with
    | .ret d (d1 :: _) => .ret d (d1 :: rest)
    | .exc x (d1 :: _) => .exc x (d1 :: rest)
    | _ => .stuck)
    else .stuck
  | [] => .stuck
structure FnM (P : Program) (w : World) (K : PySem.W.Frag) (mg : Str → Option Value) (base : Heap) (k : Nat) (f : Addr) (g : FSem) : Prop where
  run : ∀ (A : Around) (outer : List PySem.Env) (s : Shared) (H : Hp) (u0 : Value) (us : List Value) (v0 : V) (vs : List V) (Q : VK) (E : L2.XK),
    A.guards = some [] → Room k A → Env0 P w K mg base A outer s H → Vals (v0 :: vs) (u0 :: us) → spG K mg g (v0 :: vs) H Q E →
    codeAny (model P w) A (.call (.ref f) ⟨u0 :: us, []⟩) (CR (L2.CX P w) outer P w H s Q E) s
section
variable {K : PySem.W.Frag} {mg : Str → Option Value} {Z H : Hp} {S : Fp}
theorem star_inM {h : FSem} {v0 : V} {v1 : List V} {Q : VK} {E : L2.XK} (hs : spG K mg (starM h) (v0 :: v1) H Q E) :
    v1.length ≤ cap ∧ ∀ p, H p = none → spG K mg h [v0, V.ref p] (upd H p (.tup v1)) Q E := by
  obtain ⟨Z, S, ds, mk, w, r, o⟩ := hs
  cases ds with
  | nil => exact r.elim
  | cons d0 rest =>
    simp only [starM] at o
    by_cases hc : plainL rest = true ∧ rest.length ≤ cap
    · rw [if_pos hc] at o
      obtain ⟨hp, hcap⟩ := hc
      obtain ⟨S1, S2, s1, s2, sj, r0, q⟩ := r
      have hl : rest.length = v1.length := q.length
      refine ⟨by omega, fun p np => ?_⟩
      have rp : RepL K Z H rest v1 Fp0 := q.plain hp
      have st : Step Z H S (upd Z p (.tup v1)) (upd H p (.tup v1)) S := Step.allocZ w np
      have kk : ∀ (T : Fp) c o, T c → H c = some o → upd H p (.tup v1) c = some o := fun T c o _ e => by rw [upd_ne (ne_of_none e np)]; exact e
      have r0' : Rep K (upd Z p (.tup v1)) (upd H p (.tup v1)) d0 v0 S := r0.move st.zz (kk _) s1
      have rt : Rep K (upd Z p (.tup v1)) (upd H p (.tup v1)) (.node false .tup rest) (.ref p) Fp0 := ⟨p, v1, rfl, SqT.of upd_same, rp.move st.zz (fun _ _ x => x.elim) fun _ x => x⟩
      have rl : RepL K (upd Z p (.tup v1)) (upd H p (.tup v1)) [d0, .node false .tup rest] [v0, V.ref p] S :=
        ⟨S, Fp0, fun _ x => x, fun _ x => x.elim, fun _ _ x => x, r0', Fp0, Fp0, fun _ x => x, fun _ x => x, fun _ _ x => x, rt, trivial⟩
      refine ⟨upd Z p (.tup v1), S, _, mk.same st.zz, st.wd, rl, ?_⟩
      cases e1 : h [d0, .node false .tup rest] with
      | stuck => rw [e1] at o; exact o
      | ret d as =>
        cases as with
        | nil => rw [e1] at o; exact o.elim
        | cons d1 as =>
          rw [e1] at o
          intro v Z' H' S' Sd st2 dj ra rd
          obtain ⟨T1, T2, t1, t2, tj, ra0, _⟩ := ra
          exact o v Z' H' S' Sd (st.trans st2) dj ⟨S', Fp0, fun _ x => x, fun _ x => x.elim, fun _ _ x => x, ra0.move (Same.refl _) (fun _ _ _ x => x) t1, rp.move (st.zz.trans st2.zz) (fun _ _ x => x.elim) fun _ x => x⟩ rd
      | exc x as =>
        cases as with
        | nil => rw [e1] at o; exact o.elim
        | cons d1 as =>
          rw [e1] at o
          intro cls dd Z' H' S' st2 ra xr
          obtain ⟨T1, T2, t1, t2, tj, ra0, _⟩ := ra
          exact o cls dd Z' H' S' (st.trans st2) ⟨S', Fp0, fun _ x => x, fun _ x => x.elim, fun _ _ x => x, ra0.move (Same.refl _) (fun _ _ _ x => x) t1, rp.move (st.zz.trans st2.zz) (fun _ _ x => x.elim) fun _ x => x⟩ xr
    · rw [if_neg hc] at o
      exact o.elim
end
section
variable {P : Program} {w : World} {K : PySem.W.Frag} {mg : Str → Option Value} {base : Heap}
theorem fnM {x qual sv pv : Str} {st : Stmt} {f : Addr} {fd : FuncData} {N : List Str} {k m : Nat} {reb : List Nat} {b : M Fl} (F : Fun K x qual st f fd) (Sc : FnScope N [sv, pv] (defScope st)) (hm : N.length = m)
    (hb : ∀ (kV doc pm : Value) (an : Option Addr) (cdv ct : Value) (u0 : Value) (us : List Value), bindArgs (PySem.W.fnOf x qual (defArgs st) (defBody st) (defScope st) .none kV doc pm an cdv ct) ⟨u0 :: us, []⟩ = (newTuple us >>= fun t => pure [(sv, u0), (pv, t)]))
    (body : ∀ (cdv : Value) (A : Around) (outer : List PySem.Env) (s : Shared) (H : Hp) (E : L2.XK), A.guards = some [] → Room k (A.deeper (envOfC qual (defScope st) s.heap.objs.size f cdv)) →
      PSs (cxG P w K mg base N qual (defScope st) f cdv A outer s H E) (defBody st) (tS K mg (fun cls d _ H => E cls d H) (parA 2 reb) b)) :
    FnM P w K mg base (k + 1) f (starM (mkF 2 m reb b)) := by
  obtain ⟨oc, od, kV, doc, pm, an, cdv, ct, osl, rfl, lk, hcd⟩ := F.ex
  refine ⟨fun A outer s H u0 us v0 v1 Q E hgd hr e0 r hsp => ?_⟩
  obtain ⟨hz, hin⟩ := star_inM hsp
  cases r with
  | cons ra r1 =>
  have l1 : v1.length = us.length := r1.length
  have hn : H s.heap.objs.size = Option.none := e0.hok.fresh (Nat.le_refl _)
  have hz1 : v1.length ≤ sizeLine := Nat.le_trans hz (by decide)
  have hl2 : us.length ≤ sizeLine := by rw [← l1]; exact hz1
  refine StX.run_bnd (CX := L2.CX P w) lk hcd Sc hr e0 (G := fun xs H2 => ∃ p, H p = Option.none ∧ xs = [v0, V.ref p] ∧ H2 = upd H p (.tup v1)) (fun A' Ex Q' h => ?_) fun s2 H2 xs ⟨p, hp, ex, eH⟩ hr' => ?_
  · rw [hb kV doc pm an cdv ct u0 us]
    refine wpAny_bind (wpAny_newTuple (wpAny_pure ?_) hl2)
    have new : ObjOk P w (upd H s.heap.objs.size (.tup v1)) (s.heap.push ({ cls := .type "tuple", data := .seq us.toArray } : Obj)) s.heap.objs.size (.tup v1) := ⟨hz1, us, r1, ⟨_, Heap.get?_push_size _ rfl, rfl, _, rfl⟩⟩
    have un := StX.un_laid (fs := frs outer) (s := s) (o := ({ cls := .type "tuple", data := .seq us.toArray } : Obj)) (u := .tup v1) hn
    exact h _ _ [v0, V.ref s.heap.objs.size] [u0, Value.ref s.heap.objs.size] (StX.env0_laid e0 new) un rfl (fun e s' => StX.cxUp outer s H _ _ E e s' un (fun b o q => Heap.get?_push_of_some _ q) rfl) (.cons ra (.cons rfl .nil)) rfl ⟨_, hn, rfl, rfl⟩
  · subst ex eH
    refine ⟨_, body cdv A outer s2 _ E hgd hr', ?_⟩
    exact body_in (n := 2) hm rfl (hin p hp)
end
section
variable {K : PySem.W.Frag} {mg : Str → Option Value} {W : WX} {Z H : Hp} {S : Fp} {σ : Sl} {X : Cx}
/-- such a method as its class knows it -/
structure MDefV (P : Program) (w : World) (K : PySem.W.Frag) (mg : Str → Option Value) (base : Heap) (k : Nat) (C : Addr) (m : Str) (f : Addr) (g : FSem) : Prop where
  ok : FnM P w K mg base k f g
  me : Meth K C m f
theorem E_methV {k j : Nat} {n m : Str} {C f : Addr} {g : FSem} {o e : Expr} {es : List Expr} {fo : M EV} {fs : M (List EV)} {apos pos : Pos} {pl : Sem Bool} (hC : reg X.K n = some C) (c : Cls X.K C) (F : MDefV X.prog X.w X.K X.mg X.base k C m f g) (ft : Fit X W j) (ho : PE X o (tE X.K X.mg W fo)) (ha : PA X (e :: es) (tA X.K X.mg W fs)) (hk : k ≤ j := by first | decide | omega)
    (hst : starEach (e :: es) X.env = (false, eval e X.env) :: starEach es X.env := by rfl) (hpl : (backTo pos (starEach es X.env)).any (·.1) = false := by rfl)
    (ht : eval (.Call (.Attribute o m apos) (e :: es) [] pos) X.env = (do
      let ov ← eval o X.env
      standAt apos.atName
      let (f, first) ← holding [ov] (getMethod ov m pl)
      callWith pos f first (backTo pos (starEach (e :: es) X.env)) (backToKw pos (keywordEach [] X.env))) := by rfl) :
    PE X (.Call (.Attribute o m apos) (e :: es) [] pos) (tE X.K X.mg W (callF g (aCons (chk n m fo) fs))) := by
  refine ⟨fun pins s σ H Q I h => ?_⟩
  have q0 := tE_chk (tA_cons (tE_call h))
  refine PySem.W.methodCall_KW (pl := pl) (thn (ho.run pins s σ H _ I q0) fun u s1 ⟨x, H1, I1, rx, ⟨a, C', dx, kvs, ex, hr, ea, l⟩, q⟩ => ?_) ht
  subst ex
  rw [hC] at hr
  cases hr
  obtain rfl : u = Value.ref a := rx
  refine getmeth_ok I1 ea c F.me l ?_
  refine PySem.W.callWith_K (first := [.ref a]) (h₀ := X.base) I.ok.mod.kin F.me.kp (thn (ha.run pos pins s1 σ H1 _ I1 q) fun us s2 ⟨vs, H2, I2, r, q2⟩ => ⟨I2.kIn, ?_⟩) hst hpl
  refine wpAny_call (codeAny_mono (F.ok.run X.A X.stack s2 H2 (.ref a) us (V.ref a) vs _ _ ft.gd (ft.room.mono hk) I2.env0 (.cons rfl r) q2) fun r s' hq => ?_)
  cases r with
  | error e => exact passAt ft.tk σ pins _ _ e s' I2 hq
  | ok fl =>
    cases fl with
    | ret u => exact I2.after hq
    | next => exact hq.elim
    | brk => exact hq.elim
    | cont => exact hq.elim
end
end Pm
namespace Rp
open PySem PySem.Spec PyProof.Rows L2 Pm
open Pg (sg rowD tabD abc_T rows_plain tabD_plain tabD_frz dr divS ABC get_sg x_is_integer x_is_between between_i between_ok btwB Fi)
open Sc (Rws RowT)
noncomputable def b_Repeated__table__set : M Fl := (seq (setA 0 "Repeated" "places" (frzE (callF x_places_of (aCons (loc 1) (aCons (fldE "Repeated" "pattern" (loc 0)) aNil)))))
    (setA 0 "Repeated" "origin" (loc 1)))
noncomputable def x_Repeated__table__set : FSem := mkF 2 2 [] b_Repeated__table__set
noncomputable def b_Repeated__times__set : M Fl := (seq (Pm.ite (notT (tst (callF x_is_between (aCons (loc 1) (aCons (con (.int 1)) (aCons (callF (conS 1000000000000000000000000000000) (aCons (chk "Repeated" "MOST_TIMES" (loc 0)) aNil)) aNil)))))) (raise1 "InvalidTimes" "value" (loc 1)) sNx)
    (setA 0 "Repeated" "repetitions" (loc 1)))
noncomputable def x_Repeated__times__set : FSem := mkF 2 2 [] b_Repeated__times__set
noncomputable def b_Repeated____init__ : M Fl := (seq (setA 0 "Repeated" "pattern" (loc 2))
    (seq (setP 0 "Repeated" "table" x_Repeated__table__set (loc 1))
    (setP 0 "Repeated" "times" x_Repeated__times__set (loc 3))))
noncomputable def x_Repeated____init__ : FSem := mkF 4 4 [] b_Repeated____init__
noncomputable def b_Repeated__size : M Fl := (rtn (Pm.bin hMulT (app opLen (aCons (fldE "Repeated" "places" (loc 0)) aNil)) (fldE "Repeated" "repetitions" (loc 0))))
noncomputable def x_Repeated__size : FSem := mkF 1 1 [] b_Repeated__size
noncomputable def b_Repeated__need_1 : M Fl := (Pm.ite (notT (tst (callF x_is_between (aCons (loc 2) (aCons (con (.int 0)) (aCons (Pm.bin (on2I iSub) (callF (noX x_Repeated__size) (aCons (chk "Repeated" "size" (loc 0)) aNil)) (con (.int 1))) aNil)))))) (raise1 "NoOperator" "index" (loc 2)) sNx)
noncomputable def b_Repeated__need : M Fl := (forS (srcA (loc 1)) (gN 2) b_Repeated__need_1)
noncomputable def x_Repeated__need : FSem := starM (mkF 2 3 [] b_Repeated__need)
noncomputable def b_Repeated__at : M Fl := (seq (asg (appF opDivmod (aCons (loc 1) (aCons (app opLen (aCons (fldE "Repeated" "places" (loc 0)) aNil)) aNil))) (gT (gsC (gN 2) (gsC (gN 3) gs0)) 2))
    (rtn (disp false .tup (aCons (idx (aCons (fldE "Repeated" "places" (loc 0)) (aCons (loc 3) aNil))) (aCons (loc 2) aNil)))))
noncomputable def x_Repeated__at : FSem := mkF 2 4 [] b_Repeated__at
noncomputable def b_Place__strength : M Fl := (rtn (Pm.bin (on2I iSub) (fldE "Place" "first_strength" (loc 0)) (Pm.bin hMulT (loc 1) (fldE "Place" "loss" (loc 0)))))
noncomputable def x_Place__strength : FSem := mkF 2 2 [] b_Place__strength
noncomputable def b_Repeated__strength_of : M Fl := (seq (drp (callF x_Repeated__need (aCons (chk "Repeated" "need" (loc 0)) (aCons (loc 1) aNil))))
    (seq (asg (callF x_Repeated__at (aCons (chk "Repeated" "at" (loc 0)) (aCons (loc 1) aNil))) (gT (gsC (gN 2) (gsC (gN 3) gs0)) 2))
    (rtn (callF x_Place__strength (aCons (chk "Place" "strength" (loc 2)) (aCons (loc 3) aNil))))))
noncomputable def x_Repeated__strength_of : FSem := mkF 2 4 [] b_Repeated__strength_of
/-- a block that is repeated, as a thing -/
def repD (o : Bool) (t : List RowT) (l : List Nat) (n : Nat) : D := .node o (.ins "Repeated" ["pattern", "places", "origin", "repetitions"]) [.str (T l), .node false .lst (placesD false t l), tabD t, .int (n : Int)]
theorem places_plain (t : List RowT) (l : List Nat) : plainL (placesD false t l) = true := by
  rw [plainL_all, List.all_eq_true]
  intro d hd
  obtain ⟨p, hp, rfl⟩ := List.mem_map.mp hd
  rfl
theorem places_frz (b : Bool) (t : List RowT) (l : List Nat) : frzL (placesD b t l) = placesD false t l := by
  rw [frzL_map, placesD, placesD, List.map_map]
  rfl
theorem places_len (b : Bool) (t : List RowT) (l : List Nat) : (placesD b t l).length = l.length := by simp [placesD]
theorem repD_plain (o : Bool) (t : List RowT) (l : List Nat) (n : Nat) : (repD o t l n).plain = !o := by
  unfold repD
  have h1 := places_plain t l
  have h2 := tabD_plain t
  simp [D.plain, plainL, h1, h2]
theorem fld_of {n f : Str} {fs : List Str} {xs : List D} {o : Bool} {d : D} {i : Nat} {ρ : Pm.Env} (h : ρ.getD i none = some (.node o (.ins n fs) xs)) (hl : (fs.zip xs).lookup f = some d) (hp : d.plain = true) : fldE n f (loc i) ρ = .ok (.val d) ρ := by
  unfold fldE
  have hc : loc i ρ = .ok (.ref i) ρ := by unfold loc; rw [h]
  simp only [bnd, hc, peek1, h, hl, hp]
  rfl
theorem chk_of {n m : Str} {fs : List Str} {xs : List D} {o : Bool} {i : Nat} {ρ : Pm.Env} (h : ρ.getD i none = some (.node o (.ins n fs) xs)) (hm : m ∉ fs) : chk n m (loc i) ρ = .ok (.ref i) ρ := by
  unfold chk
  have hc : loc i ρ = .ok (.ref i) ρ := by unfold loc; rw [h]
  simp only [bnd, hc, peek1, h]
  rw [if_pos ⟨trivial, hm⟩]
theorem lk4 {a b c d : D} : ((["pattern", "places", "origin", "repetitions"] : List Str).zip [a, b, c, d]).lookup ("pattern" : Str) = some a ∧ ((["pattern", "places", "origin", "repetitions"] : List Str).zip [a, b, c, d]).lookup ("places" : Str) = some b
    ∧ ((["pattern", "places", "origin", "repetitions"] : List Str).zip [a, b, c, d]).lookup ("origin" : Str) = some c ∧ ((["pattern", "places", "origin", "repetitions"] : List Str).zip [a, b, c, d]).lookup ("repetitions" : Str) = some d := by
  have h1 : (("places" : Str) == ("pattern" : Str)) = false := by decide +kernel
  have h2 : (("origin" : Str) == ("pattern" : Str)) = false := by decide +kernel
  have h3 : (("origin" : Str) == ("places" : Str)) = false := by decide +kernel
  have h4 : (("repetitions" : Str) == ("pattern" : Str)) = false := by decide +kernel
  have h5 : (("repetitions" : Str) == ("places" : Str)) = false := by decide +kernel
  have h6 : (("repetitions" : Str) == ("origin" : Str)) = false := by decide +kernel
  refine ⟨?_, ?_, ?_, ?_⟩ <;> simp [List.lookup, h1, h2, h3, h4, h5, h6]
section
variable {o : Bool} {t : List RowT} {l : List Nat} {n i : Nat} {ρ : Pm.Env}
theorem f_pls (h : ρ.getD i none = some (repD o t l n)) : fldE "Repeated" "places" (loc i) ρ = .ok (.val (.node false .lst (placesD false t l))) ρ := fld_of h lk4.2.1 (by
  have := places_plain t l
  simp [D.plain, this])
theorem f_rep (h : ρ.getD i none = some (repD o t l n)) : fldE "Repeated" "repetitions" (loc i) ρ = .ok (.val (.int (n : Int))) ρ := fld_of h lk4.2.2.2 rfl
theorem c_rep {m : Str} (hm : m ∉ (["pattern", "places", "origin", "repetitions"] : List Str)) (h : ρ.getD i none = some (repD o t l n)) : chk "Repeated" m (loc i) ρ = .ok (.ref i) ρ := chk_of h hm
end
theorem r_size : ("size" : Str) ∉ (["pattern", "places", "origin", "repetitions"] : List Str) := by decide +kernel
theorem r_need : ("need" : Str) ∉ (["pattern", "places", "origin", "repetitions"] : List Str) := by decide +kernel
theorem r_at : ("at" : Str) ∉ (["pattern", "places", "origin", "repetitions"] : List Str) := by decide +kernel
theorem r_strength_of : ("strength_of" : Str) ∉ (["pattern", "places", "origin", "repetitions"] : List Str) := by decide +kernel
def rep1 (l : List Nat) : D := .node true (.ins "Repeated" ["pattern"]) [.str (T l)]
def rep2 (t : List RowT) (l : List Nat) : D := .node true (.ins "Repeated" ["pattern", "places"]) [.str (T l), .node false .lst (placesD false t l)]
def rep3 (t : List RowT) (l : List Nat) : D := .node true (.ins "Repeated" ["pattern", "places", "origin"]) [.str (T l), .node false .lst (placesD false t l), tabD t]
theorem tset_ok {t : List RowT} {l : List Nat} (ht : Rws t) (hl : l.length ≤ 1000) (hin : ∀ c ∈ l, c ∈ lets t) : x_Repeated__table__set [rep1 l, tabD t] = .ret .non [rep3 t l, tabD t] := by
  have hw : Wf x_Repeated__table__set [rep1 l, tabD t] fun d as => d = .non ∧ as = [rep3 t l, tabD t] := by
    have e1 := places_ok ht hl hin
    have f1 : fldE "Repeated" "pattern" (loc 0) [some (rep1 l), some (tabD t)] = .ok (.val (.str (T l))) [some (rep1 l), some (tabD t)] := fld_of (o := true) (fs := ["pattern"]) (xs := [.str (T l)]) rfl rfl rfl
    have tp := tabD_plain t
    have pf := places_frz true t l
    have h1 : frzE (callF x_places_of (aCons (loc 1) (aCons (fldE "Repeated" "pattern" (loc 0)) aNil))) [some (rep1 l), some (tabD t)] = .ok (.val (.node false .lst (placesD false t l))) [some (rep1 l), some (tabD t)] := by
      generalize rep1 l = R at *
      generalize tabD t = TD at *
      generalize x_places_of = XP at *
      generalize fldE "Repeated" "pattern" (loc 0) = F1 at *
      generalize placesD true t l = P1 at *
      generalize placesD false t l = P2 at *
      simp [frzE, mkF, reFrz, seq, Pm.ite, rtn, mov, asg, drp, sNx, bnd, Pm.bin, Pm.un, app, aCons, aNil, idx, loc, con, Pm.ret, peek1, peeks, itemOf, on2I, iAdd, iSub, iGt, iGe, iLt, iLe, iDiv, iMod, use1, useL, gI, gN, tst, andT, orT, notT, andE, orE, notE, ifE, ixN, D.frz, D.plain, plainL, argsBack, opLen, opAbs, opInt1, opNeg, disp, cap, callF, takes, puts, selA, sel, aApp, par, gT, gsC, gs0, appF, opDivmod, frzL, plainL, f1, e1, tp, pf]
    unfold x_Repeated__table__set
    refine wf_mkF ?_
    unfold b_Repeated__table__set
    show Wp _ [some (rep1 l), some (tabD t)] _
    refine wp_seq fun K k1 k2 k3 k4 => ?_
    refine Wp.of (setA_new h1 rfl rfl (by decide) rfl (by decide)) (k1 _ ?_)
    clear k1 k2 k3 k4 K
    have h2 : use1 (.ref 1) [some (rep2 t l), some (tabD t)] = .ok (tabD t) [some (rep2 t l), some (tabD t)] := by
      have tf := tabD_frz t
      simp [use1, tf]
    refine Wp.of (setA_new (fs := ["pattern", "places"]) (xs := [.str (T l), .node false .lst (placesD false t l)]) (fe := loc 1) (ev := .ref 1) (d := tabD t) (ρ1 := [some (rep2 t l), some (tabD t)]) (ρ2 := [some (rep2 t l), some (tabD t)]) rfl h2 rfl (by decide) rfl (by decide)) ?_
    refine ⟨[rep3 t l, tabD t], ?_, rfl, rfl⟩
    simp [argsBack, reFrz, tp]
    rfl
  obtain ⟨d, as, e, rfl, rfl⟩ := hw
  exact e
theorem times_ok {t : List RowT} {l : List Nat} {n : Nat} (h0 : 1 ≤ n) (h1 : n ≤ 10 ^ 30) : x_Repeated__times__set [rep3 t l, .int (n : Int)] = .ret .non [repD true t l n, .int (n : Int)] := by
  have hw : Wf x_Repeated__times__set [rep3 t l, .int (n : Int)] fun d as => d = .non ∧ as = [repD true t l n, .int (n : Int)] := by
    have e1 := between_i (n : Int) 1 1000000000000000000000000000000
    have hb : (10 : Nat) ^ 30 = 1000000000000000000000000000000 := by decide
    rw [decide_eq_true ⟨by omega, by omega⟩] at e1
    have f1 : chk "Repeated" "MOST_TIMES" (loc 0) [some (rep3 t l), some (.int (n : Int))] = .ok (.ref 0) [some (rep3 t l), some (.int (n : Int))] := chk_of (o := true) (fs := ["pattern", "places", "origin"]) (xs := [.str (T l), .node false .lst (placesD false t l), tabD t]) rfl (by decide +kernel)
    have pl : (rep3 t l).plain = false := rfl
    unfold x_Repeated__times__set
    refine wf_mkF ?_
    unfold b_Repeated__times__set
    show Wp _ [some (rep3 t l), some (.int (n : Int))] _
    refine wp_seq fun K k1 k2 k3 k4 => ?_
    have h1 : notT (tst (callF x_is_between (aCons (loc 1) (aCons (con (.int 1)) (aCons (callF (conS 1000000000000000000000000000000) (aCons (chk "Repeated" "MOST_TIMES" (loc 0)) aNil)) aNil))))) [some (rep3 t l), some (.int (n : Int))] = .ok false [some (rep3 t l), some (.int (n : Int))] := by
      generalize rep3 t l = R at *
      generalize chk "Repeated" "MOST_TIMES" (loc 0) = F1 at *
      generalize x_is_between = XB at *
      generalize (1000000000000000000000000000000 : Int) = MM at *
      generalize (n : Int) = nn at *
      simp [conS, mkF, reFrz, seq, Pm.ite, rtn, mov, asg, drp, sNx, bnd, Pm.bin, Pm.un, app, aCons, aNil, idx, loc, con, Pm.ret, peek1, peeks, itemOf, on2I, iAdd, iSub, iGt, iGe, iLt, iLe, iDiv, iMod, use1, useL, gI, gN, tst, andT, orT, notT, andE, orE, notE, ifE, ixN, D.frz, D.plain, plainL, argsBack, opLen, opAbs, opInt1, opNeg, disp, cap, callF, takes, puts, selA, sel, aApp, par, gT, gsC, gs0, appF, opDivmod, frzL, plainL, f1, pl, e1]
    refine wp_ite (Wp.of h1 ⟨fun q => (nomatch q), fun _ => ?_⟩)
    refine Wp.of (a := .nx) rfl (k1 _ ?_)
    clear k1 k2 k3 k4 K
    refine Wp.of (setA_new (fs := ["pattern", "places", "origin"]) (xs := [.str (T l), .node false .lst (placesD false t l), tabD t]) (fe := loc 1) (ev := .ref 1) (d := .int (n : Int)) (ρ1 := [some (rep3 t l), some (.int (n : Int))]) (ρ2 := [some (rep3 t l), some (.int (n : Int))]) rfl rfl rfl (by decide) rfl (by decide)) ?_
    exact ⟨[repD true t l n, .int (n : Int)], rfl, rfl, rfl⟩
  obtain ⟨d, as, e, rfl, rfl⟩ := hw
  exact e
theorem setP_ok {j : Nat} {n f : Str} {g : FSem} {fe : M EV} {ρ ρ' : Pm.Env} {i : Nat} {d d' : D} {fs : List Str} {xs : List D} (hf : fe ρ = .ok (.ref i) ρ) (h : ρ.getD j none = some (.node true (.ins n fs) xs)) (nf : f ∉ fs) (hj : j ≠ i) (hi : ρ.getD i none = some d) (hd : d.plain = true) (hg : g [.node true (.ins n fs) xs, d] = .ret .non [d', d]) (he : ρ' = ρ.set j (some d')) :
    setP j n f g fe ρ = .ok .nx ρ' := by
  have hi2 : (ρ.set j none).getD i none = some d := by
    rw [List.getD_eq_getElem?_getD, List.getElem?_set_ne hj, ← List.getD_eq_getElem?_getD]
    exact hi
  have hA : setPA j n f fe ρ = .ok [.ref j, .ref i] ρ := by
    unfold setPA
    simp only [hf, h]
    rw [if_pos ⟨trivial, nf⟩]
  have np : (D.node true (.ins n fs) xs).plain = false := by simp [D.plain]
  unfold setP
  simp only [drp, callF, bnd, hA, takes, h, np, hi2, hd, hg, puts, if_true, Bool.false_eq_true, if_false]
  rw [he, List.set_set]
  rfl
theorem init_ok {t : List RowT} {l : List Nat} {n : Nat} (ht : Rws t) (hl : l.length ≤ 1000) (hin : ∀ c ∈ l, c ∈ lets t) (h0 : 1 ≤ n) (h1 : n ≤ 10 ^ 30) :
    x_Repeated____init__ [.node true (.ins "Repeated" []) [], tabD t, .str (T l), .int (n : Int)] = .ret .non [repD true t l n, tabD t, .str (T l), .int (n : Int)] := by
  have hw : Wf x_Repeated____init__ [.node true (.ins "Repeated" []) [], tabD t, .str (T l), .int (n : Int)] fun d as => d = .non ∧ as = [repD true t l n, tabD t, .str (T l), .int (n : Int)] := by
    have tp := tabD_plain t
    unfold x_Repeated____init__
    refine wf_mkF ?_
    unfold b_Repeated____init__
    show Wp _ [some (.node true (.ins "Repeated" []) []), some (tabD t), some (.str (T l)), some (.int (n : Int))] _
    refine wp_seq fun K k1 k2 k3 k4 => ?_
    refine Wp.of (setA_new (fs := []) (xs := []) (fe := loc 2) (ev := .ref 2) (d := .str (T l)) rfl rfl rfl (by decide) rfl (by decide)) (k1 _ ?_)
    clear k1 k2 k3 k4 K
    refine wp_seq fun K k1 k2 k3 k4 => ?_
    refine Wp.of (setP_ok (d := tabD t) (d' := rep3 t l) (fs := ["pattern"]) (xs := [.str (T l)]) (ρ := [some (rep1 l), some (tabD t), some (.str (T l)), some (.int (n : Int))]) (ρ' := [some (rep3 t l), some (tabD t), some (.str (T l)), some (.int (n : Int))]) rfl rfl (by decide +kernel) (by decide) rfl tp (tset_ok ht hl hin) rfl) (k1 _ ?_)
    clear k1 k2 k3 k4 K
    refine Wp.of (setP_ok (d := .int (n : Int)) (d' := repD true t l n) (fs := ["pattern", "places", "origin"]) (xs := [.str (T l), .node false .lst (placesD false t l), tabD t]) (ρ := [some (rep3 t l), some (tabD t), some (.str (T l)), some (.int (n : Int))]) (ρ' := [some (repD true t l n), some (tabD t), some (.str (T l)), some (.int (n : Int))]) rfl rfl (by decide +kernel) (by decide) rfl rfl (times_ok h0 h1) rfl) ?_
    refine ⟨[repD true t l n, tabD t, .str (T l), .int (n : Int)], ?_, rfl, rfl⟩
    simp [argsBack, reFrz, tp, D.plain]
  obtain ⟨d, as, e, rfl, rfl⟩ := hw
  exact e
end Rp
namespace Rp
open PySem PySem.Spec PyProof.Rows L2 Pm
open Pg (sg rowD tabD abc_T rows_plain tabD_plain tabD_frz dr divS ABC get_sg x_is_integer x_is_between between_i between_ok btwB Fi ix_nat)
open Sc (Rws RowT)
section
variable {o : Bool} {t : List RowT} {l : List Nat} {n : Nat}
theorem size_ok (hl : l.length ≤ 1000) : x_Repeated__size [repD o t l n] = .ret (.int ((l.length * n : Nat) : Int)) [repD o t l n] := by
  have f1 := fun ρ => f_pls (o := o) (t := t) (l := l) (n := n) (i := 0) (ρ := some (repD o t l n) :: ρ) rfl
  have f2 := fun ρ => f_rep (o := o) (t := t) (l := l) (n := n) (i := 0) (ρ := some (repD o t l n) :: ρ) rfl
  have pl := repD_plain o t l n
  have h1 : opLen [.node false .lst (placesD false t l)] = some (.int (l.length : Int)) := by
    show some (D.int ((placesD false t l).length : Int)) = _
    rw [places_len]
  have h2 : hMulT [.int (l.length : Int), .int (n : Int)] = some (.int ((l.length * n : Nat) : Int)) := by
    rw [hMulT_ii, mulL (by omega), Int.natCast_mul]
  generalize repD o t l n = R at *
  unfold x_Repeated__size b_Repeated__size
  generalize fldE "Repeated" "places" (loc 0) = F1 at *
  generalize fldE "Repeated" "repetitions" (loc 0) = F2 at *
  generalize opLen = OL at *
  generalize hMulT = HM at *
  generalize placesD false t l = PL at *
  generalize (l.length : Int) = ll at *
  generalize ((l.length * n : Nat) : Int) = LN at *
  cases o <;> simp [mkF, reFrz, seq, Pm.ite, rtn, mov, asg, drp, sNx, bnd, Pm.bin, Pm.un, app, aCons, aNil, idx, loc, con, Pm.ret, peek1, peeks, itemOf, on2I, iAdd, iSub, iGt, iGe, iLt, iLe, iDiv, iMod, use1, useL, gI, gN, tst, andT, orT, notT, andE, orE, notE, ifE, ixN, D.frz, D.plain, plainL, argsBack, opLen, opAbs, opInt1, opNeg, disp, cap, callF, takes, puts, selA, sel, aApp, par, gT, gsC, gs0, appF, opDivmod, frzL, plainL, f1, f2, h1, h2, pl]
theorem need_turn (hl : l.length ≤ 1000) {TT d : D} (dp : d.plain = true) (hb : x_is_between [d, .int 0, .int ((l.length * n : Nat) - 1 : Int)] = .ret (.bl true) [d, .int 0, .int ((l.length * n : Nat) - 1 : Int)]) :
    b_Repeated__need_1 [some (repD o t l n), some TT, some d] = .ok .nx [some (repD o t l n), some TT, some d] := by
  have f1 := fun ρ => c_rep (o := o) (t := t) (l := l) (n := n) (i := 0) (ρ := some (repD o t l n) :: ρ) r_size rfl
  have pl := repD_plain o t l n
  have hs := size_ok (o := o) (t := t) (n := n) hl
  generalize repD o t l n = R at *
  unfold b_Repeated__need_1
  generalize chk "Repeated" "size" (loc 0) = F1 at *
  generalize x_Repeated__size = XS at *
  generalize x_is_between = XB at *
  generalize ((l.length * n : Nat) : Int) = LN at *
  cases o <;> simp [noX, mkF, reFrz, seq, Pm.ite, rtn, mov, asg, drp, sNx, bnd, Pm.bin, Pm.un, app, aCons, aNil, idx, loc, con, Pm.ret, peek1, peeks, itemOf, on2I, iAdd, iSub, iGt, iGe, iLt, iLe, iDiv, iMod, use1, useL, gI, gN, tst, andT, orT, notT, andE, orE, notE, ifE, ixN, D.frz, D.plain, plainL, argsBack, opLen, opAbs, opInt1, opNeg, disp, cap, callF, takes, puts, selA, sel, aApp, par, gT, gsC, gs0, appF, opDivmod, frzL, plainL, f1, hs, hb, pl, dp]
theorem need1_ok (hl : l.length ≤ 1000) {d : D} (dp : d.plain = true) (hb : x_is_between [d, .int 0, .int ((l.length * n : Nat) - 1 : Int)] = .ret (.bl true) [d, .int 0, .int ((l.length * n : Nat) - 1 : Int)]) :
    x_Repeated__need [repD o t l n, d] = .ret .non [repD o t l n, d] := by
  have t1 := need_turn (o := o) (t := t) (n := n) hl (TT := .node false .tup [d]) dp hb
  have pl := repD_plain o t l n
  have df := D.frz_of_plain _ dp
  generalize repD o t l n = R at *
  unfold x_Repeated__need b_Repeated__need
  generalize b_Repeated__need_1 = B1 at *
  cases o <;> simp [starM, forS, forIt, srcA, mkF, reFrz, seq, Pm.ite, rtn, mov, asg, drp, sNx, bnd, Pm.bin, Pm.un, app, aCons, aNil, idx, loc, con, Pm.ret, peek1, peeks, itemOf, on2I, iAdd, iSub, iGt, iGe, iLt, iLe, iDiv, iMod, use1, useL, gI, gN, tst, andT, orT, notT, andE, orE, notE, ifE, ixN, D.frz, D.plain, plainL, argsBack, opLen, opAbs, opInt1, opNeg, disp, cap, callF, takes, puts, selA, sel, aApp, par, gT, gsC, gs0, appF, opDivmod, frzL, plainL, t1, pl, dp, df, frzL]
theorem btw_k {k m : Nat} (h : k < m) : x_is_between [.int (k : Int), .int 0, .int ((m : Nat) - 1 : Int)] = .ret (.bl true) [.int (k : Int), .int 0, .int ((m : Nat) - 1 : Int)] := by
  have := between_i (k : Int) 0 ((m : Nat) - 1 : Int)
  rw [decide_eq_true ⟨by omega, by omega⟩] at this
  exact this
theorem need_k (hl : l.length ≤ 1000) {k : Nat} (hk : k < l.length * n) : x_Repeated__need [repD o t l n, .int (k : Int)] = .ret .non [repD o t l n, .int (k : Int)] := need1_ok hl rfl (btw_k hk)
/-- the place i -/
def plcD (t : List RowT) (l : List Nat) (i : Nat) : D := placeD false t l i (l.getD i 0)
theorem plcD_plain (t : List RowT) (l : List Nat) (i : Nat) : (plcD t l i).plain = true := rfl
theorem places_get {t : List RowT} {l : List Nat} {i : Nat} (hi : i < l.length) : (placesD false t l)[i]? = some (plcD t l i) := by
  unfold placesD plcD
  rw [List.getElem?_map, List.getElem?_zipIdx, List.getElem?_eq_getElem hi]
  simp [List.getD_eq_getElem?_getD, hi]
theorem places_at {t : List RowT} {l : List Nat} {i : Nat} (hi : i < l.length) : atI (placesD false t l) (i : Int) = some (plcD t l i) := by
  unfold atI
  rw [ix_nat (by rw [places_len]; exact hi)]
  exact places_get hi
/-- the strength of the place i in the first repetition; what it loses with each repetition -/
def strF (t : List RowT) (l : List Nat) (i : Nat) : Int := (rowOf t (l.getD i 0)).2.1 - ((l.take i).count (l.getD i 0) : Nat) * (rowOf t (l.getD i 0)).2.2
def losF (t : List RowT) (l : List Nat) (i : Nat) : Int := (l.count (l.getD i 0) : Nat) * (rowOf t (l.getD i 0)).2.2
theorem lk5 {a b c d e : D} : ((["mark", "first_use", "uses", "first_strength", "loss"] : List Str).zip [a, b, c, d, e]).lookup ("mark" : Str) = some a ∧ ((["mark", "first_use", "uses", "first_strength", "loss"] : List Str).zip [a, b, c, d, e]).lookup ("first_use" : Str) = some b
    ∧ ((["mark", "first_use", "uses", "first_strength", "loss"] : List Str).zip [a, b, c, d, e]).lookup ("uses" : Str) = some c ∧ ((["mark", "first_use", "uses", "first_strength", "loss"] : List Str).zip [a, b, c, d, e]).lookup ("first_strength" : Str) = some d
    ∧ ((["mark", "first_use", "uses", "first_strength", "loss"] : List Str).zip [a, b, c, d, e]).lookup ("loss" : Str) = some e := by
  have h1 : (("first_use" : Str) == ("mark" : Str)) = false := by decide +kernel
  have h2 : (("uses" : Str) == ("mark" : Str)) = false := by decide +kernel
  have h3 : (("uses" : Str) == ("first_use" : Str)) = false := by decide +kernel
  have h4 : (("first_strength" : Str) == ("mark" : Str)) = false := by decide +kernel
  have h5 : (("first_strength" : Str) == ("first_use" : Str)) = false := by decide +kernel
  have h6 : (("first_strength" : Str) == ("uses" : Str)) = false := by decide +kernel
  have h7 : (("loss" : Str) == ("mark" : Str)) = false := by decide +kernel
  have h8 : (("loss" : Str) == ("first_use" : Str)) = false := by decide +kernel
  have h9 : (("loss" : Str) == ("uses" : Str)) = false := by decide +kernel
  have h10 : (("loss" : Str) == ("first_strength" : Str)) = false := by decide +kernel
  refine ⟨?_, ?_, ?_, ?_, ?_⟩ <;> simp [List.lookup, h1, h2, h3, h4, h5, h6, h7, h8, h9, h10]
section
variable {i j : Nat} {ρ : Pm.Env}
theorem p_st (h : ρ.getD j none = some (plcD t l i)) : fldE "Place" "first_strength" (loc j) ρ = .ok (.val (.int (strF t l i))) ρ := fld_of h lk5.2.2.2.1 rfl
theorem p_lo (h : ρ.getD j none = some (plcD t l i)) : fldE "Place" "loss" (loc j) ρ = .ok (.val (.int (losF t l i))) ρ := fld_of h lk5.2.2.2.2 rfl
theorem p_chk {m : Str} (hm : m ∉ (["mark", "first_use", "uses", "first_strength", "loss"] : List Str)) (h : ρ.getD j none = some (plcD t l i)) : chk "Place" m (loc j) ρ = .ok (.ref j) ρ := chk_of h hm
end
theorem r_strength : ("strength" : Str) ∉ (["mark", "first_use", "uses", "first_strength", "loss"] : List Str) := by decide +kernel
/-- the numbers of a table are small -/
theorem row_small {t : List RowT} (ht : Rws t) {c : Nat} (h : c ∈ lets t) : -1000000000000 ≤ (rowOf t c).2.1 ∧ (rowOf t c).2.1 ≤ 1000000000000 ∧ -1000000000000 ≤ (rowOf t c).2.2 ∧ (rowOf t c).2.2 ≤ 1000000000000 := ht.num _ (row_mem h)
theorem getD_mem' {l : List Nat} {i : Nat} (hi : i < l.length) : l.getD i 0 ∈ l := by
  rw [List.getD_eq_getElem?_getD, List.getElem?_eq_getElem hi]
  exact List.getElem_mem hi
theorem nat_mul_small {u : Nat} {x : Int} (hu : u ≤ 1000) (h1 : -1000000000000 ≤ x) (h2 : x ≤ 1000000000000) : -1000000000000000 ≤ (u : Int) * x ∧ (u : Int) * x ≤ 1000000000000000 := by
  have a1 : (u : Int) * x ≤ (u : Int) * 1000000000000 := Int.mul_le_mul_of_nonneg_left h2 (by omega)
  have a2 : (u : Int) * (-1000000000000) ≤ (u : Int) * x := Int.mul_le_mul_of_nonneg_left h1 (by omega)
  omega
theorem los_small (ht : Rws t) (hl : l.length ≤ 1000) (hin : ∀ c ∈ l, c ∈ lets t) {i : Nat} (hi : i < l.length) : -1000000000000000 ≤ losF t l i ∧ losF t l i ≤ 1000000000000000 := by
  have h := row_small ht (hin _ (getD_mem' hi))
  exact nat_mul_small (Nat.le_trans List.count_le_length hl) h.2.2.1 h.2.2.2
theorem pstr_ok (ht : Rws t) (hl : l.length ≤ 1000) (hin : ∀ c ∈ l, c ∈ lets t) {i : Nat} (hi : i < l.length) (q : Int) : x_Place__strength [plcD t l i, .int q] = .ret (.int (strF t l i - q * losF t l i)) [plcD t l i, .int q] := by
  have f1 := fun ρ => p_st (t := t) (l := l) (i := i) (j := 0) (ρ := some (plcD t l i) :: ρ) rfl
  have f2 := fun ρ => p_lo (t := t) (l := l) (i := i) (j := 0) (ρ := some (plcD t l i) :: ρ) rfl
  have hs := los_small ht hl hin hi
  have pl := plcD_plain t l i
  have h1 : hMulT [.int q, .int (losF t l i)] = some (.int (q * losF t l i)) := by rw [hMulT_ii, mulR (by omega)]
  generalize plcD t l i = P at *
  unfold x_Place__strength b_Place__strength
  generalize fldE "Place" "first_strength" (loc 0) = F1 at *
  generalize fldE "Place" "loss" (loc 0) = F2 at *
  generalize hMulT = HM at *
  generalize strF t l i = a at *
  generalize losF t l i = b at *
  simp [mkF, reFrz, seq, Pm.ite, rtn, mov, asg, drp, sNx, bnd, Pm.bin, Pm.un, app, aCons, aNil, idx, loc, con, Pm.ret, peek1, peeks, itemOf, on2I, iAdd, iSub, iGt, iGe, iLt, iLe, iDiv, iMod, use1, useL, gI, gN, tst, andT, orT, notT, andE, orE, notE, ifE, ixN, D.frz, D.plain, plainL, argsBack, opLen, opAbs, opInt1, opNeg, disp, cap, callF, takes, puts, selA, sel, aApp, par, gT, gsC, gs0, appF, opDivmod, frzL, plainL, f1, f2, h1, pl]
theorem at_ok (hl : l.length ≤ 1000) {k : Nat} (h0 : 0 < l.length) : x_Repeated__at [repD o t l n, .int (k : Int)] = .ret (.node false .tup [plcD t l (k % l.length), .int ((k / l.length : Nat) : Int)]) [repD o t l n, .int (k : Int)] := by
  have f1 := fun ρ => f_pls (o := o) (t := t) (l := l) (n := n) (i := 0) (ρ := some (repD o t l n) :: ρ) rfl
  have pl := repD_plain o t l n
  have h1 : opLen [.node false .lst (placesD false t l)] = some (.int (l.length : Int)) := by
    show some (D.int ((placesD false t l).length : Int)) = _
    rw [places_len]
  have h2 : opDivmod [.int (k : Int), .int (l.length : Int)] = some (.tup [.int ((k / l.length : Nat) : Int), .int ((k % l.length : Nat) : Int)]) := by
    show (if (0 : Int) < (l.length : Int) then (if divOk (l.length : Int) = true then some (D.tup [.int ((k : Int) / (l.length : Int)), .int ((k : Int) % (l.length : Int))]) else none) else none) = _
    rw [if_pos (by omega), if_pos (divS (by omega) (by omega))]
    simp
  have h3 := places_at (t := t) (l := l) (i := k % l.length) (Nat.mod_lt _ h0)
  have pp := plcD_plain t l (k % l.length)
  have fp := D.frz_of_plain _ pp
  generalize plcD t l (k % l.length) = P at *
  generalize repD o t l n = R at *
  unfold x_Repeated__at b_Repeated__at
  generalize fldE "Repeated" "places" (loc 0) = F1 at *
  generalize opLen = OL at *
  generalize hdm : opDivmod = OD at *
  generalize placesD false t l = PL at *
  generalize (l.length : Int) = ll at *
  generalize ((k / l.length : Nat) : Int) = q at *
  generalize ((k % l.length : Nat) : Int) = r at *
  generalize (k : Int) = kk at *
  cases o <;> simp [gT, gsC, gs0, appF, mkF, reFrz, seq, Pm.ite, rtn, mov, asg, drp, sNx, bnd, Pm.bin, Pm.un, app, aCons, aNil, idx, loc, con, Pm.ret, peek1, peeks, itemOf, on2I, iAdd, iSub, iGt, iGe, iLt, iLe, iDiv, iMod, use1, useL, gI, gN, tst, andT, orT, notT, andE, orE, notE, ifE, D.frz, D.plain, plainL, argsBack, opAbs, opInt1, opNeg, disp, cap, callF, takes, puts, selA, sel, aApp, par, gT, gsC, gs0, appF, frzL, plainL, f1, h1, h2, h3, pl, pp, fp, frzL, plainL]
end
end Rp
namespace Rp
open PySem PySem.Spec PyProof.Rows L2 Pm
open Pg (sg rowD tabD abc_T rows_plain tabD_plain tabD_frz dr divS ABC get_sg x_is_integer x_is_between between_i between_ok btwB Fi ix_nat)
open Sc (Rws RowT)
section
variable {o : Bool} {t : List RowT} {l : List Nat} {n : Nat}
def strK (t : List RowT) (l : List Nat) (k : Nat) : Int := strF t l (k % l.length) - ((k / l.length : Nat) : Int) * losF t l (k % l.length)
theorem strength_ok (ht : Rws t) (hl : l.length ≤ 1000) (hin : ∀ c ∈ l, c ∈ lets t) {k : Nat} (hk : k < l.length * n) : x_Repeated__strength_of [repD o t l n, .int (k : Int)] = .ret (.int (strK t l k)) [repD o t l n, .int (k : Int)] := by
  have h0 : 0 < l.length := Nat.pos_of_ne_zero fun e => by rw [e] at hk; omega
  have f1 := fun ρ => c_rep (o := o) (t := t) (l := l) (n := n) (i := 0) (ρ := some (repD o t l n) :: ρ) r_need rfl
  have f2 := fun ρ => c_rep (o := o) (t := t) (l := l) (n := n) (i := 0) (ρ := some (repD o t l n) :: ρ) r_at rfl
  have pl := repD_plain o t l n
  have e1 := need_k (o := o) (t := t) hl hk
  have e2 := at_ok (o := o) (t := t) (n := n) hl (k := k) h0
  have e3 := pstr_ok ht hl hin (i := k % l.length) (Nat.mod_lt _ h0) ((k / l.length : Nat) : Int)
  have f3 := fun a b ρ => p_chk (t := t) (l := l) (i := k % l.length) (j := 2) (ρ := a :: b :: some (plcD t l (k % l.length)) :: ρ) r_strength rfl
  have pp := plcD_plain t l (k % l.length)
  have fp := D.frz_of_plain _ pp
  change _ = FR.ret (D.int (strK t l k)) _ at e3
  generalize strK t l k = U at *
  generalize plcD t l (k % l.length) = P at *
  generalize repD o t l n = R at *
  unfold x_Repeated__strength_of b_Repeated__strength_of
  generalize chk "Repeated" "need" (loc 0) = F1 at *
  generalize chk "Repeated" "at" (loc 0) = F2 at *
  generalize chk "Place" "strength" (loc 2) = F3 at *
  generalize x_Repeated__need = XN at *
  generalize x_Repeated__at = XA at *
  generalize x_Place__strength = XP at *
  generalize ((k / l.length : Nat) : Int) = q at *
  generalize (k : Int) = kk at *
  cases o <;> simp [mkF, reFrz, seq, Pm.ite, rtn, mov, asg, drp, sNx, bnd, Pm.bin, Pm.un, app, aCons, aNil, idx, loc, con, Pm.ret, peek1, peeks, itemOf, on2I, iAdd, iSub, iGt, iGe, iLt, iLe, iDiv, iMod, use1, useL, gI, gN, tst, andT, orT, notT, andE, orE, notE, ifE, ixN, D.frz, D.plain, plainL, argsBack, opLen, opAbs, opInt1, opNeg, disp, cap, callF, takes, puts, selA, sel, aApp, par, gT, gsC, gs0, appF, opDivmod, frzL, plainL, f1, f2, f3, e1, e2, e3, pl, pp, fp]
end
end Rp
set_option maxHeartbeats 1000000
namespace Pg
open PySem PySem.Spec PyProof.Rows L2 Pm
noncomputable def b_ldrawn_book_1 (S : FSem) : M Fl := (seq (asg (disp true .lst (aCons (Pm.bin (on2I iSub) (callF S (aCons (loc 0) (aCons (con (.int 9)) aNil))) (con (.int 4))) (aCons (Pm.bin (on2I iSub) (callF S (aCons (loc 0) (aCons (con (.int 9)) aNil))) (con (.int 4))) (aCons (con (.int 2)) (aCons (callF S (aCons (loc 0) (aCons (con (.int 5)) aNil))) (aCons (Pm.bin (on2I iSub) (Pm.bin (on2I iPow) (con (.int 10)) (con (.int 12))) (callF S (aCons (loc 0) (aCons (con (.int 3)) aNil)))) aNil)))))) (gN 7))
    (seq (asg (disp true .lst (aCons (Pm.bin (on2I iSub) (callF S (aCons (loc 0) (aCons (con (.int 5)) aNil))) (con (.int 2))) (aCons (con (.int 0)) (aCons (Pm.bin (on2I iSub) (callF S (aCons (loc 0) (aCons (con (.int 5)) aNil))) (con (.int 2))) (aCons (Pm.bin (on2I iSub) (con (.int 0)) (callF S (aCons (loc 0) (aCons (con (.int 4)) aNil)))) (aCons (Pm.bin (on2I iPow) (con (.int 10)) (con (.int 12))) aNil)))))) (gN 8))
    (seq (asg (idx (aCons (disp true .lst (aCons (con (.int 1)) (aCons (Pm.un opNeg (con (.int 1))) aNil))) (aCons (callF S (aCons (loc 0) (aCons (con (.int 2)) aNil))) aNil))) (gN 9))
    (drp (appd 5 (disp false .tup (aCons (loc 6) (aCons (Pm.bin hMulT (idx (aCons (Pm.bin hAdd (loc 7) (disp true .lst (aCons (con (.int 5)) aNil))) (aCons (loc 4) aNil))) (idx (aCons (disp true .lst (aCons (con (.int 1)) (aCons (loc 9) aNil))) (aCons (app opInt (aCons (Pm.bin opEq (loc 4) (con (.int 4))) aNil)) aNil)))) (aCons (idx (aCons (Pm.bin hAdd (loc 8) (disp true .lst (aCons (Pm.bin hAdd (Pm.un opNeg (Pm.bin (on2I iPow) (con (.int 10)) (con (.int 12)))) (con (.int 1))) aNil))) (aCons (loc 4) aNil))) aNil)))))))))
theorem at6 {P : Int → Prop} {x0 x1 x2 x3 x4 x5 r : Int} (h0 : 0 ≤ r) (h1 : r < 6) (p0 : P x0) (p1 : P x1) (p2 : P x2) (p3 : P x3) (p4 : P x4) (p5 : P x5) : ∃ q, atI [D.int x0, .int x1, .int x2, .int x3, .int x4, .int x5] r = some (.int q) ∧ P q := by
  have : r = 0 ∨ r = 1 ∨ r = 2 ∨ r = 3 ∨ r = 4 ∨ r = 5 := by omega
  rcases this with rfl | rfl | rfl | rfl | rfl | rfl
  · exact ⟨x0, rfl, p0⟩
  · exact ⟨x1, rfl, p1⟩
  · exact ⟨x2, rfl, p2⟩
  · exact ⟨x3, rfl, p3⟩
  · exact ⟨x4, rfl, p4⟩
  · exact ⟨x5, rfl, p5⟩
/-- one row -/
theorem row_turn {S : FSem} (hS : DrawsK S) {ns : List Int} {a w : Int} {z : D} {LT NM : D} {t : Tab} {c : Nat} {k : Int} {x7 x8 x9 : Option D} (hl : ns.length ≤ 63) (hp : Dk ns a z) (ha : a + 100 ≤ 1000000) (w0 : 0 ≤ w) (w1 : w < 6) (tl : t.length ≤ 100) {Q : Fl → Pm.Env → Prop}
    (hQ : ∀ z' u v x7 x8 x9, Dk ns (a + 8) z' → (-GR ≤ u ∧ u ≤ GR ∧ -GR ≤ v ∧ v ≤ GR) → Q .nx [some z', some (.int k), some LT, some NM, some (.int w), some (.node true .lst ((t ++ [(c, u, v)]).map rowD)), some (sg c), x7, x8, x9, none]) :
    Wp (b_ldrawn_book_1 S) [some z, some (.int k), some LT, some NM, some (.int w), some (.node true .lst (t.map rowD)), some (sg c), x7, x8, x9, none] Q := by
  obtain ⟨r1, z1, e1, a1, b1, p1⟩ := hS ns _ 9 z hl hp (by omega) (by decide) (by decide)
  obtain ⟨r2, z2, e2, a2, b2, p2⟩ := hS ns _ 9 z1 hl p1 (by omega) (by decide) (by decide)
  obtain ⟨r3, z3, e3, a3, b3, p3⟩ := hS ns _ 5 z2 hl p2 (by omega) (by decide) (by decide)
  obtain ⟨r4, z4, e4, a4, b4, p4⟩ := hS ns _ 3 z3 hl p3 (by omega) (by decide) (by decide)
  obtain ⟨r5, z5, e5, a5, b5, p5⟩ := hS ns _ 5 z4 hl p4 (by omega) (by decide) (by decide)
  obtain ⟨r6, z6, e6, a6, b6, p6⟩ := hS ns _ 5 z5 hl p5 (by omega) (by decide) (by decide)
  obtain ⟨r7, z7, e7, a7, b7, p7⟩ := hS ns _ 4 z6 hl p6 (by omega) (by decide) (by decide)
  obtain ⟨r8, z8, e8, a8, b8, p8⟩ := hS ns _ 2 z7 hl p7 (by omega) (by decide) (by decide)
  have o0 := hp.ow
  have o1 := p1.ow
  have o2 := p2.ow
  have o3 := p3.ow
  have o4 := p4.ow
  have o5 := p5.ow
  have o6 := p6.ow
  have o7 := p7.ow
  obtain ⟨u0, f1, u1, u2⟩ := at6 (P := fun q => -GR ≤ q ∧ q ≤ GR) (x0 := r1 - 4) (x1 := r2 - 4) (x2 := 2) (x3 := r3) (x4 := 1000000000000 - r4) (x5 := 5) w0 w1 ⟨by unfold GR; omega, by unfold GR; omega⟩ ⟨by unfold GR; omega, by unfold GR; omega⟩ ⟨by decide, by decide⟩ ⟨by unfold GR; omega, by unfold GR; omega⟩ ⟨by unfold GR; omega, by unfold GR; omega⟩ ⟨by decide, by decide⟩
  obtain ⟨v, f2, v1, v2⟩ := at6 (P := fun q => -GR ≤ q ∧ q ≤ GR) (x0 := r5 - 2) (x1 := 0) (x2 := r6 - 2) (x3 := 0 - r7) (x4 := 1000000000000) (x5 := -1000000000000 + 1) w0 w1 ⟨by unfold GR; omega, by unfold GR; omega⟩ ⟨by decide, by decide⟩ ⟨by unfold GR; omega, by unfold GR; omega⟩ ⟨by unfold GR; omega, by unfold GR; omega⟩ ⟨by decide, by decide⟩ ⟨by decide, by decide⟩
  obtain ⟨sn, f3, hs⟩ : ∃ sn : Int, (∀ ρ : Pm.Env, itemOf (.val (.node true .lst [.int 1, .int (-1)])) r8 ρ = .ok (.val (.int sn)) ρ) ∧ (sn = 1 ∨ sn = -1) := by
    have : r8 = 0 ∨ r8 = 1 := by omega
    rcases this with rfl | rfl
    · exact ⟨1, fun ρ => rfl, .inl rfl⟩
    · exact ⟨-1, fun ρ => rfl, .inr rfl⟩
  obtain ⟨b, fc, f4, hf, f5⟩ : ∃ (b fc : Int), opInt [.bl (w == 4)] = some (.int b) ∧ (fc = 1 ∨ fc = -1) ∧ ∀ ρ : Pm.Env, itemOf (.val (.node true .lst [.int 1, .int sn])) b ρ = .ok (.val (.int fc)) ρ := by
    by_cases h : w = 4
    · subst h
      exact ⟨1, sn, rfl, hs, fun ρ => rfl⟩
    · have : (w == 4) = false := by simpa using h
      rw [this]
      exact ⟨0, 1, rfl, .inl rfl, fun ρ => rfl⟩
  have m1 : hMulT [.int u0, .int fc] = some (.int (u0 * fc)) := by
    rw [hMulT_ii]
    exact mulR (by rcases hf with rfl | rfl <;> decide)
  have hu : -GR ≤ u0 * fc ∧ u0 * fc ≤ GR := by
    rcases hf with rfl | rfl <;> omega
  have q1 : hAdd [.node true .lst [.int (r1 - 4), .int (r2 - 4), .int 2, .int r3, .int (1000000000000 - r4)], .node true .lst [.int 5]] = some (.node true .lst [.int (r1 - 4), .int (r2 - 4), .int 2, .int r3, .int (1000000000000 - r4), .int 5]) := hAdd_ll rfl rfl (by show 5 + 1 ≤ 1000000; omega)
  have q2 : hAdd [.node true .lst [.int (r5 - 2), .int 0, .int (r6 - 2), .int (0 - r7), .int 1000000000000], .node true .lst [.int (-1000000000000 + 1)]] = some (.node true .lst [.int (r5 - 2), .int 0, .int (r6 - 2), .int (0 - r7), .int 1000000000000, .int (-1000000000000 + 1)]) := hAdd_ll rfl rfl (by show 5 + 1 ≤ 1000000; omega)
  have q3 : hAdd [.int (-1000000000000), .int 1] = some (.int (-1000000000000 + 1)) := hAdd_ii _ _
  have i1 : ∀ ρ : Pm.Env, itemOf (.val (.node true .lst [.int (r1 - 4), .int (r2 - 4), .int 2, .int r3, .int (1000000000000 - r4), .int 5])) w ρ = .ok (.val (.int u0)) ρ := fun ρ => by unfold itemOf; simp only [f1]
  have i2 : ∀ ρ : Pm.Env, itemOf (.val (.node true .lst [.int (r5 - 2), .int 0, .int (r6 - 2), .int (0 - r7), .int 1000000000000, .int (-1000000000000 + 1)])) w ρ = .ok (.val (.int v)) ρ := fun ρ => by unfold itemOf; simp only [f2]
  have pw : iPow 10 12 = some (.int 1000000000000) := rfl
  have ng : opNeg [.int 1000000000000] = some (.int (-1000000000000)) := rfl
  have n1 : opNeg [.int 1] = some (.int (-1)) := rfl
  have eq := eq_int' w 4
  have fin := fun x7 x8 x9 => hQ z8 (u0 * fc) v x7 x8 x9 (p8.mono (by omega)) ⟨hu.1, hu.2, v1, v2⟩
  have tc : (t.map rowD).length < 1000000 := by rw [List.length_map]; omega
  rw [List.map_append] at fin
  generalize t.map rowD = TR at *
  clear hQ hS p1 p2 p3 p4 p5 p6 p7 p8 hp a1 b1 a2 b2 a3 b3 a4 b4 a5 b5 a6 b6 a7 b7 a8 b8 f1 f2 hu u1 u2 v1 v2
  unfold b_ldrawn_book_1
  generalize hAdd = HA at *
  generalize hMulT = HM at *
  generalize iPow = IP at *
  generalize opNeg = ON at *
  generalize opInt = OI at *
  generalize opEq = EQ at *
  generalize hR : rowD (c, u0 * fc, v) = RD at *
  refine wp_nx [some z4, some (.int k), some LT, some NM, some (.int w), some (.node true .lst TR), some (sg c), some (.node true .lst [.int (r1 - 4), .int (r2 - 4), .int 2, .int r3, .int (1000000000000 - r4)]), x8, x9, none] ?_ ?_
  · simp [mkF, reFrz, seq, Pm.ite, rtn, mov, asg, drp, sNx, bnd, Pm.bin, Pm.un, app, aCons, aNil, idx, loc, con, Pm.ret, peek1, peeks, itemOf, on2I, iAdd, iSub, iGt, iGe, iLt, iLe, iDiv, iMod, use1, useL, gI, gN, tst, andT, orT, notT, andE, orE, notE, ifE, ixN, D.frz, D.plain, plainL, argsBack, opLen, opAbs, opInt1, opNeg, disp, cap, callF, takes, puts, selA, sel, aApp, par, gT, gsC, gs0, appF, opDivmod, frzL, plainL, e1, e2, e3, e4, o0, o1, o2, o3, pw]
  refine wp_nx [some z7, some (.int k), some LT, some NM, some (.int w), some (.node true .lst TR), some (sg c), some (.node true .lst [.int (r1 - 4), .int (r2 - 4), .int 2, .int r3, .int (1000000000000 - r4)]), some (.node true .lst [.int (r5 - 2), .int 0, .int (r6 - 2), .int (0 - r7), .int 1000000000000]), x9, none] ?_ ?_
  · simp [mkF, reFrz, seq, Pm.ite, rtn, mov, asg, drp, sNx, bnd, Pm.bin, Pm.un, app, aCons, aNil, idx, loc, con, Pm.ret, peek1, peeks, itemOf, on2I, iAdd, iSub, iGt, iGe, iLt, iLe, iDiv, iMod, use1, useL, gI, gN, tst, andT, orT, notT, andE, orE, notE, ifE, ixN, D.frz, D.plain, plainL, argsBack, opLen, opAbs, opInt1, opNeg, disp, cap, callF, takes, puts, selA, sel, aApp, par, gT, gsC, gs0, appF, opDivmod, frzL, plainL, e5, e6, e7, o4, o5, o6, pw]
  refine wp_nx [some z8, some (.int k), some LT, some NM, some (.int w), some (.node true .lst TR), some (sg c), some (.node true .lst [.int (r1 - 4), .int (r2 - 4), .int 2, .int r3, .int (1000000000000 - r4)]), some (.node true .lst [.int (r5 - 2), .int 0, .int (r6 - 2), .int (0 - r7), .int 1000000000000]), some (.int sn), none] ?_ ?_
  · simp [mkF, reFrz, seq, Pm.ite, rtn, mov, asg, drp, sNx, bnd, Pm.bin, Pm.un, app, aCons, aNil, idx, loc, con, Pm.ret, peek1, peeks, on2I, iAdd, iSub, iGt, iGe, iLt, iLe, iDiv, iMod, use1, useL, gN, tst, andT, orT, notT, andE, orE, notE, ifE, ixN, D.frz, D.plain, plainL, argsBack, opLen, opAbs, opInt1, opNeg, disp, cap, callF, takes, puts, selA, sel, aApp, par, gT, gsC, gs0, appF, opDivmod, frzL, plainL, e8, o7, n1, f3, gN]
  have fin' := fin (some (.node true .lst [.int (r1 - 4), .int (r2 - 4), .int 2, .int r3, .int (1000000000000 - r4)])) (some (.node true .lst [.int (r5 - 2), .int 0, .int (r6 - 2), .int (0 - r7), .int 1000000000000])) (some (.int sn))
  rw [List.map_cons, List.map_nil, hR] at fin'
  clear fin
  generalize (-1000000000000 + 1 : Int) = G9 at *
  generalize (D.node true .lst [.int (r1 - 4), .int (r2 - 4), .int 2, .int r3, .int (1000000000000 - r4), .int 5]) = U1 at *
  generalize (D.node true .lst [.int (r1 - 4), .int (r2 - 4), .int 2, .int r3, .int (1000000000000 - r4)]) = O1 at *
  generalize (D.node true .lst [.int (r5 - 2), .int 0, .int (r6 - 2), .int (0 - r7), .int 1000000000000, .int G9]) = U2 at *
  generalize (D.node true .lst [.int (r5 - 2), .int 0, .int (r6 - 2), .int (0 - r7), .int 1000000000000]) = O2 at *
  refine Wp.of (a := .nx) (ρ' := [some z8, some (.int k), some LT, some NM, some (.int w), some (.node true .lst (TR ++ [RD])), some (sg c), some O1, some O2, some (.int sn), none]) ?_ fin'
  have sf : (sg c).frz = sg c := rfl
  have hR' : D.node false .tup [sg c, .int (u0 * fc), .int v] = RD := hR
  simp [mkF, reFrz, seq, Pm.ite, rtn, mov, asg, drp, sNx, bnd, Pm.bin, Pm.un, app, aCons, aNil, idx, loc, con, Pm.ret, peek1, peeks, on2I, iAdd, iSub, iGt, iGe, iLt, iLe, iDiv, iMod, use1, useL, gN, tst, andT, orT, notT, andE, orE, notE, ifE, ixN, D.frz, D.plain, plainL, argsBack, opLen, opAbs, opInt1, opNeg, disp, cap, callF, takes, puts, selA, sel, aApp, par, gT, gsC, gs0, appF, opDivmod, frzL, plainL, q1, i1, eq, f4, f5, m1, q2, q3, i2, pw, ng, appd, tc, sf, hR']
end Pg
set_option maxHeartbeats 1000000
namespace Pg
open PySem PySem.Spec PyProof.Rows L2 Pm
end Pg
set_option maxHeartbeats 1000000
namespace Pg
open PySem PySem.Spec PyProof.Rows L2 Pm
end Pg
namespace Rp
open PySem PySem.Spec PyProof.Rows L2 Pm
open Pg (sg rowD tabD abc_T rows_plain tabD_plain tabD_frz dr divS ABC get_sg ix_nat cnt_T take_T tab_src)
open Sc (Rws RowT)
theorem eq_sg (a b : Nat) : opEq [sg a, sg b] = some (.bl (decide (a = b))) := by
  show some (D.bl (T [a] == T [b])) = _
  congr 2
  by_cases h : a = b
  · subst h; simp
  · have : ¬ T [a] = T [b] := fun e => h (by have := T_inj e; simpa using this)
    simp [h, this]
def isL (c : Nat) : D → Bool
  | .node _ _ (.str s :: _) => s == T [c]
  | _ => false
end Rp
namespace Rp
open PySem PySem.Spec PyProof.Rows L2 Pm
open Pg (sg rowD tabD abc_T rows_plain tabD_plain tabD_frz dr divS ABC get_sg ix_nat cnt_T take_T tab_src Fi btwB)
open Sc (Rws RowT)
end Rp
namespace Sc
open PySem PySem.Spec PyProof.Rows L2 Pm
open Pg (sg rowD tabD)
open TL (numL joinL)
end Sc
namespace Sc
open PySem PySem.Spec PyProof.Rows L2 Pm
open Pg (sg)
end Sc
namespace Pm
open PySem PySem.Spec PyProof.Rows L2
def We {α : Type} (m : M α) (ρ : Env) (Q : α → Env → Prop) (R : XD → Env → Prop) : Prop := (∃ a ρ', m ρ = .ok a ρ' ∧ Q a ρ') ∨ ∃ x ρ', m ρ = .exc x ρ' ∧ R x ρ'
theorem We.w {α : Type} {m : M α} {ρ : Env} {Q : α → Env → Prop} {R : XD → Env → Prop} (h : Wp m ρ Q) : We m ρ Q R := by
  obtain ⟨a, ρ', e, q⟩ := h.ok
  exact .inl ⟨a, ρ', e, q⟩
theorem We.of {α : Type} {m : M α} {ρ ρ' : Env} {a : α} {Q : α → Env → Prop} {R : XD → Env → Prop} (e : m ρ = .ok a ρ') (q : Q a ρ') : We m ρ Q R := .inl ⟨a, ρ', e, q⟩
end Pm
namespace Sc
open PySem PySem.Spec PyProof.Rows L2 Pm
open Pg (sg x_is_between abc_T)
open TL (numL numL_digits numL_val numL_ne numL_lt numL_step joinL)
noncomputable def t_Scanner__take_times_1 : M Bool := (tst (callF x_Scanner__sees (aCons (chk "Scanner" "sees" (loc 0)) (aCons (con (.str "0123456789")) aNil))))
noncomputable def b_Scanner__take_times_1 : M Fl := (asg (Pm.bin gAdd (loc 1) (callF x_Scanner__take (aCons (chk "Scanner" "take" (loc 0)) (aCons (con (.str "0123456789")) aNil)))) (gN 1))
noncomputable def b_Scanner__take_times : M Fl := (seq (asg (callF x_Scanner__take (aCons (chk "Scanner" "take" (loc 0)) (aCons (con (.str "123456789")) aNil))) (gN 1))
    (seq (Pm.ite (tst (Pm.bin opEq (loc 1) (con (.str "1")))) (asg (Pm.bin gAdd (loc 1) (callF x_Scanner__take (aCons (chk "Scanner" "take" (loc 0)) (aCons (con (.str "0123456789")) aNil)))) (gN 1)) sNx)
    (seq (whl t_Scanner__take_times_1 b_Scanner__take_times_1)
    (rtn (app opInt (aCons (loc 1) aNil))))))
noncomputable def x_Scanner__take_times : FSem := mkF 1 2 [] b_Scanner__take_times
theorem lit1 : (("1" : String) : Str) = T [49] := lit rfl
section
variable {src : List Nat} {k : Nat}
theorem eq_TT (a b : List Nat) : opEq [.str (T a), .str (T b)] = some (.bl (decide (a = b))) := by
  rw [eq_ss]
  by_cases h : a = b
  · rw [h, decide_eq_true rfl]; simp
  · have : (T a == T b) = false := beq_eq_false_iff_ne.mpr fun e => h (T_inj e)
    rw [this, decide_eq_false h]
theorem times_ok {c : Nat} (hl : src.length ≤ 1000000) (hc : src[k]? = some c) (h1 : 49 ≤ c) (h2 : c ≤ 57) (hr : (run src (k + 1)).length < 600) (hn : c = 49 → run src (k + 1) ≠ []) :
    x_Scanner__take_times [scD src k] = .ret (.int ((NumText.digitsVal (c :: run src (k + 1)) : Nat) : Int)) [scD src (k + 1 + (run src (k + 1)).length)] := by
  have hlt := (List.getElem?_eq_some_iff.mp hc).1
  have hrl : k + 1 + (run src (k + 1)).length ≤ src.length := by
    rcases run_len (src := src) (k := k + 1) with h | h
    · exact h
    · omega
  generalize hN : ((NumText.digitsVal (c :: run src (k + 1)) : Nat) : Int) = N
  have oi : opInt [.str (T (c :: run src (k + 1)))] = some (.int N) := by
    show (if (T (c :: run src (k + 1))).length ≤ 640 then (PySem.intText? (T (c :: run src (k + 1)))).map D.int else none) = _
    have ad : NumText.AllDigits (T (c :: run src (k + 1))).cps.toList := by
      intro x hx
      have hx : x ∈ c :: run src (k + 1) := hx
      rcases List.mem_cons.mp hx with rfl | hx
      · omega
      · have h3 := List.all_takeWhile (p := isDg) (l := src.drop (k + 1))
        rw [List.all_eq_true] at h3
        exact isDg_iff.mp (h3 x hx)
    have := intText_digits ad (by show c :: run src (k + 1) ≠ []; simp) (by rw [T_len, List.length_cons]; omega)
    rw [T_len, List.length_cons, if_pos (by omega), this]
    show some (D.int ((NumText.digitsVal (c :: run src (k + 1)) : Nat) : Int)) = _
    rw [hN]
  have gat : ∀ (j d : Nat), (run src (k + 1))[j]? = some d → j < (run src (k + 1)).length → gAdd [.str (T (c :: (run src (k + 1)).take j)), .str (T [d])] = some (.str (T (c :: (run src (k + 1)).take (j + 1)))) := fun j d e2 hj => by
    have hlen : (c :: (run src (k + 1)).take j).length + [d].length ≤ 1000000 := by
      rw [List.length_cons, List.length_take]
      simp
      omega
    show (if (T (c :: (run src (k + 1)).take j)).length + (T [d]).length ≤ 1000000 then some (D.str (T (c :: (run src (k + 1)).take j) ++ T [d])) else none) = _
    rw [T_len, T_len, if_pos hlen, T_app, List.take_add_one, e2]
    rfl
  have hw : Wf x_Scanner__take_times [scD src k] fun d as => d = .int N ∧ as = [scD src (k + 1 + (run src (k + 1)).length)] := by
    have f3 := fun k ρ => chk_ok (src := src) (k := k) (i := 0) (ρ := some (scD src k) :: ρ) m2 rfl
    have f4 := fun k ρ => chk_ok (src := src) (k := k) (i := 0) (ρ := some (scD src k) :: ρ) m3 rfl
    have tk := take_ok (cs := NZ) hl hc (by simp [NZ]; omega)
    have pl := fun k => scD_pl src k
    have fin : Pm.Fin [] [scD src k] (fun d as => d = .int N ∧ as = [scD src (k + 1 + (run src (k + 1)).length)]) (.rt (.int N)) [some (scD src (k + 1 + (run src (k + 1)).length)), some (.str (T (c :: run src (k + 1))))] := ⟨[scD src (k + 1 + (run src (k + 1)).length)], by simp [argsBack, reFrz, pl], rfl, rfl⟩
    unfold x_Scanner__take_times
    refine wf_mkF ?_
    unfold b_Scanner__take_times t_Scanner__take_times_1 b_Scanner__take_times_1
    rw [lit1, litn, litd]
    show Wp _ [some (scD src k), none] _
    generalize (fun (d : D) (as : List D) => d = .int N ∧ as = [scD src (k + 1 + (run src (k + 1)).length)]) = QQ at *
    refine wp_seq fun K k1 k2 k3 k4 => ?_
    have s2 : asg (callF x_Scanner__take (aCons (chk "Scanner" "take" (loc 0)) (aCons (con (.str (T NZ))) aNil))) (gN 1) [some (scD src k), none] = .ok .nx [some (scD src (k + 1)), some (.str (T [c]))] := by
      have f4 := f4 k
      have pl := pl k
      generalize scD src (k + 1) = SD1 at *
      generalize scD src k = SD at *
      generalize T NZ = TZ at *
      generalize T [c] = TC at *
      generalize chk "Scanner" "take" (loc 0) = F4 at *
      generalize x_Scanner__take = XT at *
      simp [mkF, reFrz, seq, Pm.ite, rtn, mov, asg, drp, sNx, bnd, Pm.bin, Pm.un, app, aCons, aNil, idx, loc, con, Pm.ret, peek1, peeks, itemOf, on2I, iAdd, iSub, iGt, iGe, iLt, iLe, iDiv, iMod, use1, useL, gI, gN, tst, andT, orT, notT, andE, orE, notE, ifE, ixN, D.frz, D.plain, plainL, argsBack, opLen, opAbs, opInt1, opNeg, disp, cap, callF, takes, puts, selA, sel, aApp, par, gT, gsC, gs0, appF, opDivmod, frzL, plainL, f4, tk, pl]
    refine Wp.of s2 (k1 _ ?_)
    clear k1 k2 k3 k4 K s2
    refine wp_seq fun K k1 k2 k3 k4 => ?_
    obtain ⟨j0, hj0, s3⟩ : ∃ j0, j0 ≤ (run src (k + 1)).length ∧ Pm.ite (tst (Pm.bin opEq (loc 1) (con (.str (T [49]))))) (asg (Pm.bin gAdd (loc 1) (callF x_Scanner__take (aCons (chk "Scanner" "take" (loc 0)) (aCons (con (.str (T DG))) aNil)))) (gN 1)) sNx [some (scD src (k + 1)), some (.str (T [c]))] = .ok .nx [some (scD src (k + 1 + j0)), some (.str (T (c :: (run src (k + 1)).take j0)))] := by
      have eq := eq_TT [c] [49]
      by_cases h49 : c = 49
      · have hne := hn h49
        have h0 : 0 < (run src (k + 1)).length := List.length_pos_iff.mpr hne
        obtain ⟨d, e1, e2, e3⟩ := run_at (src := src) (k := k + 1) (j := 0) h0
        have ga := gat 0 d e2 h0
        have tk := take_ok (cs := DG) hl e1 e3
        refine ⟨1, h0, ?_⟩
        rw [decide_eq_true (by rw [h49])] at eq
        rw [Nat.add_zero] at tk
        have f4 := f4 (k + 1)
        have pl := pl (k + 1)
        rw [List.take_zero] at ga
        generalize scD src (k + 1 + 1) = SD1 at *
        generalize scD src (k + 1) = SD at *
        generalize T DG = TZ at *
        generalize T (c :: (run src (k + 1)).take (0 + 1)) = TC1 at *
        generalize T [c] = TC at *
        generalize T [d] = TD at *
        generalize T [49] = T49 at *
        generalize chk "Scanner" "take" (loc 0) = F4 at *
        generalize x_Scanner__take = XT at *
        generalize gAdd = GA at *
        generalize opEq = OE at *
        simp [mkF, reFrz, seq, Pm.ite, rtn, mov, asg, drp, sNx, bnd, Pm.bin, Pm.un, app, aCons, aNil, idx, loc, con, Pm.ret, peek1, peeks, itemOf, on2I, iAdd, iSub, iGt, iGe, iLt, iLe, iDiv, iMod, use1, useL, gI, gN, tst, andT, orT, notT, andE, orE, notE, ifE, ixN, D.frz, D.plain, plainL, argsBack, opLen, opAbs, opInt1, opNeg, disp, cap, callF, takes, puts, selA, sel, aApp, par, gT, gsC, gs0, appF, opDivmod, frzL, plainL, f4, tk, ga, pl, eq]
      · refine ⟨0, Nat.zero_le _, ?_⟩
        rw [decide_eq_false (by simpa using h49)] at eq
        rw [List.take_zero, Nat.add_zero]
        generalize scD src (k + 1) = SD at *
        generalize T [c] = TC at *
        generalize T [49] = T49 at *
        generalize opEq = OE at *
        simp [mkF, reFrz, seq, Pm.ite, rtn, mov, asg, drp, sNx, bnd, Pm.bin, Pm.un, app, aCons, aNil, idx, loc, con, Pm.ret, peek1, peeks, itemOf, on2I, iAdd, iSub, iGt, iGe, iLt, iLe, iDiv, iMod, use1, useL, gI, gN, tst, andT, orT, notT, andE, orE, notE, ifE, ixN, D.frz, D.plain, plainL, argsBack, opLen, opAbs, opInt1, opNeg, disp, cap, callF, takes, puts, selA, sel, aApp, par, gT, gsC, gs0, appF, opDivmod, frzL, plainL, eq]
    refine Wp.of s3 (k1 _ ?_)
    clear k1 k2 k3 k4 K s3
    refine wp_seq fun K k1 k2 k3 k4 => ?_
    refine wp_whl (fun n ρ => ∃ j, ρ = [some (scD src (k + 1 + j)), some (.str (T (c :: (run src (k + 1)).take j)))] ∧ j ≤ (run src (k + 1)).length ∧ n = (run src (k + 1)).length - j) ?_ ((run src (k + 1)).length - j0) _ ⟨j0, rfl, hj0, rfl⟩
    rintro n ρ ⟨j, rfl, hj, rfl⟩
    have se := sees_ok (src := src) (k := k + 1 + j) (cs := DG) hl (by omega)
    have hcond : ∀ b, seen src (k + 1 + j) DG = b → tst (callF x_Scanner__sees (aCons (chk "Scanner" "sees" (loc 0)) (aCons (con (.str (T DG))) aNil))) [some (scD src (k + 1 + j)), some (.str (T (c :: (run src (k + 1)).take j)))] = .ok b [some (scD src (k + 1 + j)), some (.str (T (c :: (run src (k + 1)).take j)))] := fun b hb => by
      rw [hb] at se
      have f3 := f3 (k + 1 + j)
      have pl := pl (k + 1 + j)
      generalize scD src (k + 1 + j) = SD at *
      generalize T DG = TZ at *
      generalize T (c :: (run src (k + 1)).take j) = TC at *
      generalize chk "Scanner" "sees" (loc 0) = F3 at *
      generalize x_Scanner__sees = XA at *
      simp [mkF, reFrz, seq, Pm.ite, rtn, mov, asg, drp, sNx, bnd, Pm.bin, Pm.un, app, aCons, aNil, idx, loc, con, Pm.ret, peek1, peeks, itemOf, on2I, iAdd, iSub, iGt, iGe, iLt, iLe, iDiv, iMod, use1, useL, gI, gN, tst, andT, orT, notT, andE, orE, notE, ifE, ixN, D.frz, D.plain, plainL, argsBack, opLen, opAbs, opInt1, opNeg, disp, cap, callF, takes, puts, selA, sel, aApp, par, gT, gsC, gs0, appF, opDivmod, frzL, plainL, f3, se, pl]
    by_cases hlast : j = (run src (k + 1)).length
    · have he : seen src (k + 1 + j) DG = false := by rw [hlast]; exact run_end
      refine Wp.of (hcond _ he) ⟨fun q => (nomatch q), fun _ => k1 _ ?_⟩
      rw [hlast, List.take_length]
      clear k1 k2 k3 k4 K hcond
      have pl := pl (k + 1 + (run src (k + 1)).length)
      generalize scD src (k + 1 + (run src (k + 1)).length) = SD1 at *
      generalize T (c :: run src (k + 1)) = TC at *
      generalize opInt = OI at *
      refine wp_end fun K k1 k2 k3 k4 => ?_
      simp [Wp, mkF, reFrz, seq, Pm.ite, rtn, mov, asg, drp, sNx, bnd, Pm.bin, Pm.un, app, aCons, aNil, idx, loc, con, Pm.ret, peek1, peeks, itemOf, on2I, iAdd, iSub, iGt, iGe, iLt, iLe, iDiv, iMod, use1, useL, gI, gN, tst, andT, orT, notT, andE, orE, notE, ifE, ixN, D.frz, D.plain, plainL, argsBack, opLen, opAbs, opInt1, opNeg, disp, cap, callF, takes, puts, selA, sel, aApp, par, gT, gsC, gs0, appF, opDivmod, frzL, plainL, oi]
      exact k2 _ _ fin
    · obtain ⟨d, e1, e2, e3⟩ := run_at (src := src) (k := k + 1) (j := j) (by omega)
      have he : seen src (k + 1 + j) DG = true := by unfold seen; rw [e1]; exact decide_eq_true e3
      refine Wp.of (hcond _ he) ⟨fun _ => ?_, fun q => (nomatch q)⟩
      have tk := take_ok (cs := DG) hl e1 e3
      have ga := gat j d e2 (by omega)
      refine Wp.of (a := .nx) (ρ' := [some (scD src (k + 1 + j + 1)), some (.str (T (c :: (run src (k + 1)).take (j + 1))))]) ?_ ?_
      · have f4 := f4 (k + 1 + j)
        have pl := pl (k + 1 + j)
        generalize scD src (k + 1 + j + 1) = SD1 at *
        generalize scD src (k + 1 + j) = SD at *
        generalize T DG = TZ at *
        generalize T (c :: (run src (k + 1)).take (j + 1)) = TC1 at *
        generalize T (c :: (run src (k + 1)).take j) = TC at *
        generalize T [d] = TD at *
        generalize chk "Scanner" "take" (loc 0) = F4 at *
        generalize x_Scanner__take = XT at *
        generalize gAdd = GA at *
        simp [mkF, reFrz, seq, Pm.ite, rtn, mov, asg, drp, sNx, bnd, Pm.bin, Pm.un, app, aCons, aNil, idx, loc, con, Pm.ret, peek1, peeks, itemOf, on2I, iAdd, iSub, iGt, iGe, iLt, iLe, iDiv, iMod, use1, useL, gI, gN, tst, andT, orT, notT, andE, orE, notE, ifE, ixN, D.frz, D.plain, plainL, argsBack, opLen, opAbs, opInt1, opNeg, disp, cap, callF, takes, puts, selA, sel, aApp, par, gT, gsC, gs0, appF, opDivmod, frzL, plainL, f4, tk, ga, pl]
      · exact ⟨(run src (k + 1)).length - (j + 1), by omega, j + 1, rfl, by omega, rfl⟩
  obtain ⟨d, as, e, rfl, rfl⟩ := hw
  exact e
end
end Sc
namespace Sc
open PySem PySem.Spec PyProof.Rows L2 Pm
open Pg (sg abc_T)
open TL (numL numL_digits numL_val numL_ne numL_lt numL_step numL_inj joinL)
/-- digits without a zero ahead are a number's text -/
theorem canon : ∀ (r : List Nat) (c : Nat), 49 ≤ c → c ≤ 57 → (∀ d ∈ r, 48 ≤ d ∧ d ≤ 57) → numL (NumText.digitsVal (c :: r)) = c :: r := by
  intro r
  induction h : r.length using Nat.strongRecOn generalizing r with
  | ind n ih =>
    intro c h1 h2 hd
    rcases List.eq_nil_or_concat r with rfl | ⟨r', d, rfl⟩
    · have e : NumText.digitsVal [c] = c - 48 := by unfold NumText.digitsVal; simp
      rw [e, numL_lt (by omega)]
      congr 1
      omega
    · have hd' : 48 ≤ d ∧ d ≤ 57 := hd d (by simp)
      have hq := ih r'.length (by rw [← h]; simp) r' rfl c h1 h2 fun x hx => hd x (by simp [hx])
      have hp := NumText.digitsVal_pos (cs := r') h1
      have e : NumText.digitsVal (c :: (r' ++ [d])) = NumText.digitsVal (c :: r') * 10 + (d - 48) := by
        rw [← List.cons_append]
        exact NumText.digitsVal_snoc _ _
      rw [List.concat_eq_append, e, numL_step (by omega)]
      have e1 : (NumText.digitsVal (c :: r') * 10 + (d - 48)) / 10 = NumText.digitsVal (c :: r') := by omega
      have e2 : (NumText.digitsVal (c :: r') * 10 + (d - 48)) % 10 = d - 48 := by omega
      rw [e1, e2, hq, List.cons_append]
      congr 2
      have : 48 + (d - 48) = d := by omega
      rw [this]
section
variable {src : List Nat} {k : Nat}
theorem m7 : ("take_times" : Str) ∉ (["source", "spot"] : List Str) := by decide +kernel
end
end Sc
namespace Sc
open PySem PySem.Spec PyProof.Rows L2 Pm
open Pg (sg abc_T Fi x_is_between)
open TL (joinL)
end Sc
namespace Sc
open PySem PySem.Spec PyProof.Rows L2 Pm
open Pg (sg abc_T)
open TL (joinL)
end Sc
set_option maxHeartbeats 2000000
namespace Pm
open PySem PySem.Spec PyProof.Rows L2
section
variable {X : Cx} {Ng : List Str} {x a en q : Str} {sg : Scope} {g : Addr} {cdg : Value} {bg rst hs : List Stmt} {h0 bst : Stmt} {ht : Expr} {q1 q2 p5 p6 : Pos} {m i : Nat} {A : Nat → Bool} {tst : Value → Option Bool} {p : Str → Option Bool} {pre sM rest : M Fl} {up : D → Env → Env} {uq : V → Sl → Sl}
abbrev hC (X : Cx) (Ng : List Str) (x : Str) (sg : Scope) (g : Addr) (cdg : Value) (s : Shared) (H : Hp) : Cx := cxOf C8.CX0 X.prog X.w X.K X.mg X.base Ng x sg g cdg X.A X.stack s H C8.E0
end
end Pm
set_option maxHeartbeats 2000000
namespace Pm
open PySem PySem.Spec PyProof.Rows L2
section
variable {X : Cx} {pins : List (Addr × Obj)} {σ : L2.St} {H0 HY : Hp} {t0 : Shared}
abbrev hE (qg : Str) (sg : Scope) (t0 : Shared) (g : Addr) (cdg : Value) : PySem.Env := envOfC qg sg t0.heap.objs.size g cdg
end
end Pm
set_option maxHeartbeats 2000000
namespace Pm
open PySem PySem.Spec PyProof.Rows L2 PySem.Calls
section
variable {X : Cx} {W : WX}
/-- names of classes, one by one -/
inductive ClsL (X : Cx) : List Expr → List (V × Value) → Prop where
  | nil : ClsL X [] []
  | cons {x : Str} {p : Pos} {cv : V} {cu : Value} {es : List Expr} {cs : List (V × Value)} : Names X x cu → ClsV cv cu → PE X (.Name x p) (tC cv) → (starEach (.Name x p :: es) X.env = (false, eval (.Name x p) X.env) :: starEach es X.env) → ClsL X es cs → ClsL X (.Name x p :: es) ((cv, cu) :: cs)
theorem ClsL.b {T : String} {p : Pos} {es : List Expr} {cs : List (V × Value)} (hm : X.mg T = none) (h : ClsL X es cs) (hv : bootBuiltins (T : Str) = some (.type T) := by rfl) (hg : Gl X (T : Str) := by rfl) (hn : (T : Str) ≠ "__name__" := by decide) (hd : ((T : Str) == ("__debug__" : Str)) = false := by decide)
    (hs : starEach (.Name (T : Str) p :: es) X.env = (false, eval (.Name (T : Str) p) X.env) :: starEach es X.env := by rfl) : ClsL X (.Name (T : Str) p :: es) ((V.ty T, .type T) :: cs) :=
  .cons ⟨hg, hd, .inr ⟨hm, hv, hn⟩⟩ (.ty T) (pe_bltn (v := V.ty T) hg hm hv rfl hn hd) hs h
theorem ClsL.pr : ∀ {es : List Expr} {cs : List (V × Value)}, ClsL X es cs → Paired ClsV (cs.map (·.1)) (cs.map (·.2))
  | _, _, .nil => .nil
  | _, _, .cons _ hc _ _ h => .cons hc h.pr
/-- the names are evaluated in an exception's suite -/
theorem ClsL.run {a : Addr} {pn : List (Addr × Obj)} {σ : L2.St} {H : Hp} {s : Shared} {E' : Value → Shared → Prop} {pos : Pos} (S : Inv (X.suite a pn) [] σ H s) : ∀ {es : List Expr} {cs : List (V × Value)}, ClsL X es cs → ∀ Q : List Value → Shared → Prop, Q (cs.map (·.2)) s →
    wpAny (model X.prog X.w) (X.A.mark (some (.ref a))) (spliced (backTo pos (starEach es X.env))) Q E' s
  | _, _, .nil, Q, q => wpAny_items_nil q
  | _, _, .cons (cu := cu) hc _ _ hs h, Q, q => by
    refine wpAny_items_cons ?_ hs
    have go := ClsL.run (E' := E') (pos := pos) S h (fun vs s2 => Q (cu :: vs) s2) q
    obtain ⟨hg, hdbg, hm | ⟨hm, hv, hnn⟩⟩ := hc
    · exact ld_glob (X := X.suite a pn) S hg hm go hdbg
    · exact ld_blt (X := X.suite a pn) S hg hm hv go hnn hdbg
end
end Pm
namespace Sc
open PySem PySem.Spec PyProof.Rows L2 Pm
open Pg (sg dr divS)
end Sc
namespace Rp
open PySem PySem.Spec PyProof.Rows L2 Pm
open Pg (sg rowD tabD abc_T rows_plain tabD_plain tabD_frz dr divS ABC get_sg ix_nat cnt_T take_T tab_src Fi btwB x_is_between between_ok)
open Sc (Rws RowT)
end Rp
namespace Rp
open PySem PySem.Spec PyProof.Rows L2 Pm
open Pg (sg rowD tabD tabD_plain tabD_frz Fi)
open Sc (Rws RowT)
end Rp
set_option maxHeartbeats 1000000
namespace Pm
open PySem PySem.Spec PyProof.Rows L2
def IsP2 (h : Heap) (v : Value) (q : Int × Int) : Prop := ∃ (t : Addr) (t1 t2 : Tok), v = .ref t ∧ h.IsTuple t #[.int q.1 t1, .int q.2 t2]
theorem IsP2.keep {h h' : Heap} {v : Value} {q : Int × Int} (k : ∀ b o, h.get? b = some o → h'.get? b = some o) (x : IsP2 h v q) : IsP2 h' v q := by
  obtain ⟨t, t1, t2, e, a⟩ := x
  exact ⟨t, t1, t2, e, tuple_keep k a⟩
end Pm
set_option maxHeartbeats 2000000
namespace Pm
open PySem PySem.Spec PyProof.Rows L2
abbrev Bst := Option (Int × Addr × Int × Int)
def BestH (K : PySem.W.Frag) (H : Hp) (best : Bst) : Prop := ∀ m q c d, best = some (m, q, c, d) → SqT K H q [V.int c, .int d]
section
variable {X : Cx} {pins : List (Addr × Obj)} {σ : L2.St}
/-- what has changed at one place that is ours -/
theorem turned {P : List (Addr × Obj)} {H : Hp} {s : Shared} {h' : Heap} {tk : Nat} {b : Addr} (I : Inv X P σ H s) (f : FpOk X P H b) (k : ∀ c o, c ≠ b → s.heap.get? c = some o → h'.get? c = some o) : Inv X P σ H { s with heap := h', toks := tk } :=
  I.turned k f.1 f.2.1 f.2.2.2.1 (fun x c e => f.2.2.2.2.1 x c e) f.2.2.2.2.2
end
def intsK : List D → Option (List Int)
  | [] => some []
  | .int n :: ds => (intsK ds).map (n :: ·)
  | _ => none
section
variable {K : PySem.W.Frag} {mg : Str → Option Value} {W : WX} {Z H : Hp} {S : Fp} {σ : Sl} {X : Cx}
theorem intsK_rep : ∀ {S : Fp} {ds : List D} {ns : List Int} {ys : List V}, intsK ds = some ns → RepL K Z H ds ys S → ys = ns.map V.int
  | _, [], ns, ys, h, r => by
    cases h
    cases ys with
    | nil => rfl
    | cons _ _ => exact r.elim
  | _, .int n :: ds, ns, ys, h, r => by
    cases ys with
    | nil => exact r.elim
    | cons y ys =>
      obtain ⟨S1, S2, _, _, _, r1, r2⟩ := r
      simp only [intsK, Option.map_eq_some_iff] at h
      obtain ⟨ns', h', rfl⟩ := h
      obtain rfl : y = V.int n := r1
      rw [intsK_rep h' r2]
      rfl
  | _, .non :: _, _, _, h, _ => by simp [intsK] at h
  | _, .bl _ :: _, _, _, h, _ => by simp [intsK] at h
  | _, .str _ :: _, _, _, h, _ => by simp [intsK] at h
  | _, .op _ :: _, _, _, h, _ => by simp [intsK] at h
  | _, .node _ _ _ :: _, _, _, h, _ => by simp [intsK] at h
def BestZ (K : PySem.W.Frag) (Z : Hp) : Option (Int × Int × Int) → Bst → Prop
  | none, none => True
  | some (m, c, d), some (m', q, c', d') => m = m' ∧ c = c' ∧ d = d' ∧ SqT K Z q [V.int c, .int d]
  | _, _ => False
theorem BestZ.same {Z' : Hp} {b3 : Option (Int × Int × Int)} {b : Bst} (h : BestZ K Z b3 b) (e : Same Z Z') : BestZ K Z' b3 b := by
  cases b3 with
  | none => cases b with
    | none => trivial
    | some _ => exact h.elim
  | some x => cases b with
    | none => exact h.elim
    | some y => exact ⟨h.1, h.2.1, h.2.2.1, SqT.same h.2.2.2 e⟩
theorem BestZ.h {b3 : Option (Int × Int × Int)} {b : Bst} (h : BestZ K Z b3 b) (e : Sam Z H) : BestH K H b := fun m q c d eb => by
  subst eb
  cases b3 with
  | none => exact h.elim
  | some x =>
    obtain ⟨m', c', d'⟩ := x
    obtain ⟨rfl, rfl, rfl, st⟩ := h
    exact SqT.sam st e
end
end Pm
set_option maxHeartbeats 2000000
namespace Pm
open PySem PySem.Spec PyProof.Rows L2
def bestI (mx : Bool) (n : Int) (ns : List Int) : Int := if mx then ns.foldl max n else ns.foldl min n
def opMinD (mx : Bool) : List D → Option D
  | [.node _ .lst xs] => match intsK xs with
    | some [] => some .non
    | some (n :: ns) => some (.int (bestI mx n ns))
    | none => none
  | _ => none
section
variable {X : Cx} {pins : List (Addr × Obj)} {σ : L2.St} {K : PySem.W.Frag} {W : WX}
def rMD (K : PySem.W.Frag) (mx : Bool) : List V → Hp → VK → Prop := fun vs H Q => ∃ (l : Addr) (all : List Int), vs = [V.ref l] ∧ SqL K H l (all.map V.int) ∧ match all with
  | [] => Q .non H
  | n :: ns => Q (.int (bestI mx n ns)) H
theorem snd_minD {mx : Bool} : Snd X (rMD X.K mx) (opMinD mx) := by
  refine snd_pure fun Z H S ds vs d Q w rb e k => ?_
  unfold opMinD at e
  split at e
  · rename_i o xs
    obtain ⟨v, rfl, rv⟩ := rb1 rb
    obtain ⟨a, ys, rfl, c, rl⟩ := rep_lst w.same rv
    split at e
    · rename_i hi
      cases e
      have := intsK_rep hi rl
      subst this
      exact ⟨a, [], rfl, SqL.of c, k _ rfl⟩
    · rename_i n ns hi
      cases e
      have := intsK_rep hi rl
      subst this
      exact ⟨a, n :: ns, rfl, SqL.of c, k _ rfl⟩
    · cases e
  · cases e
theorem ints_reads {h : Heap} : ∀ {all : List Int} {its : List Value}, Vals (all.map V.int) its → ReadsAll h its (all.map PyData.int) []
  | [], its, r => by
    cases r
    exact .nil
  | n :: ns, its, r => by
    cases r with
    | cons a b =>
      obtain ⟨t, rfl⟩ := a
      exact .cons (as := []) (bs := []) (.int n t) (ints_reads b)
theorem ints_alike (all : List Int) : PySem.W.AlikeAll (all.map PyData.int) := by
  refine ⟨fun x hx y hy => ?_, fun x hx => ?_⟩
  · obtain ⟨a, _, rfl⟩ := List.mem_map.mp hx
    obtain ⟨b, _, rfl⟩ := List.mem_map.mp hy
    rfl
  · obtain ⟨a, _, rfl⟩ := List.mem_map.mp hx
    intro e
    cases e
theorem ints_depth : ∀ all : List Int, PyData.depthAll (all.map PyData.int) ≤ 1
  | [] => Nat.zero_le _
  | n :: ns => by
    have := ints_depth ns
    rw [List.map_cons, PyData.depthAll]
    exact Nat.max_le.mpr ⟨Nat.zero_le _, this⟩
theorem E_minD {e : Expr} {fl : M EV} {p pos kp2 : Pos} {jd : Nat} {pd : Pos} {j : Nat} (ft : Fit X W j) (hm : X.mg ("min" : Str) = none) (he : PE X e (tE X.K X.mg W fl))
    (hg : Gl X ("min" : Str) := by rfl) (hv : bootBuiltins ("min" : Str) = some (.builtin "min") := by rfl) (hst : starEach [e] X.env = (false, eval e X.env) :: starEach [] X.env := by rfl) (hc : X.calm = true := by rfl) :
    PE X (.Call (.Name "min" p) [e] [⟨some "default", .Constant .none jd pd, kp2⟩] pos) (tE X.K X.mg W (app (opMinD false) (aCons fl aNil))) := by
  refine ⟨fun pins s σ H Q I h => ?_⟩
  have q0 := tA_cons (tE_app (snd_minD (X := X)) h)
  refine wpAny_Call_Name_kw (ld_blt I hg hm hv ?_)
  refine PyProof.Rows.callWith_kw (e := e) (rest := []) ?_ (by rw [hst]; rfl) (by rw [hst]; rfl)
  rw [hst]
  show wpAny _ _ (spliced ((false, eval e X.env) :: backTo pos (starEach [] X.env))) _ _ s
  refine Calls.spliced_cons (thn (he.run pins s σ H _ I q0) fun ul s1 ⟨vl, H1, I1, rl, q1⟩ => Calls.spliced_nil ?_)
  obtain ⟨l, all, el, hl, q⟩ := tA_nil q1
  cases el
  obtain rfl : ul = Value.ref l := rl
  show wpAny _ _ (evalAll ((do let v ← eval (.Constant .none jd pd) X.env; standAt pos; pure v) :: [])) _ _ s1
  refine wpAny_evalAll_cons (wpAny_bind (thn (pe_non.run _ s1 σ H1 (fun v H4 => v = .non ∧ H4 = H1) I1 ⟨rfl, rfl⟩) fun ud s5 ⟨vd, H5, I5, rd, ev, eH⟩ => wpAny_bind (wpAny_standAt (wpAny_pure ?_))))
  subst ev eH
  obtain rfl : ud = Value.none := rd
  refine wpAny_evalAll_nil ?_
  obtain ⟨its, rv, pl, hz⟩ := I5.list hl
  have hu : X.A.units + 1 + PyData.depthAll (all.map PyData.int) < cLine := by
    have := ft.room.units
    have := ints_depth all
    omega
  refine PySem.W.min_list_default (I5.ok.hd hc) pl.isList (ints_reads rv) (ints_alike all) hu (fun hz h' tk hk => ?_) fun y ys i v h' tk bs e1 hv hr hk => ?_
  · cases all with
    | nil => exact ⟨.non, H5, I5.kept hk, rfl, q⟩
    | cons _ _ => cases hz
  · cases all with
    | nil => cases e1
    | cons n ns =>
      cases e1
      rw [PySem.W.minD_ints] at hr
      cases hr
      exact ⟨.int _, H5, I5.kept hk, ⟨_, rfl⟩, q⟩
theorem E_maxD {e : Expr} {fl : M EV} {p pos kp2 : Pos} {jd : Nat} {pd : Pos} {j : Nat} (ft : Fit X W j) (hm : X.mg ("max" : Str) = none) (he : PE X e (tE X.K X.mg W fl))
    (hg : Gl X ("max" : Str) := by rfl) (hv : bootBuiltins ("max" : Str) = some (.builtin "max") := by rfl) (hst : starEach [e] X.env = (false, eval e X.env) :: starEach [] X.env := by rfl) (hc : X.calm = true := by rfl) :
    PE X (.Call (.Name "max" p) [e] [⟨some "default", .Constant .none jd pd, kp2⟩] pos) (tE X.K X.mg W (app (opMinD true) (aCons fl aNil))) := by
  refine ⟨fun pins s σ H Q I h => ?_⟩
  have q0 := tA_cons (tE_app (snd_minD (X := X)) h)
  refine wpAny_Call_Name_kw (ld_blt I hg hm hv ?_)
  refine PyProof.Rows.callWith_kw (e := e) (rest := []) ?_ (by rw [hst]; rfl) (by rw [hst]; rfl)
  rw [hst]
  show wpAny _ _ (spliced ((false, eval e X.env) :: backTo pos (starEach [] X.env))) _ _ s
  refine Calls.spliced_cons (thn (he.run pins s σ H _ I q0) fun ul s1 ⟨vl, H1, I1, rl, q1⟩ => Calls.spliced_nil ?_)
  obtain ⟨l, all, el, hl, q⟩ := tA_nil q1
  cases el
  obtain rfl : ul = Value.ref l := rl
  show wpAny _ _ (evalAll ((do let v ← eval (.Constant .none jd pd) X.env; standAt pos; pure v) :: [])) _ _ s1
  refine wpAny_evalAll_cons (wpAny_bind (thn (pe_non.run _ s1 σ H1 (fun v H4 => v = .non ∧ H4 = H1) I1 ⟨rfl, rfl⟩) fun ud s5 ⟨vd, H5, I5, rd, ev, eH⟩ => wpAny_bind (wpAny_standAt (wpAny_pure ?_))))
  subst ev eH
  obtain rfl : ud = Value.none := rd
  refine wpAny_evalAll_nil ?_
  obtain ⟨its, rv, pl, hz⟩ := I5.list hl
  have hu : X.A.units + 1 + PyData.depthAll (all.map PyData.int) < cLine := by
    have := ft.room.units
    have := ints_depth all
    omega
  refine PySem.W.max_list_default (I5.ok.hd hc) pl.isList (ints_reads rv) (ints_alike all) hu (fun hz h' tk hk => ?_) fun y ys i v h' tk bs e1 hv hr hk => ?_
  · cases all with
    | nil => exact ⟨.non, H5, I5.kept hk, rfl, q⟩
    | cons _ _ => cases hz
  · cases all with
    | nil => cases e1
    | cons n ns =>
      cases e1
      rw [PySem.W.maxD_ints] at hr
      cases hr
      exact ⟨.int _, H5, I5.kept hk, ⟨_, rfl⟩, q⟩
end
end Pm
set_option maxHeartbeats 2000000
namespace Pm
open PySem PySem.Spec PyProof.Rows L2
end Pm
namespace Rp
/-- j is weaker than k -/
def Wkr (s : Nat → Int) (j k : Nat) : Prop := s j < s k ∨ (s j = s k ∧ k < j)
theorem wkr_not {s : Nat → Int} {j k : Nat} (h : Wkr s j k) : ¬ Wkr s k j := by
  unfold Wkr at *
  omega
theorem wkr_right {s : Nat → Int} {j k : Nat} (h : k < j) : Wkr s j k ↔ s j ≤ s k := by
  unfold Wkr
  omega
theorem wkr_left {s : Nat → Int} {j k : Nat} (h : j < k) : Wkr s j k ↔ s j < s k := by
  unfold Wkr
  omega
/-- m is the weakest of a .. b -/
structure IsLow (s : Nat → Int) (a b m : Nat) : Prop where
  ge : a ≤ m
  le : m ≤ b
  low : ∀ j, a ≤ j → j ≤ b → j ≠ m → Wkr s m j
theorem IsLow.uniq {s : Nat → Int} {a b m n : Nat} (h : IsLow s a b m) (h2 : IsLow s a b n) : m = n := by
  by_cases e : m = n
  · exact e
  · exact absurd (h2.low m h.ge h.le e) (wkr_not (h.low n h2.ge h2.le (Ne.symm e)))
/-- the nearest weaker operator to the left, to the right (of N) -/
def NearL (s : Nat → Int) (k : Nat) : Option Nat → Prop
  | none => ∀ j, j < k → ¬ Wkr s j k
  | some j => j < k ∧ Wkr s j k ∧ ∀ i, j < i → i < k → ¬ Wkr s i k
def NearR (s : Nat → Int) (N k : Nat) : Option Nat → Prop
  | none => ∀ j, k < j → j < N → ¬ Wkr s j k
  | some j => k < j ∧ j < N ∧ Wkr s j k ∧ ∀ i, k < i → i < j → ¬ Wkr s i k
theorem NearL.uniq {s : Nat → Int} {k : Nat} {o p : Option Nat} (h : NearL s k o) (h2 : NearL s k p) : o = p := by
  cases o with
  | none => cases p with
    | none => rfl
    | some j => exact absurd h2.2.1 (h j h2.1)
  | some i => cases p with
    | none => exact absurd h.2.1 (h2 i h.1)
    | some j =>
      rcases Nat.lt_trichotomy i j with e | e | e
      · exact absurd h2.2.1 (h.2.2 j e h2.1)
      · rw [e]
      · exact absurd h.2.1 (h2.2.2 i e h.1)
theorem NearR.uniq {s : Nat → Int} {N k : Nat} {o p : Option Nat} (h : NearR s N k o) (h2 : NearR s N k p) : o = p := by
  cases o with
  | none => cases p with
    | none => rfl
    | some j => exact absurd h2.2.2.1 (h j h2.1 h2.2.1)
  | some i => cases p with
    | none => exact absurd h.2.2.1 (h2 i h.1 h.2.1)
    | some j =>
      rcases Nat.lt_trichotomy i j with e | e | e
      · exact absurd h.2.2.1 (h2.2.2.2 i h.1 e)
      · rw [e]
      · exact absurd h2.2.2.1 (h.2.2.2 j h2.1 e)
/-- the strength of the operator k of a block of w places: F at first, L less with each repetition -/
def sF (F L : Nat → Int) (w k : Nat) : Int := F (k % w) - ((k / w : Nat) : Int) * L (k % w)
section
variable {F L : Nat → Int} {w : Nat}
theorem s_at {i q : Nat} (hi : i < w) : sF F L w (q * w + i) = F i - (q : Int) * L i := by
  unfold sF
  have h1 : (q * w + i) % w = i := by rw [Nat.mul_comm, Nat.mul_add_mod, Nat.mod_eq_of_lt hi]
  have h2 : (q * w + i) / w = q := by
    rw [Nat.mul_comm, Nat.mul_add_div (by omega), Nat.div_eq_of_lt hi, Nat.add_zero]
  rw [h1, h2]
theorem k_at {k : Nat} (h : 0 < w) : k = k / w * w + k % w := by
  have := Nat.div_add_mod k w
  rw [Nat.mul_comm] at this
  exact this.symm
def loI (w : Nat) (a : Int) (i : Nat) : Int := a + ((i : Int) - a) % (w : Int)
def hiI (w : Nat) (b : Int) (i : Nat) : Int := b - (b - (i : Int)) % (w : Int)
theorem lo_ge (h : 0 < w) (a : Int) (i : Nat) : a ≤ loI w a i := by
  unfold loI
  have := Int.emod_nonneg ((i : Int) - a) (show (w : Int) ≠ 0 by omega)
  omega
theorem hi_le (h : 0 < w) (b : Int) (i : Nat) : hiI w b i ≤ b := by
  unfold hiI
  have := Int.emod_nonneg (b - (i : Int)) (show (w : Int) ≠ 0 by omega)
  omega
/-- the first place from a on, the last one up to b -/
theorem lo_at (hi : i < w) {a k : Nat} (hk : a ≤ k) (e : k % w = i) : ∃ p, loI w a i = ((p * w + i : Nat) : Int) ∧ p ≤ k / w := by
  have h0 : 0 < w := by omega
  have ek := k_at (k := k) h0
  obtain ⟨m, hm⟩ : ∃ m : Int, (a : Int) + ((i : Int) - a) % (w : Int) = i + w * m := ⟨-(((i : Int) - a) / (w : Int)), by
    have := Int.emod_add_mul_ediv ((i : Int) - a) (w : Int)
    rw [Int.mul_neg]
    omega⟩
  have h1 := Int.emod_nonneg ((i : Int) - a) (show (w : Int) ≠ 0 by omega)
  have h2 := Int.emod_lt_of_pos ((i : Int) - a) (show (0 : Int) < w by omega)
  have hm0 : 0 ≤ m := by
    by_cases hn : m < 0
    · have : (w : Int) * m ≤ (w : Int) * (-1) := Int.mul_le_mul_of_nonneg_left (by omega) (by omega)
      omega
    · omega
  obtain ⟨p, rfl⟩ := Int.eq_ofNat_of_zero_le hm0
  refine ⟨p, by unfold loI; rw [hm, Int.natCast_add, Int.natCast_mul, Int.mul_comm]; omega, ?_⟩
  by_cases hp : p ≤ k / w
  · exact hp
  · have h3 : (w : Int) * ((k / w : Nat) + 1 : Int) ≤ (w : Int) * (p : Int) := Int.mul_le_mul_of_nonneg_left (by omega) (by omega)
    rw [Int.mul_add, Int.mul_one] at h3
    have h4 : (k : Int) = (w : Int) * (k / w : Nat) + i := by
      have : k = w * (k / w) + i := by rw [← e]; exact (Nat.div_add_mod k w).symm
      exact_mod_cast this
    omega
theorem hi_at (hi : i < w) {k : Nat} {b : Int} (hk : (k : Int) ≤ b) (e : k % w = i) : ∃ q, hiI w b i = ((q * w + i : Nat) : Int) ∧ k / w ≤ q := by
  have h0 : 0 < w := by omega
  obtain ⟨m, hm⟩ : ∃ m : Int, b - (b - (i : Int)) % (w : Int) = i + w * m := ⟨(b - (i : Int)) / (w : Int), by
    have := Int.emod_add_mul_ediv (b - (i : Int)) (w : Int)
    omega⟩
  have h1 := Int.emod_nonneg (b - (i : Int)) (show (w : Int) ≠ 0 by omega)
  have h2 := Int.emod_lt_of_pos (b - (i : Int)) (show (0 : Int) < w by omega)
  have h4 : (k : Int) = (w : Int) * (k / w : Nat) + i := by
    have : k = w * (k / w) + i := by rw [← e]; exact (Nat.div_add_mod k w).symm
    exact_mod_cast this
  have hm0 : ((k / w : Nat) : Int) ≤ m := by
    by_cases hn : m < ((k / w : Nat) : Int)
    · have : (w : Int) * (m + 1) ≤ (w : Int) * ((k / w : Nat) : Int) := Int.mul_le_mul_of_nonneg_left (by omega) (by omega)
      rw [Int.mul_add, Int.mul_one] at this
      omega
    · omega
  obtain ⟨q, rfl⟩ := Int.eq_ofNat_of_zero_le (show 0 ≤ m from Int.le_trans (Int.natCast_nonneg _) hm0)
  exact ⟨q, by unfold hiI; rw [hm, Int.natCast_add, Int.natCast_mul, Int.mul_comm]; omega, by omega⟩
end
end Rp
namespace Rp
open PySem PySem.Spec PyProof.Rows L2 Pm
open Pg (sg rowD tabD tabD_plain tabD_frz dr divS x_is_integer x_is_between between_i between_ok btwB Fi ix_nat)
open Sc (Rws RowT)
theorem strK_sF (t : List RowT) (l : List Nat) : strK t l = sF (strF t l) (losF t l) l.length := rfl
theorem intsK_nat : ∀ ns : List Nat, intsK (ns.map fun n : Nat => D.int (n : Int)) = some (ns.map fun n : Nat => (n : Int))
  | [] => rfl
  | n :: ns => by
    rw [List.map_cons, intsK, intsK_nat ns]
    rfl
end Rp
namespace Rp
open PySem PySem.Spec PyProof.Rows L2 Pm
open Pg (sg rowD tabD tabD_plain tabD_frz dr divS x_is_integer x_is_between between_i between_ok btwB Fi ix_nat rtD)
open Sc (Rws RowT)
theorem mod_w {w : Nat} (h0 : 0 < w) (x : Int) : iMod x (w : Int) = some (.int (x % (w : Int))) := by
  unfold iMod
  rw [if_pos (by omega)]
def intsD (xs : List Int) : List D := xs.map D.int
end Rp
namespace Rp
def lqR (F L bound : Int) (start : Nat) : Option Nat := if F - (start : Int) * L ≤ bound then some start else if L ≤ 0 then none else some (-((bound - F) / L)).toNat
def lqL (F L bound : Int) (last : Nat) : Option Nat := if F - (last : Int) * L < bound then some last else if 0 ≤ L then none else if 0 ≤ (bound - 1 - F) / (-L) then some ((bound - 1 - F) / (-L)).toNat else none
theorem lqR_pos {F L bound : Int} {start : Nat} (h1 : ¬ F - (start : Int) * L ≤ bound) (h2 : ¬ L ≤ 0) : (start : Int) < -((bound - F) / L) := by
  have h3 : (bound - F) / L * L ≤ bound - F := Int.ediv_mul_le _ (by omega)
  by_cases h : -((bound - F) / L) ≤ (start : Int)
  · have : -((bound - F) / L) * L ≤ (start : Int) * L := Int.mul_le_mul_of_nonneg_right h (by omega)
    rw [Int.neg_mul] at this
    omega
  · omega
theorem lqR_some {F L bound : Int} {start q : Nat} (h : lqR F L bound start = some q) : start ≤ q ∧ F - (q : Int) * L ≤ bound ∧ ∀ p, start ≤ p → p < q → bound < F - (p : Int) * L := by
  unfold lqR at h
  by_cases h1 : F - (start : Int) * L ≤ bound
  · rw [if_pos h1] at h
    cases h
    exact ⟨Nat.le_refl _, h1, fun p a b => by omega⟩
  · rw [if_neg h1] at h
    by_cases h2 : L ≤ 0
    · rw [if_pos h2] at h
      cases h
    · rw [if_neg h2] at h
      cases h
      have hp := lqR_pos h1 h2
      have e : ((-((bound - F) / L)).toNat : Int) = -((bound - F) / L) := Int.toNat_of_nonneg (by omega)
      refine ⟨by omega, ?_, fun p a b => ?_⟩
      · rw [e, Int.neg_mul]
        have h3 : (bound - F) / L * L ≤ bound - F := Int.ediv_mul_le _ (by omega)
        omega
      · have hb : (p : Int) + 1 ≤ -((bound - F) / L) := by omega
        have h4 : bound - F < ((bound - F) / L + 1) * L := Int.lt_ediv_add_one_mul_self _ (by omega)
        have h5 : (p : Int) * L ≤ (-((bound - F) / L + 1)) * L := Int.mul_le_mul_of_nonneg_right (by omega) (by omega)
        rw [Int.neg_mul] at h5
        omega
theorem lqR_none {F L bound : Int} {start : Nat} (h : lqR F L bound start = none) {p : Nat} (hp : start ≤ p) : bound < F - (p : Int) * L := by
  unfold lqR at h
  by_cases h1 : F - (start : Int) * L ≤ bound
  · rw [if_pos h1] at h
    cases h
  · rw [if_neg h1] at h
    by_cases h2 : L ≤ 0
    · have : (p : Int) * L ≤ (start : Int) * L := Int.mul_le_mul_of_nonpos_right (by omega) h2
      omega
    · rw [if_neg h2] at h
      cases h
theorem lqL_some {F L bound : Int} {last q : Nat} (h : lqL F L bound last = some q) : q ≤ last ∧ F - (q : Int) * L < bound ∧ ∀ p, q < p → p ≤ last → bound ≤ F - (p : Int) * L := by
  unfold lqL at h
  by_cases h1 : F - (last : Int) * L < bound
  · rw [if_pos h1] at h
    cases h
    exact ⟨Nat.le_refl _, h1, fun p a b => by omega⟩
  · rw [if_neg h1] at h
    by_cases h2 : 0 ≤ L
    · rw [if_pos h2] at h
      cases h
    · rw [if_neg h2] at h
      by_cases h3 : 0 ≤ (bound - 1 - F) / (-L)
      · rw [if_pos h3] at h
        cases h
        have e : (((bound - 1 - F) / (-L)).toNat : Int) = (bound - 1 - F) / (-L) := Int.toNat_of_nonneg h3
        have h4 : (bound - 1 - F) / (-L) * (-L) ≤ bound - 1 - F := Int.ediv_mul_le _ (by omega)
        rw [Int.mul_neg] at h4
        have h6 : F - (((bound - 1 - F) / (-L)).toNat : Int) * L < bound := by
          rw [e]
          omega
        refine ⟨?_, h6, fun p a b => ?_⟩
        · by_cases hl : ((bound - 1 - F) / (-L)).toNat ≤ last
          · exact hl
          · have : (((bound - 1 - F) / (-L)).toNat : Int) * L ≤ (last : Int) * L := Int.mul_le_mul_of_nonpos_right (by omega) (by omega)
            omega
        · have h5 : bound - 1 - F < ((bound - 1 - F) / (-L) + 1) * (-L) := Int.lt_ediv_add_one_mul_self _ (by omega)
          have h7 : ((bound - 1 - F) / (-L) + 1) * (-L) ≤ (p : Int) * (-L) := Int.mul_le_mul_of_nonneg_right (by omega) (by omega)
          rw [Int.mul_neg (p : Int)] at h7
          omega
      · rw [if_neg h3] at h
        cases h
theorem lqL_none {F L bound : Int} {last : Nat} (h : lqL F L bound last = none) {p : Nat} (hp : p ≤ last) : bound ≤ F - (p : Int) * L := by
  unfold lqL at h
  by_cases h1 : F - (last : Int) * L < bound
  · rw [if_pos h1] at h
    cases h
  · rw [if_neg h1] at h
    by_cases h2 : 0 ≤ L
    · have : (p : Int) * L ≤ (last : Int) * L := Int.mul_le_mul_of_nonneg_right (by omega) h2
      omega
    · rw [if_neg h2] at h
      by_cases h3 : 0 ≤ (bound - 1 - F) / (-L)
      · rw [if_pos h3] at h
        cases h
      · have h5 : bound - 1 - F < ((bound - 1 - F) / (-L) + 1) * (-L) := Int.lt_ediv_add_one_mul_self _ (by omega)
        have h7 : ((bound - 1 - F) / (-L) + 1) * (-L) ≤ (p : Int) * (-L) := Int.mul_le_mul_of_nonneg_right (by omega) (by omega)
        rw [Int.mul_neg (p : Int)] at h7
        omega
section
variable {F L : Nat → Int} {w : Nat}
theorem lo_form {i : Nat} (hi : i < w) (a : Nat) : ∃ p : Nat, loI w a i = ((p * w + i : Nat) : Int) ∧ loI w a i / (w : Int) = (p : Int) ∧ a ≤ p * w + i ∧ ∀ q, a ≤ q * w + i → p ≤ q := by
  have h0 : 0 < w := by omega
  obtain ⟨p, e, _⟩ := lo_at (w := w) (i := i) (a := a) (k := a * w + i) hi (by
    have : a * 1 ≤ a * w := Nat.mul_le_mul_left a h0
    omega) (by rw [Nat.mul_comm, Nat.mul_add_mod, Nat.mod_eq_of_lt hi])
  refine ⟨p, e, ?_, ?_, fun q hq => ?_⟩
  · rw [e]
    have : (p * w + i) / w = p := by
      rw [Nat.mul_comm, Nat.mul_add_div (by omega), Nat.div_eq_of_lt hi, Nat.add_zero]
    exact_mod_cast this
  · have := lo_ge (w := w) h0 (a : Int) i
    omega
  · obtain ⟨p', e', hp'⟩ := lo_at (w := w) (i := i) (a := a) (k := q * w + i) hi hq (by rw [Nat.mul_comm, Nat.mul_add_mod, Nat.mod_eq_of_lt hi])
    have e2 : (q * w + i) / w = q := by
      rw [Nat.mul_comm, Nat.mul_add_div (by omega), Nat.div_eq_of_lt hi, Nat.add_zero]
    rw [e2] at hp'
    have e3 : p * w + i = p' * w + i := by omega
    have e4 : p = p' := by
      have : (p * w + i) / w = (p' * w + i) / w := by rw [e3]
      rw [Nat.mul_comm, Nat.mul_add_div (by omega), Nat.div_eq_of_lt hi, Nat.mul_comm p', Nat.mul_add_div (by omega), Nat.div_eq_of_lt hi] at this
      omega
    omega
theorem hi_form {i : Nat} (hi : i < w) (k : Nat) : (hiI w ((k : Int) - 1) i / (w : Int) < 0 ∧ ∀ q, k ≤ q * w + i) ∨ ∃ p : Nat, hiI w ((k : Int) - 1) i / (w : Int) = (p : Int) ∧ p * w + i < k ∧ ∀ q, q * w + i < k → q ≤ p := by
  have h0 : 0 < w := by omega
  by_cases h : i < k
  · right
    obtain ⟨p, e, _⟩ := hi_at (w := w) (i := i) (k := i) (b := (k : Int) - 1) hi (by omega) (Nat.mod_eq_of_lt hi)
    refine ⟨p, ?_, ?_, fun q hq => ?_⟩
    · rw [e]
      have : (p * w + i) / w = p := by
        rw [Nat.mul_comm, Nat.mul_add_div (by omega), Nat.div_eq_of_lt hi, Nat.add_zero]
      exact_mod_cast this
    · have := hi_le (w := w) h0 ((k : Int) - 1) i
      omega
    · obtain ⟨p', e', hp'⟩ := hi_at (w := w) (i := i) (k := q * w + i) (b := (k : Int) - 1) hi (by omega) (by rw [Nat.mul_comm, Nat.mul_add_mod, Nat.mod_eq_of_lt hi])
      have e2 : (q * w + i) / w = q := by
        rw [Nat.mul_comm, Nat.mul_add_div (by omega), Nat.div_eq_of_lt hi, Nat.add_zero]
      rw [e2] at hp'
      have e3 : p * w + i = p' * w + i := by omega
      have e4 : p = p' := by
        have : (p * w + i) / w = (p' * w + i) / w := by rw [e3]
        rw [Nat.mul_comm, Nat.mul_add_div (by omega), Nat.div_eq_of_lt hi, Nat.mul_comm p', Nat.mul_add_div (by omega), Nat.div_eq_of_lt hi] at this
        omega
      omega
  · left
    refine ⟨?_, fun q => by omega⟩
    have h1 : hiI w ((k : Int) - 1) i < 0 := by
      unfold hiI
      have hneg : ((k : Int) - 1 - (i : Int)) < 0 := by omega
      have e := Int.emod_add_mul_ediv ((k : Int) - 1 - (i : Int)) (w : Int)
      have hq : ((k : Int) - 1 - (i : Int)) / (w : Int) < 0 := Int.ediv_neg_of_neg_of_pos hneg (by omega)
      have : (w : Int) * (((k : Int) - 1 - (i : Int)) / (w : Int)) ≤ (w : Int) * (-1) := Int.mul_le_mul_of_nonneg_left (by omega) (by omega)
      omega
    exact Int.ediv_neg_of_neg_of_pos h1 (by omega)
/-- what is found of a place to the right, to the left -/
def fR (F L : Nat → Int) (w n k : Nat) (bound : Int) (i : Nat) : List Nat := match lqR (F i) (L i) bound (loI w ((k + 1 : Nat) : Int) i / (w : Int)).toNat with
  | some q => if q < n then [q * w + i] else []
  | none => []
def fL (F L : Nat → Int) (w k : Nat) (bound : Int) (i : Nat) : List Nat := if 0 ≤ hiI w ((k : Int) - 1) i / (w : Int) then (match lqL (F i) (L i) bound (hiI w ((k : Int) - 1) i / (w : Int)).toNat with
  | some q => [q * w + i]
  | none => []) else []
theorem fR_mem {n k i x : Nat} (hi : i < w) (h : x ∈ fR F L w n k (sF F L w k) i) : k < x ∧ x < w * n ∧ Wkr (sF F L w) x k := by
  obtain ⟨p, e1, e2, h1, _⟩ := lo_form hi (k + 1)
  unfold fR at h
  rw [e2] at h
  split at h
  · rename_i q hq
    split at h
    · rename_i hn
      obtain rfl := List.mem_singleton.mp h
      obtain ⟨a1, a2, _⟩ := lqR_some hq
      have hle : p * w ≤ q * w := Nat.mul_le_mul_right _ (by omega)
      have hlt : k < q * w + i := by omega
      refine ⟨hlt, ?_, ?_⟩
      · have : (q + 1) * w ≤ n * w := Nat.mul_le_mul_right _ hn
        rw [Nat.mul_comm w n]
        rw [Nat.succ_mul] at this
        omega
      · rw [wkr_right hlt, s_at hi]
        exact a2
    · cases h
  · cases h
theorem fR_ex {n k j : Nat} (h0 : 0 < w) (hk : k < j) (hn : j < w * n) (h : Wkr (sF F L w) j k) : ∃ x, x ∈ fR F L w n k (sF F L w k) (j % w) ∧ x ≤ j := by
  have hi : j % w < w := Nat.mod_lt _ h0
  have ej := k_at (k := j) h0
  obtain ⟨p, e1, e2, h1, h2⟩ := lo_form hi (k + 1)
  have hp := h2 (j / w) (by omega)
  have hs : F (j % w) - ((j / w : Nat) : Int) * L (j % w) ≤ sF F L w k := (wkr_right hk).mp h
  unfold fR
  rw [e2]
  cases hq : lqR (F (j % w)) (L (j % w)) (sF F L w k) (p : Int).toNat with
  | none =>
    have := lqR_none hq (p := j / w) (by simpa using hp)
    omega
  | some q =>
    obtain ⟨a1, a2, a3⟩ := lqR_some hq
    have hle : q ≤ j / w := by
      by_cases hle : q ≤ j / w
      · exact hle
      · have := a3 (j / w) (by simpa using hp) (by omega)
        omega
    have hjn : j / w < n := (Nat.div_lt_iff_lt_mul h0).mpr (by rw [Nat.mul_comm]; exact hn)
    refine ⟨q * w + j % w, ?_, ?_⟩
    · simp only
      rw [if_pos (by omega)]
      exact List.mem_singleton.mpr rfl
    · have : q * w ≤ j / w * w := Nat.mul_le_mul_right _ hle
      omega
theorem fL_mem {k i x : Nat} (hi : i < w) (h : x ∈ fL F L w k (sF F L w k) i) : x < k ∧ Wkr (sF F L w) x k := by
  unfold fL at h
  rcases hi_form hi k with ⟨h1, _⟩ | ⟨p, e, h1, _⟩
  · rw [if_neg (by omega)] at h
    cases h
  · rw [e, if_pos (by omega)] at h
    split at h
    · rename_i q hq
      obtain rfl := List.mem_singleton.mp h
      obtain ⟨a1, a2, _⟩ := lqL_some hq
      have hle : q * w ≤ p * w := Nat.mul_le_mul_right _ (by simpa using a1)
      have hlt : q * w + i < k := by omega
      refine ⟨hlt, ?_⟩
      rw [wkr_left hlt, s_at hi]
      exact a2
    · cases h
theorem fL_ex {k j : Nat} (h0 : 0 < w) (hk : j < k) (h : Wkr (sF F L w) j k) : ∃ x, x ∈ fL F L w k (sF F L w k) (j % w) ∧ j ≤ x := by
  have hi : j % w < w := Nat.mod_lt _ h0
  have ej := k_at (k := j) h0
  have hs : F (j % w) - ((j / w : Nat) : Int) * L (j % w) < sF F L w k := (wkr_left hk).mp h
  rcases hi_form hi k with ⟨h1, h2⟩ | ⟨p, e, h1, h2⟩
  · have := h2 (j / w)
    omega
  · have hp := h2 (j / w) (by omega)
    unfold fL
    rw [e, if_pos (by omega)]
    cases hq : lqL (F (j % w)) (L (j % w)) (sF F L w k) (p : Int).toNat with
    | none =>
      have := lqL_none hq (p := j / w) (by simpa using hp)
      omega
    | some q =>
      obtain ⟨a1, a2, a3⟩ := lqL_some hq
      have hle : j / w ≤ q := by
        by_cases hle : j / w ≤ q
        · exact hle
        · have := a3 (j / w) (by omega) (by simpa using hp)
          omega
      refine ⟨q * w + j % w, List.mem_singleton.mpr rfl, ?_⟩
      have : j / w * w ≤ q * w := Nat.mul_le_mul_right _ hle
      omega
end
/-- the least of what is found to the right is the nearest -/
theorem nearR_of {F L : Nat → Int} {w n k m : Nat} {xs : List Nat} (h0 : 0 < w) (hx : ∀ x, x ∈ xs ↔ ∃ i, i < w ∧ x ∈ fR F L w n k (sF F L w k) i) (hm : m ∈ xs) (hl : ∀ x ∈ xs, m ≤ x) : NearR (sF F L w) (w * n) k (some m) := by
  obtain ⟨i, hi, h⟩ := (hx m).mp hm
  obtain ⟨h1, h2, h3⟩ := fR_mem hi h
  refine ⟨h1, h2, h3, fun j j1 j2 hw => ?_⟩
  obtain ⟨x, hx1, hx2⟩ := fR_ex (n := n) h0 j1 (by omega) hw
  have := hl x ((hx x).mpr ⟨j % w, Nat.mod_lt _ h0, hx1⟩)
  omega
theorem nearR_no {F L : Nat → Int} {w n k : Nat} (h0 : 0 < w) (hx : ∀ i, i < w → fR F L w n k (sF F L w k) i = []) : NearR (sF F L w) (w * n) k none := fun j j1 j2 hw => by
  obtain ⟨x, hx1, _⟩ := fR_ex (n := n) h0 j1 j2 hw
  rw [hx _ (Nat.mod_lt _ h0)] at hx1
  cases hx1
theorem nearL_of {F L : Nat → Int} {w k m : Nat} {xs : List Nat} (h0 : 0 < w) (hx : ∀ x, x ∈ xs ↔ ∃ i, i < w ∧ x ∈ fL F L w k (sF F L w k) i) (hm : m ∈ xs) (hl : ∀ x ∈ xs, x ≤ m) : NearL (sF F L w) k (some m) := by
  obtain ⟨i, hi, h⟩ := (hx m).mp hm
  obtain ⟨h1, h3⟩ := fL_mem hi h
  refine ⟨h1, h3, fun j j1 j2 hw => ?_⟩
  obtain ⟨x, hx1, hx2⟩ := fL_ex h0 j2 hw
  have := hl x ((hx x).mpr ⟨j % w, Nat.mod_lt _ h0, hx1⟩)
  omega
theorem nearL_no {F L : Nat → Int} {w k : Nat} (h0 : 0 < w) (hx : ∀ i, i < w → fL F L w k (sF F L w k) i = []) : NearL (sF F L w) k none := fun j j1 hw => by
  obtain ⟨x, hx1, _⟩ := fL_ex h0 j1 hw
  rw [hx _ (Nat.mod_lt _ h0)] at hx1
  cases hx1
end Rp
namespace Rp
open PySem PySem.Spec PyProof.Rows L2 Pm
open Pg (sg rowD tabD tabD_plain tabD_frz dr divS x_is_integer x_is_between between_i between_ok btwB Fi ix_nat rtD)
open Sc (Rws RowT)
noncomputable def b_least_at_most : M Fl := (seq (Pm.ite (tst (Pm.bin opLeA (callF x_Place__strength (aCons (chk "Place" "strength" (loc 0)) (aCons (loc 2) aNil))) (loc 1))) (rtn (loc 2)) sNx)
    (seq (Pm.ite (tst (Pm.bin opLeA (fldE "Place" "loss" (loc 0)) (con (.int 0)))) (rtn (con .non)) sNx)
    (rtn (Pm.un opNeg (Pm.bin (on2I iDiv) (Pm.bin (on2I iSub) (loc 1) (fldE "Place" "first_strength" (loc 0))) (fldE "Place" "loss" (loc 0)))))))
noncomputable def x_least_at_most : FSem := mkF 3 3 [] b_least_at_most
noncomputable def b_last_below : M Fl := (seq (Pm.ite (tst (Pm.bin opLtA (callF x_Place__strength (aCons (chk "Place" "strength" (loc 0)) (aCons (loc 2) aNil))) (loc 1))) (rtn (loc 2)) sNx)
    (seq (Pm.ite (tst (Pm.bin opGeA (fldE "Place" "loss" (loc 0)) (con (.int 0)))) (rtn (con .non)) sNx)
    (seq (asg (Pm.bin (on2I iDiv) (Pm.bin (on2I iSub) (Pm.bin (on2I iSub) (loc 1) (con (.int 1))) (fldE "Place" "first_strength" (loc 0))) (Pm.un opNeg (fldE "Place" "loss" (loc 0)))) (gN 3))
    (rtn (ifE (tst (Pm.bin opGeA (loc 3) (con (.int 0)))) (loc 3) (con .non))))))
noncomputable def x_last_below : FSem := mkF 3 4 [] b_last_below
noncomputable def b_Repeated__nearest_right_1 : M Fl := (seq (asg (Pm.bin (on2I iDiv) (Pm.bin hAdd (Pm.bin hAdd (loc 1) (con (.int 1))) (Pm.bin (on2I iMod) (Pm.bin (on2I iSub) (Pm.bin (on2I iSub) (loc 5) (loc 1)) (con (.int 1))) (loc 3))) (loc 3)) (gN 7))
    (seq (asg (callF x_least_at_most (aCons (loc 6) (aCons (loc 2) (aCons (loc 7) aNil)))) (gN 8))
    (Pm.ite (andT (tst (Pm.bin opNotN (loc 8) (con .non))) (tst (Pm.bin opLtA (loc 8) (fldE "Repeated" "repetitions" (loc 0))))) (drp (appd 4 (Pm.bin hAdd (Pm.bin hMulT (loc 8) (loc 3)) (loc 5)))) sNx)))
noncomputable def b_Repeated__nearest_right : M Fl := (seq (par 2 3 (aCons (callF x_Repeated__strength_of (aCons (chk "Repeated" "strength_of" (loc 0)) (aCons (loc 1) aNil))) (aCons (app opLen (aCons (fldE "Repeated" "places" (loc 0)) aNil)) aNil)))
    (seq (asg (disp true .lst aNil) (gN 4))
    (seq (forS (srcEnum (fldE "Repeated" "places" (loc 0))) (gT (gsC (gN 5) (gsC (gN 6) gs0)) 2) b_Repeated__nearest_right_1)
    (rtn (app (opMinD false) (aCons (loc 4) aNil))))))
noncomputable def x_Repeated__nearest_right : FSem := mkF 2 9 [] b_Repeated__nearest_right
noncomputable def b_Repeated__nearest_left_1 : M Fl := (seq (asg (Pm.bin (on2I iDiv) (Pm.bin (on2I iSub) (Pm.bin (on2I iSub) (loc 1) (con (.int 1))) (Pm.bin (on2I iMod) (Pm.bin (on2I iSub) (Pm.bin (on2I iSub) (loc 1) (con (.int 1))) (loc 5)) (loc 3))) (loc 3)) (gN 7))
    (seq (asg (ifE (tst (Pm.bin opGeA (loc 7) (con (.int 0)))) (callF x_last_below (aCons (loc 6) (aCons (loc 2) (aCons (loc 7) aNil)))) (con .non)) (gN 8))
    (Pm.ite (tst (Pm.bin opNotN (loc 8) (con .non))) (drp (appd 4 (Pm.bin hAdd (Pm.bin hMulT (loc 8) (loc 3)) (loc 5)))) sNx)))
noncomputable def b_Repeated__nearest_left : M Fl := (seq (par 2 3 (aCons (callF x_Repeated__strength_of (aCons (chk "Repeated" "strength_of" (loc 0)) (aCons (loc 1) aNil))) (aCons (app opLen (aCons (fldE "Repeated" "places" (loc 0)) aNil)) aNil)))
    (seq (asg (disp true .lst aNil) (gN 4))
    (seq (forS (srcEnum (fldE "Repeated" "places" (loc 0))) (gT (gsC (gN 5) (gsC (gN 6) gs0)) 2) b_Repeated__nearest_left_1)
    (rtn (app (opMinD true) (aCons (loc 4) aNil))))))
noncomputable def x_Repeated__nearest_left : FSem := mkF 2 9 [] b_Repeated__nearest_left
section
variable {o : Bool} {t : List RowT} {l : List Nat} {n : Nat}
theorem rtD_plain (r : Option Nat) : (rtD r).plain = true := by cases r <;> rfl
theorem least_ok (ht : Rws t) (hl : l.length ≤ 1000) (hin : ∀ c ∈ l, c ∈ lets t) {i : Nat} (hi : i < l.length) (bound : Int) (p : Nat) :
    x_least_at_most [plcD t l i, .int bound, .int (p : Int)] = .ret (rtD (lqR (strF t l i) (losF t l i) bound p)) [plcD t l i, .int bound, .int (p : Int)] := by
  have f1 := fun ρ => p_chk (t := t) (l := l) (i := i) (j := 0) (ρ := some (plcD t l i) :: ρ) r_strength rfl
  have f2 := fun ρ => p_st (t := t) (l := l) (i := i) (j := 0) (ρ := some (plcD t l i) :: ρ) rfl
  have f3 := fun ρ => p_lo (t := t) (l := l) (i := i) (j := 0) (ρ := some (plcD t l i) :: ρ) rfl
  have e1 := pstr_ok ht hl hin hi (p : Int)
  have hs := los_small ht hl hin hi
  have pl := plcD_plain t l i
  have l1 : opLeA [.int (strF t l i - (p : Int) * losF t l i), .int bound] = some (.bl (decide (strF t l i - (p : Int) * losF t l i ≤ bound))) := rfl
  have l2 : opLeA [.int (losF t l i), .int 0] = some (.bl (decide (losF t l i ≤ 0))) := rfl
  unfold lqR
  by_cases h1 : strF t l i - (p : Int) * losF t l i ≤ bound
  · rw [if_pos h1]
    rw [decide_eq_true h1] at l1
    show _ = FR.ret (D.int (p : Int)) _
    generalize plcD t l i = P at *
    generalize strF t l i - (p : Int) * losF t l i = sp at *
    generalize (p : Int) = pp at *
    unfold x_least_at_most b_least_at_most
    generalize chk "Place" "strength" (loc 0) = F1 at *
    generalize x_Place__strength = XS at *
    generalize opLeA = OL at *
    simp [mkF, reFrz, seq, Pm.ite, rtn, mov, asg, drp, sNx, bnd, Pm.bin, Pm.un, app, aCons, aNil, idx, loc, con, Pm.ret, peek1, peeks, itemOf, on2I, iAdd, iSub, iGt, iGe, iLt, iLe, iDiv, iMod, use1, useL, gI, gN, tst, andT, orT, notT, andE, orE, notE, ifE, ixN, D.frz, D.plain, plainL, argsBack, opLen, opAbs, opInt1, opNeg, disp, cap, callF, takes, puts, selA, sel, aApp, par, gT, gsC, gs0, appF, opDivmod, frzL, plainL, f1, e1, l1, pl]
  · rw [if_neg h1]
    rw [decide_eq_false h1] at l1
    by_cases h2 : losF t l i ≤ 0
    · rw [if_pos h2]
      rw [decide_eq_true h2] at l2
      show _ = FR.ret D.non _
      generalize plcD t l i = P at *
      generalize strF t l i - (p : Int) * losF t l i = sp at *
      generalize (p : Int) = pp at *
      generalize losF t l i = lo at *
      unfold x_least_at_most b_least_at_most
      generalize chk "Place" "strength" (loc 0) = F1 at *
      generalize fldE "Place" "loss" (loc 0) = F3 at *
      generalize x_Place__strength = XS at *
      generalize opLeA = OL at *
      simp [mkF, reFrz, seq, Pm.ite, rtn, mov, asg, drp, sNx, bnd, Pm.bin, Pm.un, app, aCons, aNil, idx, loc, con, Pm.ret, peek1, peeks, itemOf, on2I, iAdd, iSub, iGt, iGe, iLt, iLe, iDiv, iMod, use1, useL, gI, gN, tst, andT, orT, notT, andE, orE, notE, ifE, ixN, D.frz, D.plain, plainL, argsBack, opLen, opAbs, opInt1, opNeg, disp, cap, callF, takes, puts, selA, sel, aApp, par, gT, gsC, gs0, appF, opDivmod, frzL, plainL, f1, f3, e1, l1, l2, pl]
    · rw [if_neg h2]
      rw [decide_eq_false h2] at l2
      have hp := lqR_pos h1 h2
      have e : ((-((bound - strF t l i) / losF t l i)).toNat : Int) = -((bound - strF t l i) / losF t l i) := Int.toNat_of_nonneg (by omega)
      have d1 : iDiv (bound - strF t l i) (losF t l i) = some (.int ((bound - strF t l i) / losF t l i)) := by
        unfold iDiv
        rw [if_pos (by omega), if_pos (Sm.divOk (e := 60) (by unfold Sm; omega) (by decide))]
      show _ = FR.ret (D.int ((-((bound - strF t l i) / losF t l i)).toNat : Int)) _
      rw [e]
      generalize plcD t l i = P at *
      generalize (bound - strF t l i) / losF t l i = dd at *
      generalize strF t l i - (p : Int) * losF t l i = sp at *
      generalize (p : Int) = pp at *
      generalize losF t l i = lo at *
      generalize strF t l i = st at *
      unfold x_least_at_most b_least_at_most
      generalize chk "Place" "strength" (loc 0) = F1 at *
      generalize fldE "Place" "loss" (loc 0) = F3 at *
      generalize fldE "Place" "first_strength" (loc 0) = F2 at *
      generalize x_Place__strength = XS at *
      generalize opLeA = OL at *
      generalize iDiv = ID at *
      simp [mkF, reFrz, seq, Pm.ite, rtn, mov, asg, drp, sNx, bnd, Pm.bin, Pm.un, app, aCons, aNil, idx, loc, con, Pm.ret, peek1, peeks, itemOf, on2I, iAdd, iSub, iGt, iGe, iLt, iLe, iDiv, iMod, use1, useL, gI, gN, tst, andT, orT, notT, andE, orE, notE, ifE, ixN, D.frz, D.plain, plainL, argsBack, opLen, opAbs, opInt1, opNeg, disp, cap, callF, takes, puts, selA, sel, aApp, par, gT, gsC, gs0, appF, opDivmod, frzL, plainL, f1, f2, f3, e1, l1, l2, d1, pl]
theorem last_ok (ht : Rws t) (hl : l.length ≤ 1000) (hin : ∀ c ∈ l, c ∈ lets t) {i : Nat} (hi : i < l.length) (bound : Int) (p : Nat) :
    x_last_below [plcD t l i, .int bound, .int (p : Int)] = .ret (rtD (lqL (strF t l i) (losF t l i) bound p)) [plcD t l i, .int bound, .int (p : Int)] := by
  have f1 := fun ρ => p_chk (t := t) (l := l) (i := i) (j := 0) (ρ := some (plcD t l i) :: ρ) r_strength rfl
  have f2 := fun ρ => p_st (t := t) (l := l) (i := i) (j := 0) (ρ := some (plcD t l i) :: ρ) rfl
  have f3 := fun ρ => p_lo (t := t) (l := l) (i := i) (j := 0) (ρ := some (plcD t l i) :: ρ) rfl
  have e1 := pstr_ok ht hl hin hi (p : Int)
  have hs := los_small ht hl hin hi
  have pl := plcD_plain t l i
  have l1 : opLtA [.int (strF t l i - (p : Int) * losF t l i), .int bound] = some (.bl (decide (strF t l i - (p : Int) * losF t l i < bound))) := rfl
  have l2 : opGeA [.int (losF t l i), .int 0] = some (.bl (decide (0 ≤ losF t l i))) := rfl
  have l3 : ∀ x : Int, opGeA [.int x, .int 0] = some (.bl (decide (0 ≤ x))) := fun x => rfl
  unfold lqL
  by_cases h1 : strF t l i - (p : Int) * losF t l i < bound
  · rw [if_pos h1]
    rw [decide_eq_true h1] at l1
    show _ = FR.ret (D.int (p : Int)) _
    generalize plcD t l i = P at *
    generalize strF t l i - (p : Int) * losF t l i = sp at *
    generalize (p : Int) = pp at *
    unfold x_last_below b_last_below
    generalize chk "Place" "strength" (loc 0) = F1 at *
    generalize x_Place__strength = XS at *
    generalize opLtA = OL at *
    simp [mkF, reFrz, seq, Pm.ite, rtn, mov, asg, drp, sNx, bnd, Pm.bin, Pm.un, app, aCons, aNil, idx, loc, con, Pm.ret, peek1, peeks, itemOf, on2I, iAdd, iSub, iGt, iGe, iLt, iLe, iDiv, iMod, use1, useL, gI, gN, tst, andT, orT, notT, andE, orE, notE, ifE, ixN, D.frz, D.plain, plainL, argsBack, opLen, opAbs, opInt1, opNeg, disp, cap, callF, takes, puts, selA, sel, aApp, par, gT, gsC, gs0, appF, opDivmod, frzL, plainL, f1, e1, l1, pl]
  · rw [if_neg h1]
    rw [decide_eq_false h1] at l1
    by_cases h2 : 0 ≤ losF t l i
    · rw [if_pos h2]
      rw [decide_eq_true h2] at l2
      show _ = FR.ret D.non _
      generalize plcD t l i = P at *
      generalize strF t l i - (p : Int) * losF t l i = sp at *
      generalize (p : Int) = pp at *
      generalize losF t l i = lo at *
      unfold x_last_below b_last_below
      generalize chk "Place" "strength" (loc 0) = F1 at *
      generalize fldE "Place" "loss" (loc 0) = F3 at *
      generalize x_Place__strength = XS at *
      generalize opLtA = OL at *
      generalize opGeA = OG at *
      simp [mkF, reFrz, seq, Pm.ite, rtn, mov, asg, drp, sNx, bnd, Pm.bin, Pm.un, app, aCons, aNil, idx, loc, con, Pm.ret, peek1, peeks, itemOf, on2I, iAdd, iSub, iGt, iGe, iLt, iLe, iDiv, iMod, use1, useL, gI, gN, tst, andT, orT, notT, andE, orE, notE, ifE, ixN, D.frz, D.plain, plainL, argsBack, opLen, opAbs, opInt1, opNeg, disp, cap, callF, takes, puts, selA, sel, aApp, par, gT, gsC, gs0, appF, opDivmod, frzL, plainL, f1, f3, e1, l1, l2, pl]
    · rw [if_neg h2]
      rw [decide_eq_false h2] at l2
      have d1 : iDiv (bound - 1 - strF t l i) (-losF t l i) = some (.int ((bound - 1 - strF t l i) / (-losF t l i))) := by
        unfold iDiv
        rw [if_pos (by omega), if_pos (Sm.divOk (e := 60) (by unfold Sm; omega) (by decide))]
      have l4 := l3 ((bound - 1 - strF t l i) / (-losF t l i))
      clear l3
      by_cases h3 : 0 ≤ (bound - 1 - strF t l i) / (-losF t l i)
      · rw [if_pos h3]
        rw [decide_eq_true h3] at l4
        have e : (((bound - 1 - strF t l i) / (-losF t l i)).toNat : Int) = (bound - 1 - strF t l i) / (-losF t l i) := Int.toNat_of_nonneg h3
        show _ = FR.ret (D.int (((bound - 1 - strF t l i) / (-losF t l i)).toNat : Int)) _
        rw [e]
        generalize plcD t l i = P at *
        generalize (bound - 1 - strF t l i) / (-losF t l i) = dd at *
        generalize strF t l i - (p : Int) * losF t l i = sp at *
        generalize (p : Int) = pp at *
        generalize losF t l i = lo at *
        generalize strF t l i = st at *
        unfold x_last_below b_last_below
        generalize chk "Place" "strength" (loc 0) = F1 at *
        generalize fldE "Place" "loss" (loc 0) = F3 at *
        generalize fldE "Place" "first_strength" (loc 0) = F2 at *
        generalize x_Place__strength = XS at *
        generalize opLtA = OL at *
        generalize opGeA = OG at *
        generalize iDiv = ID at *
        simp [mkF, reFrz, seq, Pm.ite, rtn, mov, asg, drp, sNx, bnd, Pm.bin, Pm.un, app, aCons, aNil, idx, loc, con, Pm.ret, peek1, peeks, itemOf, on2I, iAdd, iSub, iGt, iGe, iLt, iLe, iDiv, iMod, use1, useL, gI, gN, tst, andT, orT, notT, andE, orE, notE, ifE, ixN, D.frz, D.plain, plainL, argsBack, opLen, opAbs, opInt1, opNeg, disp, cap, callF, takes, puts, selA, sel, aApp, par, gT, gsC, gs0, appF, opDivmod, frzL, plainL, f1, f2, f3, e1, l1, l2, l4, d1, pl]
      · rw [if_neg h3]
        rw [decide_eq_false h3] at l4
        show _ = FR.ret D.non _
        generalize plcD t l i = P at *
        generalize (bound - 1 - strF t l i) / (-losF t l i) = dd at *
        generalize strF t l i - (p : Int) * losF t l i = sp at *
        generalize (p : Int) = pp at *
        generalize losF t l i = lo at *
        generalize strF t l i = st at *
        unfold x_last_below b_last_below
        generalize chk "Place" "strength" (loc 0) = F1 at *
        generalize fldE "Place" "loss" (loc 0) = F3 at *
        generalize fldE "Place" "first_strength" (loc 0) = F2 at *
        generalize x_Place__strength = XS at *
        generalize opLtA = OL at *
        generalize opGeA = OG at *
        generalize iDiv = ID at *
        simp [mkF, reFrz, seq, Pm.ite, rtn, mov, asg, drp, sNx, bnd, Pm.bin, Pm.un, app, aCons, aNil, idx, loc, con, Pm.ret, peek1, peeks, itemOf, on2I, iAdd, iSub, iGt, iGe, iLt, iLe, iDiv, iMod, use1, useL, gI, gN, tst, andT, orT, notT, andE, orE, notE, ifE, ixN, D.frz, D.plain, plainL, argsBack, opLen, opAbs, opInt1, opNeg, disp, cap, callF, takes, puts, selA, sel, aApp, par, gT, gsC, gs0, appF, opDivmod, frzL, plainL, f1, f2, f3, e1, l1, l2, l4, d1, pl]
end
end Rp
namespace Rp
open PySem PySem.Spec PyProof.Rows L2 Pm
open Pg (sg rowD tabD tabD_plain tabD_frz dr divS x_is_integer x_is_between between_i between_ok btwB Fi ix_nat rtD)
open Sc (Rws RowT)
def nD (ns : List Nat) : List D := ns.map fun n : Nat => D.int (n : Int)
theorem nD_app (a b : List Nat) : nD (a ++ b) = nD a ++ nD b := List.map_append
section
variable {o : Bool} {t : List RowT} {l : List Nat} {n : Nat}
theorem right_turn (ht : Rws t) (hl : l.length ≤ 1000) (hin : ∀ c ∈ l, c ∈ lets t) {i k : Nat} {bound : Int} (hi : i < l.length) (hn : n ≤ 10 ^ 30) {ns : List Nat} {x7 x8 : Option D} (hns : ns.length ≤ 5000) :
    Wp b_Repeated__nearest_right_1 [some (repD o t l n), some (.int (k : Int)), some (.int bound), some (.int (l.length : Int)), some (.node true .lst (nD ns)), some (.int (i : Int)), some (plcD t l i), x7, x8] fun f ρ => f = .nx ∧ ∃ x7 x8 : Option D,
      ρ = [some (repD o t l n), some (.int (k : Int)), some (.int bound), some (.int (l.length : Int)), some (.node true .lst (nD (ns ++ fR (strF t l) (losF t l) l.length n k bound i))), some (.int (i : Int)), some (plcD t l i), x7, x8] := by
  have h0 : 0 < l.length := by omega
  have f1 := fun ρ => f_rep (o := o) (t := t) (l := l) (n := n) (i := 0) (ρ := some (repD o t l n) :: ρ) rfl
  have m1 := mod_w h0 ((i : Int) - (k : Int) - 1)
  have a1 : hAdd [.int (k : Int), .int 1] = some (.int ((k : Int) + 1)) := rfl
  have a2 : hAdd [.int ((k : Int) + 1), .int (((i : Int) - (k : Int) - 1) % (l.length : Int))] = some (.int (loI l.length ((k + 1 : Nat) : Int) i)) := by
    rw [hAdd_ii]
    unfold loI
    have e : (i : Int) - ((k + 1 : Nat) : Int) = (i : Int) - (k : Int) - 1 := by omega
    rw [e]
    rfl
  obtain ⟨p, e1, e2, _⟩ := lo_form hi (k + 1)
  have d1 : iDiv (loI l.length ((k + 1 : Nat) : Int) i) (l.length : Int) = some (.int (p : Int)) := by
    unfold iDiv
    rw [if_pos (by omega), if_pos (divS (by omega) (by omega)), e2]
  have c1 := least_ok ht hl hin hi bound p
  have pl := repD_plain o t l n
  have pp := plcD_plain t l i
  have rp := rtD_plain (lqR (strF t l i) (losF t l i) bound p)
  have hfr : fR (strF t l) (losF t l) l.length n k bound i = match lqR (strF t l i) (losF t l i) bound p with
    | some q => if q < n then [q * l.length + i] else []
    | none => [] := by
    unfold fR
    rw [e2, Int.toNat_natCast]
    all_goals cases lqR (strF t l i) (losF t l i) bound p <;> rfl
  have hb : (10 : Nat) ^ 30 = 1000000000000000000000000000000 := by decide
  unfold b_Repeated__nearest_right_1
  cases hq : lqR (strF t l i) (losF t l i) bound p with
  | none =>
    rw [hq] at c1 hfr
    rw [hfr]
    simp only [rtD] at c1
    rw [List.append_nil]
    have o1 : opNotN [.non, .non] = some (.bl false) := rfl
    generalize loI l.length ((k + 1 : Nat) : Int) i = lo at *
    generalize ((i : Int) - (k : Int) - 1) % (l.length : Int) = r1 at *
    generalize repD o t l n = R at *
    generalize plcD t l i = P at *
    generalize nD ns = NS at *
    generalize (i : Int) = ii at *
    generalize (k : Int) = kk at *
    generalize (p : Int) = pq at *
    generalize (l.length : Int) = ww at *
    generalize hAdd = HA at *
    generalize iMod = IM at *
    generalize iDiv = ID at *
    generalize opNotN = ON at *
    generalize x_least_at_most = XL at *
    refine wp_seq fun K k1 k2 k3 k4 => ?_
    simp [Wp, mkF, reFrz, seq, Pm.ite, rtn, mov, asg, drp, sNx, bnd, Pm.bin, Pm.un, app, aCons, aNil, idx, loc, con, Pm.ret, peek1, peeks, itemOf, on2I, iAdd, iSub, iGt, iGe, iLt, iLe, iDiv, iMod, use1, useL, gI, gN, tst, andT, orT, notT, andE, orE, notE, ifE, ixN, D.frz, D.plain, plainL, argsBack, opLen, opAbs, opInt1, opNeg, disp, cap, callF, takes, puts, selA, sel, aApp, par, gT, gsC, gs0, appF, opDivmod, frzL, plainL, m1, a1, a2, d1]
    refine k1 _ ?_
    clear k1 k2 k3 k4 K
    refine wp_seq fun K k1 k2 k3 k4 => ?_
    simp [Wp, mkF, reFrz, seq, Pm.ite, rtn, mov, asg, drp, sNx, bnd, Pm.bin, Pm.un, app, aCons, aNil, idx, loc, con, Pm.ret, peek1, peeks, itemOf, on2I, iAdd, iSub, iGt, iGe, iLt, iLe, iDiv, iMod, use1, useL, gI, gN, tst, andT, orT, notT, andE, orE, notE, ifE, ixN, D.frz, D.plain, plainL, argsBack, opLen, opAbs, opInt1, opNeg, disp, cap, callF, takes, puts, selA, sel, aApp, par, gT, gsC, gs0, appF, opDivmod, frzL, plainL, c1, pp]
    refine k1 _ ?_
    clear k1 k2 k3 k4 K
    simp [Wp, mkF, reFrz, seq, Pm.ite, rtn, mov, asg, drp, sNx, bnd, Pm.bin, Pm.un, app, aCons, aNil, idx, loc, con, Pm.ret, peek1, peeks, itemOf, on2I, iAdd, iSub, iGt, iGe, iLt, iLe, iDiv, iMod, use1, useL, gI, gN, tst, andT, orT, notT, andE, orE, notE, ifE, ixN, D.frz, D.plain, plainL, argsBack, opLen, opAbs, opInt1, opNeg, disp, cap, callF, takes, puts, selA, sel, aApp, par, gT, gsC, gs0, appF, opDivmod, frzL, plainL, o1]
  | some q =>
    rw [hq] at c1 hfr
    rw [hfr]
    simp only [rtD] at c1
    have o1 : opNotN [.int (q : Int), .non] = some (.bl true) := rfl
    have o2 : opLtA [.int (q : Int), .int (n : Int)] = some (.bl (decide ((q : Int) < (n : Int)))) := rfl
    have u1 : hMulT [.int (q : Int), .int (l.length : Int)] = some (.int ((q : Int) * (l.length : Int))) := by rw [hMulT_ii, mulR (by omega)]
    have a3 : hAdd [.int ((q : Int) * (l.length : Int)), .int (i : Int)] = some (.int ((q * l.length + i : Nat) : Int)) := by rw [hAdd_ii, Int.natCast_add, Int.natCast_mul]
    have hc : (nD ns).length < cap := by unfold nD; rw [List.length_map]; show _ < 1000000; omega
    by_cases hqn : q < n
    · simp only [hqn, if_true]
      rw [decide_eq_true (by omega)] at o2
      have e3 : nD (ns ++ [q * l.length + i]) = nD ns ++ [.int ((q * l.length + i : Nat) : Int)] := nD_app ns _
      rw [e3]
      generalize ((q * l.length + i : Nat) : Int) = vv at *
      generalize (q : Int) * (l.length : Int) = qw at *
      generalize loI l.length ((k + 1 : Nat) : Int) i = lo at *
      generalize ((i : Int) - (k : Int) - 1) % (l.length : Int) = r1 at *
      generalize repD o t l n = R at *
      generalize plcD t l i = P at *
      generalize nD ns = NS at *
      generalize (i : Int) = ii at *
      generalize (k : Int) = kk at *
      generalize (p : Int) = pq at *
      generalize (q : Int) = qq at *
      generalize (n : Int) = nn at *
      generalize (l.length : Int) = ww at *
      generalize hAdd = HA at *
      generalize hMulT = HM at *
      generalize iMod = IM at *
      generalize iDiv = ID at *
      generalize opNotN = ON at *
      generalize opLtA = OL at *
      generalize x_least_at_most = XL at *
      generalize fldE "Repeated" "repetitions" (loc 0) = F1 at *
      refine wp_seq fun K k1 k2 k3 k4 => ?_
      simp [Wp, mkF, reFrz, seq, Pm.ite, rtn, mov, asg, drp, sNx, bnd, Pm.bin, Pm.un, app, aCons, aNil, idx, loc, con, Pm.ret, peek1, peeks, itemOf, on2I, iAdd, iSub, iGt, iGe, iLt, iLe, iDiv, iMod, use1, useL, gI, gN, tst, andT, orT, notT, andE, orE, notE, ifE, ixN, D.frz, D.plain, plainL, argsBack, opLen, opAbs, opInt1, opNeg, disp, cap, callF, takes, puts, selA, sel, aApp, par, gT, gsC, gs0, appF, opDivmod, frzL, plainL, m1, a1, a2, d1]
      refine k1 _ ?_
      clear k1 k2 k3 k4 K
      refine wp_seq fun K k1 k2 k3 k4 => ?_
      simp [Wp, mkF, reFrz, seq, Pm.ite, rtn, mov, asg, drp, sNx, bnd, Pm.bin, Pm.un, app, aCons, aNil, idx, loc, con, Pm.ret, peek1, peeks, itemOf, on2I, iAdd, iSub, iGt, iGe, iLt, iLe, iDiv, iMod, use1, useL, gI, gN, tst, andT, orT, notT, andE, orE, notE, ifE, ixN, D.frz, D.plain, plainL, argsBack, opLen, opAbs, opInt1, opNeg, disp, cap, callF, takes, puts, selA, sel, aApp, par, gT, gsC, gs0, appF, opDivmod, frzL, plainL, c1, pp]
      refine k1 _ ?_
      clear k1 k2 k3 k4 K
      simp [Wp, appd, mkF, reFrz, seq, Pm.ite, rtn, mov, asg, drp, sNx, bnd, Pm.bin, Pm.un, app, aCons, aNil, idx, loc, con, Pm.ret, peek1, peeks, itemOf, on2I, iAdd, iSub, iGt, iGe, iLt, iLe, iDiv, iMod, use1, useL, gI, gN, tst, andT, orT, notT, andE, orE, notE, ifE, ixN, D.frz, D.plain, plainL, argsBack, opLen, opAbs, opInt1, opNeg, disp, cap, callF, takes, puts, selA, sel, aApp, par, gT, gsC, gs0, appF, opDivmod, frzL, plainL, o1, o2, f1, u1, a3, hc]
    · simp only [hqn, if_false]
      rw [decide_eq_false (by omega)] at o2
      rw [List.append_nil]
      generalize loI l.length ((k + 1 : Nat) : Int) i = lo at *
      generalize ((i : Int) - (k : Int) - 1) % (l.length : Int) = r1 at *
      generalize repD o t l n = R at *
      generalize plcD t l i = P at *
      generalize nD ns = NS at *
      generalize (i : Int) = ii at *
      generalize (k : Int) = kk at *
      generalize (p : Int) = pq at *
      generalize (q : Int) = qq at *
      generalize (n : Int) = nn at *
      generalize (l.length : Int) = ww at *
      generalize hAdd = HA at *
      generalize iMod = IM at *
      generalize iDiv = ID at *
      generalize opNotN = ON at *
      generalize opLtA = OL at *
      generalize x_least_at_most = XL at *
      generalize fldE "Repeated" "repetitions" (loc 0) = F1 at *
      refine wp_seq fun K k1 k2 k3 k4 => ?_
      simp [Wp, mkF, reFrz, seq, Pm.ite, rtn, mov, asg, drp, sNx, bnd, Pm.bin, Pm.un, app, aCons, aNil, idx, loc, con, Pm.ret, peek1, peeks, itemOf, on2I, iAdd, iSub, iGt, iGe, iLt, iLe, iDiv, iMod, use1, useL, gI, gN, tst, andT, orT, notT, andE, orE, notE, ifE, ixN, D.frz, D.plain, plainL, argsBack, opLen, opAbs, opInt1, opNeg, disp, cap, callF, takes, puts, selA, sel, aApp, par, gT, gsC, gs0, appF, opDivmod, frzL, plainL, m1, a1, a2, d1]
      refine k1 _ ?_
      clear k1 k2 k3 k4 K
      refine wp_seq fun K k1 k2 k3 k4 => ?_
      simp [Wp, mkF, reFrz, seq, Pm.ite, rtn, mov, asg, drp, sNx, bnd, Pm.bin, Pm.un, app, aCons, aNil, idx, loc, con, Pm.ret, peek1, peeks, itemOf, on2I, iAdd, iSub, iGt, iGe, iLt, iLe, iDiv, iMod, use1, useL, gI, gN, tst, andT, orT, notT, andE, orE, notE, ifE, ixN, D.frz, D.plain, plainL, argsBack, opLen, opAbs, opInt1, opNeg, disp, cap, callF, takes, puts, selA, sel, aApp, par, gT, gsC, gs0, appF, opDivmod, frzL, plainL, c1, pp]
      refine k1 _ ?_
      clear k1 k2 k3 k4 K
      simp [Wp, mkF, reFrz, seq, Pm.ite, rtn, mov, asg, drp, sNx, bnd, Pm.bin, Pm.un, app, aCons, aNil, idx, loc, con, Pm.ret, peek1, peeks, itemOf, on2I, iAdd, iSub, iGt, iGe, iLt, iLe, iDiv, iMod, use1, useL, gI, gN, tst, andT, orT, notT, andE, orE, notE, ifE, ixN, D.frz, D.plain, plainL, argsBack, opLen, opAbs, opInt1, opNeg, disp, cap, callF, takes, puts, selA, sel, aApp, par, gT, gsC, gs0, appF, opDivmod, frzL, plainL, o1, o2, f1]
/-- the list's least, greatest -/
theorem best_nat (mx : Bool) : ∀ (ns : List Nat) (m : Nat), ∃ r : Nat, bestI mx (m : Int) (ns.map fun n : Nat => (n : Int)) = (r : Int) ∧ (r = m ∨ r ∈ ns) ∧ (if mx then m ≤ r ∧ ∀ x ∈ ns, x ≤ r else r ≤ m ∧ ∀ x ∈ ns, r ≤ x)
  | [], m => ⟨m, by cases mx <;> rfl, .inl rfl, by cases mx <;> simp⟩
  | n :: ns, m => by
    cases mx with
    | true =>
      obtain ⟨r, e, h1, h2, h3⟩ := best_nat true ns (max m n)
      refine ⟨r, ?_, ?_, ?_⟩
      · have : max (m : Int) (n : Int) = ((max m n : Nat) : Int) := by omega
        rw [← e]
        show List.foldl max (max (m : Int) (n : Int)) _ = List.foldl max _ _
        rw [this]
      · rcases h1 with h1 | h1
        · by_cases hm : m ≤ n
          · exact .inr (by rw [h1, Nat.max_eq_right hm]; exact List.mem_cons_self)
          · exact .inl (by omega)
        · exact .inr (List.mem_cons_of_mem _ h1)
      · simp only [if_true]
        refine ⟨by omega, fun x hx => ?_⟩
        rcases List.mem_cons.mp hx with rfl | hx
        · omega
        · exact h3 x hx
    | false =>
      obtain ⟨r, e, h1, h2, h3⟩ := best_nat false ns (min m n)
      refine ⟨r, ?_, ?_, ?_⟩
      · have : min (m : Int) (n : Int) = ((min m n : Nat) : Int) := by omega
        rw [← e]
        show List.foldl min (min (m : Int) (n : Int)) _ = List.foldl min _ _
        rw [this]
      · rcases h1 with h1 | h1
        · by_cases hm : m ≤ n
          · exact .inl (by omega)
          · exact .inr (by rw [h1, Nat.min_eq_right (by omega)]; exact List.mem_cons_self)
        · exact .inr (List.mem_cons_of_mem _ h1)
      · simp only [Bool.false_eq_true, if_false]
        refine ⟨by omega, fun x hx => ?_⟩
        rcases List.mem_cons.mp hx with rfl | hx
        · omega
        · exact h3 x hx
theorem minD_nat (mx b : Bool) (ns : List Nat) : (ns = [] ∧ opMinD mx [.node b .lst (nD ns)] = some .non) ∨ ∃ r : Nat, opMinD mx [.node b .lst (nD ns)] = some (.int (r : Int)) ∧ r ∈ ns ∧ (if mx then ∀ x ∈ ns, x ≤ r else ∀ x ∈ ns, r ≤ x) := by
  cases ns with
  | nil => exact .inl ⟨rfl, rfl⟩
  | cons m ns =>
    right
    obtain ⟨r, e, h1, h2⟩ := best_nat mx ns m
    refine ⟨r, ?_, ?_, ?_⟩
    · have hk := intsK_nat (m :: ns)
      unfold opMinD
      show (match intsK (nD (m :: ns)) with | some [] => _ | some (n :: ns) => _ | none => _) = _
      unfold nD
      rw [hk]
      show some (D.int (bestI mx (m : Int) (ns.map fun n : Nat => (n : Int)))) = _
      rw [e]
    · rcases h1 with rfl | h1
      · exact List.mem_cons_self
      · exact List.mem_cons_of_mem _ h1
    · cases mx with
      | true =>
        simp only [if_true] at h2 ⊢
        intro x hx
        rcases List.mem_cons.mp hx with rfl | hx
        · exact h2.1
        · exact h2.2 x hx
      | false =>
        simp only [Bool.false_eq_true, if_false] at h2 ⊢
        intro x hx
        rcases List.mem_cons.mp hx with rfl | hx
        · exact h2.1
        · exact h2.2 x hx
def foundP (f : Nat → List Nat) : Nat → List Nat
  | 0 => []
  | i + 1 => foundP f i ++ f i
theorem foundP_mem {f : Nat → List Nat} {x : Nat} : ∀ {w : Nat}, x ∈ foundP f w ↔ ∃ i, i < w ∧ x ∈ f i
  | 0 => by simp [foundP]
  | w + 1 => by
    rw [foundP, List.mem_append, foundP_mem (w := w)]
    constructor
    · rintro (⟨i, h, hx⟩ | h)
      · exact ⟨i, by omega, hx⟩
      · exact ⟨w, by omega, h⟩
    · rintro ⟨i, h, hx⟩
      by_cases e : i = w
      · exact .inr (by rw [← e]; exact hx)
      · exact .inl ⟨i, by omega, hx⟩
theorem foundP_len {f : Nat → List Nat} (h : ∀ i, (f i).length ≤ 1) : ∀ w : Nat, (foundP f w).length ≤ w
  | 0 => Nat.le_refl _
  | w + 1 => by
    rw [foundP, List.length_append]
    have := foundP_len h w
    have := h w
    omega
theorem fR_len (F L : Nat → Int) (w n k : Nat) (b : Int) (i : Nat) : (fR F L w n k b i).length ≤ 1 := by
  unfold fR
  split
  · split <;> simp
  · simp
theorem fL_len (F L : Nat → Int) (w k : Nat) (b : Int) (i : Nat) : (fL F L w k b i).length ≤ 1 := by
  unfold fL
  split
  · split <;> simp
  · simp
theorem right_ok (ht : Rws t) (hl : l.length ≤ 1000) (hin : ∀ c ∈ l, c ∈ lets t) (hn : n ≤ 10 ^ 30) {k : Nat} (hk : k < l.length * n) :
    ∃ r : Option Nat, x_Repeated__nearest_right [repD o t l n, .int (k : Int)] = .ret (rtD r) [repD o t l n, .int (k : Int)] ∧ NearR (strK t l) (l.length * n) k r := by
  have h0 : 0 < l.length := Nat.pos_of_ne_zero fun e => by rw [e] at hk; omega
  have hw : Wf x_Repeated__nearest_right [repD o t l n, .int (k : Int)] fun d as => ∃ r : Option Nat, d = rtD r ∧ as = [repD o t l n, .int (k : Int)] ∧ NearR (strK t l) (l.length * n) k r := by
    have f1 := fun ρ => f_pls (o := o) (t := t) (l := l) (n := n) (i := 0) (ρ := some (repD o t l n) :: ρ) rfl
    have f2 := fun ρ => c_rep (o := o) (t := t) (l := l) (n := n) (i := 0) (ρ := some (repD o t l n) :: ρ) r_strength_of rfl
    have l1 : opLen [.node false .lst (placesD false t l)] = some (.int (l.length : Int)) := by
      show some (D.int ((placesD false t l).length : Int)) = _
      rw [places_len]
    have pl := repD_plain o t l n
    have e1 := strength_ok (o := o) ht hl hin hk
    have pp := places_plain t l
    have pz := frzL_of_plain _ pp
    unfold x_Repeated__nearest_right
    refine wf_mkF ?_
    unfold b_Repeated__nearest_right
    show Wp _ [some (repD o t l n), some (.int (k : Int)), none, none, none, none, none, none, none] _
    refine wp_seq fun K k1 k2 k3 k4 => ?_
    have s1 : par 2 3 (aCons (callF x_Repeated__strength_of (aCons (chk "Repeated" "strength_of" (loc 0)) (aCons (loc 1) aNil))) (aCons (app opLen (aCons (fldE "Repeated" "places" (loc 0)) aNil)) aNil)) [some (repD o t l n), some (.int (k : Int)), none, none, none, none, none, none, none]
        = .ok .nx [some (repD o t l n), some (.int (k : Int)), some (.int (strK t l k)), some (.int (l.length : Int)), none, none, none, none, none] := by
      generalize repD o t l n = R at *
      generalize strK t l k = sk at *
      generalize placesD false t l = PL at *
      generalize fldE "Repeated" "places" (loc 0) = F1 at *
      generalize chk "Repeated" "strength_of" (loc 0) = F2 at *
      generalize x_Repeated__strength_of = XS at *
      generalize opLen = OL at *
      generalize (l.length : Int) = ww at *
      generalize (k : Int) = kk at *
      cases o <;> simp [useL, mkF, reFrz, seq, Pm.ite, rtn, mov, asg, drp, sNx, bnd, Pm.bin, Pm.un, app, aCons, aNil, idx, loc, con, Pm.ret, peek1, peeks, itemOf, on2I, iAdd, iSub, iGt, iGe, iLt, iLe, iDiv, iMod, use1, useL, gI, gN, tst, andT, orT, notT, andE, orE, notE, ifE, ixN, D.frz, D.plain, plainL, argsBack, opLen, opAbs, opInt1, opNeg, disp, cap, callF, takes, puts, selA, sel, aApp, par, gT, gsC, gs0, appF, opDivmod, frzL, plainL, f1, f2, e1, l1, pl]
    refine Wp.of s1 (k1 _ ?_)
    clear k1 k2 k3 k4 K s1
    refine wp_seq fun K k1 k2 k3 k4 => ?_
    refine Wp.of (a := .nx) (ρ' := [some (repD o t l n), some (.int (k : Int)), some (.int (strK t l k)), some (.int (l.length : Int)), some (.node true .lst []), none, none, none, none]) rfl (k1 _ ?_)
    clear k1 k2 k3 k4 K
    refine wp_seq fun K k1 k2 k3 k4 => ?_
    have hsrc : srcEnum (fldE "Repeated" "places" (loc 0)) [some (repD o t l n), some (.int (k : Int)), some (.int (strK t l k)), some (.int (l.length : Int)), some (.node true .lst []), none, none, none, none] = .ok (enumD 0 (placesD false t l)) [some (repD o t l n), some (.int (k : Int)), some (.int (strK t l k)), some (.int (l.length : Int)), some (.node true .lst []), none, none, none, none] := by
      generalize repD o t l n = R at *
      generalize placesD false t l = PL at *
      generalize fldE "Repeated" "places" (loc 0) = F1 at *
      simp [srcEnum, srcSeq, mkF, reFrz, seq, Pm.ite, rtn, mov, asg, drp, sNx, bnd, Pm.bin, Pm.un, app, aCons, aNil, idx, loc, con, Pm.ret, peek1, peeks, itemOf, on2I, iAdd, iSub, iGt, iGe, iLt, iLe, iDiv, iMod, use1, useL, gI, gN, tst, andT, orT, notT, andE, orE, notE, ifE, ixN, D.frz, D.plain, plainL, argsBack, opLen, opAbs, opInt1, opNeg, disp, cap, callF, takes, puts, selA, sel, aApp, par, gT, gsC, gs0, appF, opDivmod, frzL, plainL, f1, pz]
    refine wp_for hsrc (fun j ρ => ∃ x5 x6 x7 x8 : Option D, ρ = [some (repD o t l n), some (.int (k : Int)), some (.int (strK t l k)), some (.int (l.length : Int)), some (.node true .lst (nD (foundP (fR (strF t l) (losF t l) l.length n k (strK t l k)) j))), x5, x6, x7, x8]) ⟨none, none, none, none, rfl⟩ ?_ ?_
    · rintro j d ρ hd ⟨x5, x6, x7, x8, rfl⟩
      obtain ⟨dp, hp, rfl⟩ := enumD_get _ _ _ _ hd
      have hj : j < l.length := by
        have := (List.getElem?_eq_some_iff.mp hp).1
        rw [places_len] at this
        exact this
      rw [places_get hj] at hp
      cases hp
      have e0 : ((0 + j : Nat) : Int) = (j : Int) := by omega
      rw [e0]
      refine ⟨[some (repD o t l n), some (.int (k : Int)), some (.int (strK t l k)), some (.int (l.length : Int)), some (.node true .lst (nD (foundP (fR (strF t l) (losF t l) l.length n k (strK t l k)) j))), some (.int (j : Int)), some (plcD t l j), x7, x8], rfl, ?_⟩
      refine (right_turn ht hl hin (o := o) (k := k) (bound := strK t l k) hj hn (x7 := x7) (x8 := x8) (by have := foundP_len (fR_len (strF t l) (losF t l) l.length n k (strK t l k)) j; omega)).mono ?_
      rintro f ρ ⟨rfl, x7', x8', rfl⟩
      exact ⟨some (.int (j : Int)), some (plcD t l j), x7', x8', rfl⟩
    · rintro ρ ⟨x5, x6, x7, x8, rfl⟩
      rw [enumD_length, places_len]
      refine k1 _ ?_
      clear k1 k2 k3 k4 K hsrc
      have hmem := fun x => foundP_mem (f := fR (strF t l) (losF t l) l.length n k (strK t l k)) (x := x) (w := l.length)
      have fin : ∀ r : Option Nat, opMinD false [.node true .lst (nD (foundP (fR (strF t l) (losF t l) l.length n k (strK t l k)) l.length))] = some (rtD r) → NearR (strK t l) (l.length * n) k r →
          Wp (rtn (app (opMinD false) (aCons (loc 4) aNil))) [some (repD o t l n), some (.int (k : Int)), some (.int (strK t l k)), some (.int (l.length : Int)), some (.node true .lst (nD (foundP (fR (strF t l) (losF t l) l.length n k (strK t l k)) l.length))), x5, x6, x7, x8] (Fin [] [repD o t l n, .int (k : Int)] fun d as => ∃ r : Option Nat, d = rtD r ∧ as = [repD o t l n, .int (k : Int)] ∧ NearR (strK t l) (l.length * n) k r) := fun r e h => by
        refine Wp.of (a := Fl.rt (rtD r)) (ρ' := [some (repD o t l n), some (.int (k : Int)), some (.int (strK t l k)), some (.int (l.length : Int)), some (.node true .lst (nD (foundP (fR (strF t l) (losF t l) l.length n k (strK t l k)) l.length))), x5, x6, x7, x8]) ?_ ?_
        · generalize nD _ = NN at *
          generalize repD o t l n = R at *
          generalize opMinD false = OM at *
          generalize rtD r = rr at *
          simp [mkF, reFrz, seq, Pm.ite, rtn, mov, asg, drp, sNx, bnd, Pm.bin, Pm.un, app, aCons, aNil, idx, loc, con, Pm.ret, peek1, peeks, itemOf, on2I, iAdd, iSub, iGt, iGe, iLt, iLe, iDiv, iMod, use1, useL, gI, gN, tst, andT, orT, notT, andE, orE, notE, ifE, ixN, D.frz, D.plain, plainL, argsBack, opLen, opAbs, opInt1, opNeg, disp, cap, callF, takes, puts, selA, sel, aApp, par, gT, gsC, gs0, appF, opDivmod, frzL, plainL, e]
        · refine ⟨[repD o t l n, .int (k : Int)], ?_, r, rfl, rfl, h⟩
          cases o <;> simp [argsBack, reFrz, pl, D.plain]
      rcases minD_nat false true (foundP (fR (strF t l) (losF t l) l.length n k (strK t l k)) l.length) with ⟨he, e⟩ | ⟨m, e, hm, hle⟩
      · refine fin none e ?_
        rw [strK_sF] at *
        refine nearR_no h0 fun i hi => ?_
        cases hx : fR (strF t l) (losF t l) l.length n k (sF (strF t l) (losF t l) l.length k) i with
        | nil => rfl
        | cons x xs =>
          have := (hmem x).mpr ⟨i, hi, by rw [hx]; exact List.mem_cons_self⟩
          rw [he] at this
          cases this
      · refine fin (some m) e ?_
        rw [strK_sF] at *
        exact nearR_of h0 hmem hm hle
  obtain ⟨d, as, e, r, rfl, rfl, h⟩ := hw
  exact ⟨r, e, h⟩
end
end Rp
namespace Rp
open PySem PySem.Spec PyProof.Rows L2 Pm
open Pg (sg rowD tabD tabD_plain tabD_frz dr divS x_is_integer x_is_between between_i between_ok btwB Fi ix_nat rtD)
open Sc (Rws RowT)
section
variable {o : Bool} {t : List RowT} {l : List Nat} {n : Nat}
theorem left_turn (ht : Rws t) (hl : l.length ≤ 1000) (hin : ∀ c ∈ l, c ∈ lets t) {i k : Nat} {bound : Int} (hi : i < l.length) {ns : List Nat} {x7 x8 : Option D} (hns : ns.length ≤ 5000) :
    Wp b_Repeated__nearest_left_1 [some (repD o t l n), some (.int (k : Int)), some (.int bound), some (.int (l.length : Int)), some (.node true .lst (nD ns)), some (.int (i : Int)), some (plcD t l i), x7, x8] fun f ρ => f = .nx ∧ ∃ x7 x8 : Option D,
      ρ = [some (repD o t l n), some (.int (k : Int)), some (.int bound), some (.int (l.length : Int)), some (.node true .lst (nD (ns ++ fL (strF t l) (losF t l) l.length k bound i))), some (.int (i : Int)), some (plcD t l i), x7, x8] := by
  have h0 : 0 < l.length := by omega
  have m1 := mod_w h0 ((k : Int) - 1 - (i : Int))
  have s1 : (k : Int) - 1 - ((k : Int) - 1 - (i : Int)) % (l.length : Int) = hiI l.length ((k : Int) - 1) i := rfl
  have d1 : iDiv (hiI l.length ((k : Int) - 1) i) (l.length : Int) = some (.int (hiI l.length ((k : Int) - 1) i / (l.length : Int))) := by
    unfold iDiv
    rw [if_pos (by omega), if_pos (divS (by omega) (by omega))]
  have pl := repD_plain o t l n
  have pp := plcD_plain t l i
  have hc : (nD ns).length < cap := by unfold nD; rw [List.length_map]; show _ < 1000000; omega
  have g1 : opGeA [.int (hiI l.length ((k : Int) - 1) i / (l.length : Int)), .int 0] = some (.bl (decide (0 ≤ hiI l.length ((k : Int) - 1) i / (l.length : Int)))) := rfl
  unfold b_Repeated__nearest_left_1
  by_cases hneg : 0 ≤ hiI l.length ((k : Int) - 1) i / (l.length : Int)
  · rw [decide_eq_true hneg] at g1
    obtain ⟨p, hp⟩ := Int.eq_ofNat_of_zero_le hneg
    have c1 := last_ok ht hl hin hi bound p
    have hfl : fL (strF t l) (losF t l) l.length k bound i = match lqL (strF t l i) (losF t l i) bound p with
      | some q => [q * l.length + i]
      | none => [] := by
      unfold fL
      rw [if_pos hneg, hp, Int.toNat_natCast]
      all_goals cases lqL (strF t l i) (losF t l i) bound p <;> rfl
    rw [hp] at d1 g1
    rw [hfl]
    cases hq : lqL (strF t l i) (losF t l i) bound p with
    | none =>
      rw [hq] at c1
      simp only [rtD] at c1 ⊢
      rw [List.append_nil]
      have o1 : opNotN [.non, .non] = some (.bl false) := rfl
      generalize repD o t l n = R at *
      generalize plcD t l i = P at *
      generalize nD ns = NS at *
      generalize hiI l.length ((k : Int) - 1) i = hh at *
      generalize ((k : Int) - 1 - (i : Int)) % (l.length : Int) = r1 at *
      generalize (i : Int) = ii at *
      generalize (k : Int) = kk at *
      generalize (p : Int) = pq at *
      generalize (l.length : Int) = ww at *
      generalize hAdd = HA at *
      generalize hMulT = HM at *
      generalize iMod = IM at *
      generalize iDiv = ID at *
      generalize opNotN = ON at *
      generalize opGeA = OG at *
      generalize x_last_below = XL at *
      refine wp_seq fun K k1 k2 k3 k4 => ?_
      simp [Wp, mkF, reFrz, seq, Pm.ite, rtn, mov, asg, drp, sNx, bnd, Pm.bin, Pm.un, app, aCons, aNil, idx, loc, con, Pm.ret, peek1, peeks, itemOf, on2I, iAdd, iSub, iGt, iGe, iLt, iLe, iDiv, iMod, use1, useL, gI, gN, tst, andT, orT, notT, andE, orE, notE, ifE, ixN, D.frz, D.plain, plainL, argsBack, opLen, opAbs, opInt1, opNeg, disp, cap, callF, takes, puts, selA, sel, aApp, par, gT, gsC, gs0, appF, opDivmod, frzL, plainL, m1, s1, d1]
      refine k1 _ ?_
      clear k1 k2 k3 k4 K
      refine wp_seq fun K k1 k2 k3 k4 => ?_
      simp [Wp, mkF, reFrz, seq, Pm.ite, rtn, mov, asg, drp, sNx, bnd, Pm.bin, Pm.un, app, aCons, aNil, idx, loc, con, Pm.ret, peek1, peeks, itemOf, on2I, iAdd, iSub, iGt, iGe, iLt, iLe, iDiv, iMod, use1, useL, gI, gN, tst, andT, orT, notT, andE, orE, notE, ifE, ixN, D.frz, D.plain, plainL, argsBack, opLen, opAbs, opInt1, opNeg, disp, cap, callF, takes, puts, selA, sel, aApp, par, gT, gsC, gs0, appF, opDivmod, frzL, plainL, g1, c1, pp]
      refine k1 _ ?_
      clear k1 k2 k3 k4 K
      simp [Wp, appd, mkF, reFrz, seq, Pm.ite, rtn, mov, asg, drp, sNx, bnd, Pm.bin, Pm.un, app, aCons, aNil, idx, loc, con, Pm.ret, peek1, peeks, itemOf, on2I, iAdd, iSub, iGt, iGe, iLt, iLe, iDiv, iMod, use1, useL, gI, gN, tst, andT, orT, notT, andE, orE, notE, ifE, ixN, D.frz, D.plain, plainL, argsBack, opLen, opAbs, opInt1, opNeg, disp, cap, callF, takes, puts, selA, sel, aApp, par, gT, gsC, gs0, appF, opDivmod, frzL, plainL, o1]
    | some q =>
      rw [hq] at c1
      simp only [rtD] at c1 ⊢
      have o1 : opNotN [.int (q : Int), .non] = some (.bl true) := rfl
      have u1 : hMulT [.int (q : Int), .int (l.length : Int)] = some (.int ((q : Int) * (l.length : Int))) := by rw [hMulT_ii, mulR (by omega)]
      have a3 : hAdd [.int ((q : Int) * (l.length : Int)), .int (i : Int)] = some (.int ((q * l.length + i : Nat) : Int)) := by rw [hAdd_ii, Int.natCast_add, Int.natCast_mul]
      have e3 : nD (ns ++ [q * l.length + i]) = nD ns ++ [.int ((q * l.length + i : Nat) : Int)] := nD_app ns _
      rw [e3]
      generalize repD o t l n = R at *
      generalize plcD t l i = P at *
      generalize nD ns = NS at *
      generalize hiI l.length ((k : Int) - 1) i = hh at *
      generalize ((k : Int) - 1 - (i : Int)) % (l.length : Int) = r1 at *
      generalize ((q * l.length + i : Nat) : Int) = vv at *
      generalize (q : Int) * (l.length : Int) = qw at *
      generalize (i : Int) = ii at *
      generalize (k : Int) = kk at *
      generalize (p : Int) = pq at *
      generalize (q : Int) = qq at *
      generalize (l.length : Int) = ww at *
      generalize hAdd = HA at *
      generalize hMulT = HM at *
      generalize iMod = IM at *
      generalize iDiv = ID at *
      generalize opNotN = ON at *
      generalize opGeA = OG at *
      generalize x_last_below = XL at *
      refine wp_seq fun K k1 k2 k3 k4 => ?_
      simp [Wp, mkF, reFrz, seq, Pm.ite, rtn, mov, asg, drp, sNx, bnd, Pm.bin, Pm.un, app, aCons, aNil, idx, loc, con, Pm.ret, peek1, peeks, itemOf, on2I, iAdd, iSub, iGt, iGe, iLt, iLe, iDiv, iMod, use1, useL, gI, gN, tst, andT, orT, notT, andE, orE, notE, ifE, ixN, D.frz, D.plain, plainL, argsBack, opLen, opAbs, opInt1, opNeg, disp, cap, callF, takes, puts, selA, sel, aApp, par, gT, gsC, gs0, appF, opDivmod, frzL, plainL, m1, s1, d1]
      refine k1 _ ?_
      clear k1 k2 k3 k4 K
      refine wp_seq fun K k1 k2 k3 k4 => ?_
      simp [Wp, mkF, reFrz, seq, Pm.ite, rtn, mov, asg, drp, sNx, bnd, Pm.bin, Pm.un, app, aCons, aNil, idx, loc, con, Pm.ret, peek1, peeks, itemOf, on2I, iAdd, iSub, iGt, iGe, iLt, iLe, iDiv, iMod, use1, useL, gI, gN, tst, andT, orT, notT, andE, orE, notE, ifE, ixN, D.frz, D.plain, plainL, argsBack, opLen, opAbs, opInt1, opNeg, disp, cap, callF, takes, puts, selA, sel, aApp, par, gT, gsC, gs0, appF, opDivmod, frzL, plainL, g1, c1, pp]
      refine k1 _ ?_
      clear k1 k2 k3 k4 K
      simp [Wp, appd, mkF, reFrz, seq, Pm.ite, rtn, mov, asg, drp, sNx, bnd, Pm.bin, Pm.un, app, aCons, aNil, idx, loc, con, Pm.ret, peek1, peeks, itemOf, on2I, iAdd, iSub, iGt, iGe, iLt, iLe, iDiv, iMod, use1, useL, gI, gN, tst, andT, orT, notT, andE, orE, notE, ifE, ixN, D.frz, D.plain, plainL, argsBack, opLen, opAbs, opInt1, opNeg, disp, cap, callF, takes, puts, selA, sel, aApp, par, gT, gsC, gs0, appF, opDivmod, frzL, plainL, o1, u1, a3, hc]
  · rw [decide_eq_false hneg] at g1
    have hfl : fL (strF t l) (losF t l) l.length k bound i = [] := by
      unfold fL
      rw [if_neg hneg]
    rw [hfl, List.append_nil]
    have o1 : opNotN [.non, .non] = some (.bl false) := rfl
    generalize repD o t l n = R at *
    generalize plcD t l i = P at *
    generalize nD ns = NS at *
    generalize hiI l.length ((k : Int) - 1) i / (l.length : Int) = hq' at *
    generalize hiI l.length ((k : Int) - 1) i = hh at *
    generalize ((k : Int) - 1 - (i : Int)) % (l.length : Int) = r1 at *
    generalize (i : Int) = ii at *
    generalize (k : Int) = kk at *
    generalize (l.length : Int) = ww at *
    generalize hAdd = HA at *
    generalize hMulT = HM at *
    generalize iMod = IM at *
    generalize iDiv = ID at *
    generalize opNotN = ON at *
    generalize opGeA = OG at *
    generalize x_last_below = XL at *
    refine wp_seq fun K k1 k2 k3 k4 => ?_
    simp [Wp, mkF, reFrz, seq, Pm.ite, rtn, mov, asg, drp, sNx, bnd, Pm.bin, Pm.un, app, aCons, aNil, idx, loc, con, Pm.ret, peek1, peeks, itemOf, on2I, iAdd, iSub, iGt, iGe, iLt, iLe, iDiv, iMod, use1, useL, gI, gN, tst, andT, orT, notT, andE, orE, notE, ifE, ixN, D.frz, D.plain, plainL, argsBack, opLen, opAbs, opInt1, opNeg, disp, cap, callF, takes, puts, selA, sel, aApp, par, gT, gsC, gs0, appF, opDivmod, frzL, plainL, m1, s1, d1]
    refine k1 _ ?_
    clear k1 k2 k3 k4 K
    refine wp_seq fun K k1 k2 k3 k4 => ?_
    simp [Wp, mkF, reFrz, seq, Pm.ite, rtn, mov, asg, drp, sNx, bnd, Pm.bin, Pm.un, app, aCons, aNil, idx, loc, con, Pm.ret, peek1, peeks, itemOf, on2I, iAdd, iSub, iGt, iGe, iLt, iLe, iDiv, iMod, use1, useL, gI, gN, tst, andT, orT, notT, andE, orE, notE, ifE, ixN, D.frz, D.plain, plainL, argsBack, opLen, opAbs, opInt1, opNeg, disp, cap, callF, takes, puts, selA, sel, aApp, par, gT, gsC, gs0, appF, opDivmod, frzL, plainL, g1, pp]
    refine k1 _ ?_
    clear k1 k2 k3 k4 K
    simp [Wp, appd, mkF, reFrz, seq, Pm.ite, rtn, mov, asg, drp, sNx, bnd, Pm.bin, Pm.un, app, aCons, aNil, idx, loc, con, Pm.ret, peek1, peeks, itemOf, on2I, iAdd, iSub, iGt, iGe, iLt, iLe, iDiv, iMod, use1, useL, gI, gN, tst, andT, orT, notT, andE, orE, notE, ifE, ixN, D.frz, D.plain, plainL, argsBack, opLen, opAbs, opInt1, opNeg, disp, cap, callF, takes, puts, selA, sel, aApp, par, gT, gsC, gs0, appF, opDivmod, frzL, plainL, o1]
theorem left_ok (ht : Rws t) (hl : l.length ≤ 1000) (hin : ∀ c ∈ l, c ∈ lets t) {k : Nat} (hk : k < l.length * n) :
    ∃ r : Option Nat, x_Repeated__nearest_left [repD o t l n, .int (k : Int)] = .ret (rtD r) [repD o t l n, .int (k : Int)] ∧ NearL (strK t l) k r := by
  have h0 : 0 < l.length := Nat.pos_of_ne_zero fun e => by rw [e] at hk; omega
  have hw : Wf x_Repeated__nearest_left [repD o t l n, .int (k : Int)] fun d as => ∃ r : Option Nat, d = rtD r ∧ as = [repD o t l n, .int (k : Int)] ∧ NearL (strK t l) k r := by
    have f1 := fun ρ => f_pls (o := o) (t := t) (l := l) (n := n) (i := 0) (ρ := some (repD o t l n) :: ρ) rfl
    have f2 := fun ρ => c_rep (o := o) (t := t) (l := l) (n := n) (i := 0) (ρ := some (repD o t l n) :: ρ) r_strength_of rfl
    have l1 : opLen [.node false .lst (placesD false t l)] = some (.int (l.length : Int)) := by
      show some (D.int ((placesD false t l).length : Int)) = _
      rw [places_len]
    have pl := repD_plain o t l n
    have e1 := strength_ok (o := o) ht hl hin hk
    have pp := places_plain t l
    have pz := frzL_of_plain _ pp
    unfold x_Repeated__nearest_left
    refine wf_mkF ?_
    unfold b_Repeated__nearest_left
    show Wp _ [some (repD o t l n), some (.int (k : Int)), none, none, none, none, none, none, none] _
    refine wp_seq fun K k1 k2 k3 k4 => ?_
    have s1 : par 2 3 (aCons (callF x_Repeated__strength_of (aCons (chk "Repeated" "strength_of" (loc 0)) (aCons (loc 1) aNil))) (aCons (app opLen (aCons (fldE "Repeated" "places" (loc 0)) aNil)) aNil)) [some (repD o t l n), some (.int (k : Int)), none, none, none, none, none, none, none]
        = .ok .nx [some (repD o t l n), some (.int (k : Int)), some (.int (strK t l k)), some (.int (l.length : Int)), none, none, none, none, none] := by
      generalize repD o t l n = R at *
      generalize strK t l k = sk at *
      generalize placesD false t l = PL at *
      generalize fldE "Repeated" "places" (loc 0) = F1 at *
      generalize chk "Repeated" "strength_of" (loc 0) = F2 at *
      generalize x_Repeated__strength_of = XS at *
      generalize opLen = OL at *
      generalize (l.length : Int) = ww at *
      generalize (k : Int) = kk at *
      cases o <;> simp [useL, mkF, reFrz, seq, Pm.ite, rtn, mov, asg, drp, sNx, bnd, Pm.bin, Pm.un, app, aCons, aNil, idx, loc, con, Pm.ret, peek1, peeks, itemOf, on2I, iAdd, iSub, iGt, iGe, iLt, iLe, iDiv, iMod, use1, useL, gI, gN, tst, andT, orT, notT, andE, orE, notE, ifE, ixN, D.frz, D.plain, plainL, argsBack, opLen, opAbs, opInt1, opNeg, disp, cap, callF, takes, puts, selA, sel, aApp, par, gT, gsC, gs0, appF, opDivmod, frzL, plainL, f1, f2, e1, l1, pl]
    refine Wp.of s1 (k1 _ ?_)
    clear k1 k2 k3 k4 K s1
    refine wp_seq fun K k1 k2 k3 k4 => ?_
    refine Wp.of (a := .nx) (ρ' := [some (repD o t l n), some (.int (k : Int)), some (.int (strK t l k)), some (.int (l.length : Int)), some (.node true .lst []), none, none, none, none]) rfl (k1 _ ?_)
    clear k1 k2 k3 k4 K
    refine wp_seq fun K k1 k2 k3 k4 => ?_
    have hsrc : srcEnum (fldE "Repeated" "places" (loc 0)) [some (repD o t l n), some (.int (k : Int)), some (.int (strK t l k)), some (.int (l.length : Int)), some (.node true .lst []), none, none, none, none] = .ok (enumD 0 (placesD false t l)) [some (repD o t l n), some (.int (k : Int)), some (.int (strK t l k)), some (.int (l.length : Int)), some (.node true .lst []), none, none, none, none] := by
      generalize repD o t l n = R at *
      generalize placesD false t l = PL at *
      generalize fldE "Repeated" "places" (loc 0) = F1 at *
      simp [srcEnum, srcSeq, mkF, reFrz, seq, Pm.ite, rtn, mov, asg, drp, sNx, bnd, Pm.bin, Pm.un, app, aCons, aNil, idx, loc, con, Pm.ret, peek1, peeks, itemOf, on2I, iAdd, iSub, iGt, iGe, iLt, iLe, iDiv, iMod, use1, useL, gI, gN, tst, andT, orT, notT, andE, orE, notE, ifE, ixN, D.frz, D.plain, plainL, argsBack, opLen, opAbs, opInt1, opNeg, disp, cap, callF, takes, puts, selA, sel, aApp, par, gT, gsC, gs0, appF, opDivmod, frzL, plainL, f1, pz]
    refine wp_for hsrc (fun j ρ => ∃ x5 x6 x7 x8 : Option D, ρ = [some (repD o t l n), some (.int (k : Int)), some (.int (strK t l k)), some (.int (l.length : Int)), some (.node true .lst (nD (foundP (fL (strF t l) (losF t l) l.length k (strK t l k)) j))), x5, x6, x7, x8]) ⟨none, none, none, none, rfl⟩ ?_ ?_
    · rintro j d ρ hd ⟨x5, x6, x7, x8, rfl⟩
      obtain ⟨dp, hp, rfl⟩ := enumD_get _ _ _ _ hd
      have hj : j < l.length := by
        have := (List.getElem?_eq_some_iff.mp hp).1
        rw [places_len] at this
        exact this
      rw [places_get hj] at hp
      cases hp
      have e0 : ((0 + j : Nat) : Int) = (j : Int) := by omega
      rw [e0]
      refine ⟨[some (repD o t l n), some (.int (k : Int)), some (.int (strK t l k)), some (.int (l.length : Int)), some (.node true .lst (nD (foundP (fL (strF t l) (losF t l) l.length k (strK t l k)) j))), some (.int (j : Int)), some (plcD t l j), x7, x8], rfl, ?_⟩
      refine (left_turn ht hl hin (o := o) (n := n) (k := k) (bound := strK t l k) hj (x7 := x7) (x8 := x8) (by have := foundP_len (fL_len (strF t l) (losF t l) l.length k (strK t l k)) j; omega)).mono ?_
      rintro f ρ ⟨rfl, x7', x8', rfl⟩
      exact ⟨some (.int (j : Int)), some (plcD t l j), x7', x8', rfl⟩
    · rintro ρ ⟨x5, x6, x7, x8, rfl⟩
      rw [enumD_length, places_len]
      refine k1 _ ?_
      clear k1 k2 k3 k4 K hsrc
      have hmem := fun x => foundP_mem (f := fL (strF t l) (losF t l) l.length k (strK t l k)) (x := x) (w := l.length)
      have fin : ∀ r : Option Nat, opMinD true [.node true .lst (nD (foundP (fL (strF t l) (losF t l) l.length k (strK t l k)) l.length))] = some (rtD r) → NearL (strK t l) k r →
          Wp (rtn (app (opMinD true) (aCons (loc 4) aNil))) [some (repD o t l n), some (.int (k : Int)), some (.int (strK t l k)), some (.int (l.length : Int)), some (.node true .lst (nD (foundP (fL (strF t l) (losF t l) l.length k (strK t l k)) l.length))), x5, x6, x7, x8] (Fin [] [repD o t l n, .int (k : Int)] fun d as => ∃ r : Option Nat, d = rtD r ∧ as = [repD o t l n, .int (k : Int)] ∧ NearL (strK t l) k r) := fun r e h => by
        refine Wp.of (a := Fl.rt (rtD r)) (ρ' := [some (repD o t l n), some (.int (k : Int)), some (.int (strK t l k)), some (.int (l.length : Int)), some (.node true .lst (nD (foundP (fL (strF t l) (losF t l) l.length k (strK t l k)) l.length))), x5, x6, x7, x8]) ?_ ?_
        · generalize nD _ = NN at *
          generalize repD o t l n = R at *
          generalize opMinD true = OM at *
          generalize rtD r = rr at *
          simp [mkF, reFrz, seq, Pm.ite, rtn, mov, asg, drp, sNx, bnd, Pm.bin, Pm.un, app, aCons, aNil, idx, loc, con, Pm.ret, peek1, peeks, itemOf, on2I, iAdd, iSub, iGt, iGe, iLt, iLe, iDiv, iMod, use1, useL, gI, gN, tst, andT, orT, notT, andE, orE, notE, ifE, ixN, D.frz, D.plain, plainL, argsBack, opLen, opAbs, opInt1, opNeg, disp, cap, callF, takes, puts, selA, sel, aApp, par, gT, gsC, gs0, appF, opDivmod, frzL, plainL, e]
        · refine ⟨[repD o t l n, .int (k : Int)], ?_, r, rfl, rfl, h⟩
          cases o <;> simp [argsBack, reFrz, pl, D.plain]
      rcases minD_nat true true (foundP (fL (strF t l) (losF t l) l.length k (strK t l k)) l.length) with ⟨he, e⟩ | ⟨m, e, hm, hle⟩
      · refine fin none e ?_
        rw [strK_sF] at *
        refine nearL_no h0 fun i hi => ?_
        cases hx : fL (strF t l) (losF t l) l.length k (sF (strF t l) (losF t l) l.length k) i with
        | nil => rfl
        | cons x xs =>
          have := (hmem x).mpr ⟨i, hi, by rw [hx]; exact List.mem_cons_self⟩
          rw [he] at this
          cases this
      · refine fin (some m) e ?_
        rw [strK_sF] at *
        exact nearL_of h0 hmem hm hle
  obtain ⟨d, as, e, r, rfl, rfl, h⟩ := hw
  exact ⟨r, e, h⟩
end
end Rp
namespace Rp
open PySem PySem.Spec PyProof.Rows L2 Pm
open Pg (sg rowD tabD tabD_plain tabD_frz dr divS x_is_integer x_is_between between_i between_ok btwB Fi ix_nat rtD)
open Sc (Rws RowT)
noncomputable def b_Repeated__weaker : M Fl := (seq (drp (callF x_Repeated__need (aCons (chk "Repeated" "need" (loc 0)) (aCons (loc 1) aNil))))
    (rtn (ifE (tst (loc 2)) (callF x_Repeated__nearest_right (aCons (chk "Repeated" "nearest_right" (loc 0)) (aCons (loc 1) aNil))) (callF x_Repeated__nearest_left (aCons (chk "Repeated" "nearest_left" (loc 0)) (aCons (loc 1) aNil))))))
noncomputable def x_Repeated__weaker : FSem := mkF 3 3 [] b_Repeated__weaker
theorem r_nl : ("nearest_left" : Str) ∉ (["pattern", "places", "origin", "repetitions"] : List Str) := by decide +kernel
theorem r_nr : ("nearest_right" : Str) ∉ (["pattern", "places", "origin", "repetitions"] : List Str) := by decide +kernel
section
variable {o : Bool} {t : List RowT} {l : List Nat} {n : Nat}
theorem weaker_l (ht : Rws t) (hl : l.length ≤ 1000) (hin : ∀ c ∈ l, c ∈ lets t) {k : Nat} (hk : k < l.length * n) :
    ∃ r : Option Nat, x_Repeated__weaker [repD o t l n, .int (k : Int), .bl false] = .ret (rtD r) [repD o t l n, .int (k : Int), .bl false] ∧ NearL (strK t l) k r := by
  obtain ⟨r, e, h⟩ := left_ok (o := o) (n := n) ht hl hin hk
  refine ⟨r, ?_, h⟩
  have e1 := need_k (o := o) (t := t) hl hk
  have f1 := fun ρ => c_rep (o := o) (t := t) (l := l) (n := n) (i := 0) (ρ := some (repD o t l n) :: ρ) r_need rfl
  have f2 := fun ρ => c_rep (o := o) (t := t) (l := l) (n := n) (i := 0) (ρ := some (repD o t l n) :: ρ) r_nl rfl
  have pl := repD_plain o t l n
  have rp := rtD_plain r
  generalize repD o t l n = R at *
  generalize rtD r = rr at *
  generalize (k : Int) = kk at *
  unfold x_Repeated__weaker b_Repeated__weaker
  generalize chk "Repeated" "need" (loc 0) = F1 at *
  generalize chk "Repeated" "nearest_left" (loc 0) = F2 at *
  generalize x_Repeated__need = X1 at *
  generalize x_Repeated__nearest_left = X2 at *
  cases o <;> simp [mkF, reFrz, seq, Pm.ite, rtn, mov, asg, drp, sNx, bnd, Pm.bin, Pm.un, app, aCons, aNil, idx, loc, con, Pm.ret, peek1, peeks, itemOf, on2I, iAdd, iSub, iGt, iGe, iLt, iLe, iDiv, iMod, use1, useL, gI, gN, tst, andT, orT, notT, andE, orE, notE, ifE, ixN, D.frz, D.plain, plainL, argsBack, opLen, opAbs, opInt1, opNeg, disp, cap, callF, takes, puts, selA, sel, aApp, par, gT, gsC, gs0, appF, opDivmod, frzL, plainL, f1, f2, e, e1, pl, rp]
theorem weaker_r (ht : Rws t) (hl : l.length ≤ 1000) (hin : ∀ c ∈ l, c ∈ lets t) (hn : n ≤ 10 ^ 30) {k : Nat} (hk : k < l.length * n) :
    ∃ r : Option Nat, x_Repeated__weaker [repD o t l n, .int (k : Int), .bl true] = .ret (rtD r) [repD o t l n, .int (k : Int), .bl true] ∧ NearR (strK t l) (l.length * n) k r := by
  obtain ⟨r, e, h⟩ := right_ok (o := o) (n := n) ht hl hin hn hk
  refine ⟨r, ?_, h⟩
  have e1 := need_k (o := o) (t := t) hl hk
  have f1 := fun ρ => c_rep (o := o) (t := t) (l := l) (n := n) (i := 0) (ρ := some (repD o t l n) :: ρ) r_need rfl
  have f2 := fun ρ => c_rep (o := o) (t := t) (l := l) (n := n) (i := 0) (ρ := some (repD o t l n) :: ρ) r_nr rfl
  have pl := repD_plain o t l n
  have rp := rtD_plain r
  generalize repD o t l n = R at *
  generalize rtD r = rr at *
  generalize (k : Int) = kk at *
  unfold x_Repeated__weaker b_Repeated__weaker
  generalize chk "Repeated" "need" (loc 0) = F1 at *
  generalize chk "Repeated" "nearest_right" (loc 0) = F2 at *
  generalize x_Repeated__need = X1 at *
  generalize x_Repeated__nearest_right = X2 at *
  cases o <;> simp [mkF, reFrz, seq, Pm.ite, rtn, mov, asg, drp, sNx, bnd, Pm.bin, Pm.un, app, aCons, aNil, idx, loc, con, Pm.ret, peek1, peeks, itemOf, on2I, iAdd, iSub, iGt, iGe, iLt, iLe, iDiv, iMod, use1, useL, gI, gN, tst, andT, orT, notT, andE, orE, notE, ifE, ixN, D.frz, D.plain, plainL, argsBack, opLen, opAbs, opInt1, opNeg, disp, cap, callF, takes, puts, selA, sel, aApp, par, gT, gsC, gs0, appF, opDivmod, frzL, plainL, f1, f2, e, e1, pl, rp]
/-- of what stands on both sides the stronger one -/
def StrO (s : Nat → Int) (a b r : Option Nat) : Prop := (a = none ∧ b = none ∧ r = none) ∨ ∃ m, r = some m ∧ (a = some m ∨ b = some m) ∧ ∀ x, (a = some x ∨ b = some x) → x = m ∨ Wkr s x m
/-- the parent -/
def ParS (s : Nat → Int) (N k : Nat) (r : Option Nat) : Prop := ∃ a b, NearL s k a ∧ NearR s N k b ∧ StrO s a b r
theorem StrO.uniq {s : Nat → Int} {a b r q : Option Nat} (h : StrO s a b r) (h2 : StrO s a b q) : r = q := by
  rcases h with ⟨ha, hb, hr⟩ | ⟨m, hr, hm, hx⟩
  · rcases h2 with ⟨_, _, hq⟩ | ⟨m', _, hm', _⟩
    · rw [hr, hq]
    · rw [ha, hb] at hm'
      rcases hm' with h | h <;> cases h
  · rcases h2 with ⟨ha, hb, _⟩ | ⟨m', hq, hm', hx'⟩
    · rw [ha, hb] at hm
      rcases hm with h | h <;> cases h
    · rw [hr, hq]
      rcases hx m' hm' with e | e
      · rw [e]
      · rcases hx' m hm with e' | e'
        · rw [e']
        · exact absurd e' (wkr_not e)
theorem ParS.uniq {s : Nat → Int} {N k : Nat} {r q : Option Nat} (h : ParS s N k r) (h2 : ParS s N k q) : r = q := by
  obtain ⟨a, b, h1, h3, h4⟩ := h
  obtain ⟨a', b', h5, h6, h7⟩ := h2
  obtain rfl := h1.uniq h5
  obtain rfl := h3.uniq h6
  exact h4.uniq h7
end
end Rp
namespace Rp
section
variable {s : Nat → Int} {h : Nat} {δ : Int}
theorem wkr_shift (hs : ∀ k, s (k + h) = s k - δ) (i j : Nat) : Wkr s (i + h) (j + h) ↔ Wkr s i j := by
  have a := hs i
  have b := hs j
  unfold Wkr
  omega
theorem left_shift (hs : ∀ k, s (k + h) = s k - δ) {k a : Nat} (hn : NearL s k (some a)) : NearL s (k + h) (some (a + h)) := by
  refine ⟨by have := hn.1; omega, (wkr_shift hs a k).mpr hn.2.1, fun i h1 h2 hw => ?_⟩
  have e : i = (i - h) + h := by omega
  rw [e] at hw
  exact hn.2.2 (i - h) (by omega) (by omega) ((wkr_shift hs _ k).mp hw)
theorem right_back (hs : ∀ k, s (k + h) = s k - δ) {N k b : Nat} (hn : NearR s N (k + h) (some b)) : ∃ c, b = c + h ∧ NearR s N k (some c) := by
  obtain ⟨h1, h2, h3, h4⟩ := hn
  have e : b = (b - h) + h := by omega
  refine ⟨b - h, e, by omega, by omega, ?_, fun i k1 k2 hw => h4 (i + h) (by omega) (by omega) ((wkr_shift hs i k).mpr hw)⟩
  rw [e] at h3
  exact (wkr_shift hs _ k).mp h3
theorem right_shift (hs : ∀ k, s (k + h) = s k - δ) {N k b : Nat} (hn : NearR s N k (some b)) (hb : b + h < N) : NearR s N (k + h) (some (b + h)) := by
  obtain ⟨h1, h2, h3, h4⟩ := hn
  refine ⟨by omega, hb, (wkr_shift hs b k).mpr h3, fun i k1 k2 hw => ?_⟩
  have e : i = (i - h) + h := by omega
  rw [e] at hw
  exact h4 (i - h) (by omega) (by omega) ((wkr_shift hs _ k).mp hw)
end
theorem strK_shift {t : List Sc.RowT} {l : List Nat} {L : Int} (h0 : 0 < l.length) (hL : ∀ i, i < l.length → losF t l i = L) (m k : Nat) : strK t l (k + m * l.length) = strK t l k - (m : Int) * L := by
  unfold strK
  rw [Nat.add_mul_mod_self_right, Nat.add_mul_div_right _ _ h0, hL _ (Nat.mod_lt _ h0), Int.natCast_add, Int.add_mul]
  omega
/-- a pool of letters, each as often as told -/
def poolL (es : List (Nat × Nat)) : List Nat := (es.map fun e => List.replicate e.2 e.1).flatten
theorem pool_mem {es : List (Nat × Nat)} {c : Nat} (h : c ∈ poolL es) : ∃ e ∈ es, e.1 = c := by
  unfold poolL at h
  obtain ⟨x, hx, hc⟩ := List.mem_flatten.mp h
  obtain ⟨e, he, rfl⟩ := List.mem_map.mp hx
  exact ⟨e, he, (List.eq_of_mem_replicate hc).symm⟩
theorem pool_count : ∀ {es : List (Nat × Nat)}, (es.map (·.1)).Nodup → ∀ e ∈ es, (poolL es).count e.1 = e.2
  | [], _, e, he => by simp at he
  | f :: es, hn, e, he => by
    have hn2 : f.1 ∉ es.map (·.1) ∧ (es.map (·.1)).Nodup := List.nodup_cons.mp hn
    show (List.replicate f.2 f.1 ++ poolL es).count e.1 = e.2
    rw [List.count_append, List.count_replicate]
    rcases List.mem_cons.mp he with rfl | he
    · have : (poolL es).count e.1 = 0 := List.count_eq_zero.mpr fun hc => by
        obtain ⟨g, hg, eg⟩ := pool_mem hc
        exact hn2.1 (eg ▸ List.mem_map_of_mem hg)
      rw [this]
      simp
    · have hne : ¬ f.1 = e.1 := fun q => hn2.1 (q ▸ List.mem_map_of_mem he)
      rw [pool_count hn2.2 e he]
      simp [hne]
theorem pool_len : ∀ es : List (Nat × Nat), (poolL es).length = (es.map (·.2)).sum
  | [] => rfl
  | e :: es => by
    show (List.replicate e.2 e.1 ++ poolL es).length = _
    rw [List.length_append, List.length_replicate, pool_len es]
    rfl
theorem los_even {t : List Sc.RowT} {es : List (Nat × Nat)} {l : List Nat} {L : Int} (hn : (es.map (·.1)).Nodup) (hl : l.Perm (poolL es)) (ht : t.map (·.1) = es.map (·.1)) (hr : ∀ r ∈ t, ∃ e ∈ es, e.1 = r.1 ∧ (e.2 : Int) * r.2.2 = L) :
    ∀ i, i < l.length → losF t l i = L := fun i hi => by
  have hc : l.getD i 0 ∈ l := by
    rw [List.getD_eq_getElem?_getD, List.getElem?_eq_getElem hi]
    exact List.getElem_mem _
  unfold losF
  generalize l.getD i 0 = c at *
  obtain ⟨e, he, rfl⟩ := pool_mem (hl.mem_iff.mp hc)
  have hm : e.1 ∈ lets t := by
    unfold lets
    rw [ht]
    exact List.mem_map_of_mem he
  obtain ⟨f, hf, ef, hL⟩ := hr _ (row_mem hm)
  have e1 : (rowOf t e.1).1 = e.1 := by
    unfold rowOf
    obtain ⟨r, hr2, er⟩ := List.mem_map.mp hm
    cases q : t.find? (fun r => r.1 == e.1) with
    | none =>
      have := List.find?_eq_none.mp q r hr2
      simp [er] at this
    | some x =>
      have := List.find?_some q
      simpa using this
  have c1 := pool_count hn f hf
  rw [ef, e1] at c1
  rw [hl.count_eq, c1]
  exact hL
end Rp
set_option maxHeartbeats 2000000
namespace Pm
open PySem PySem.Spec PyProof.Rows L2
/-- a default stands behind what is written -/
def aDef (d : D) (fs : M (List EV)) : M (List EV) := bnd fs fun es => ret (es ++ [.val d])
section
variable {K : PySem.W.Frag} {mg : Str → Option Value} {W : WX} {Z H : Hp} {S : Fp} {σ : Sl} {X : Cx}
theorem tA_def {d : D} {v : V} {fs : M (List EV)} {Q : List V → Hp → Prop} (hv : ∀ Z H : Hp, Rep K Z H d v Fp0) (h : tA K mg W (aDef d fs) σ H Q) : tA K mg W fs σ H fun vs H1 => Q (vs ++ [v]) H1 := by
  obtain ⟨Z, ρ, S, w, er, o⟩ := h
  refine ⟨Z, ρ, S, w, er, ?_⟩
  simp only [aDef, bnd] at o
  cases e1 : fs ρ with
  | stuck => rw [e1] at o; exact o
  | exc x ρ1 => rw [e1] at o; exact o
  | ok es ρ1 =>
    simp only [e1, ret] at o
    intro vs Z1 H1 S1 Sa st1 dj1 er1 r1
    exact o (vs ++ [v]) Z1 H1 S1 Sa st1 dj1 er1 (EVsR.app r1 (show EVsR K Z1 H1 σ [EV.val d] [v] Fp0 from ⟨Fp0, Fp0, fun _ x => x, fun _ x => x, fun _ x _ => x, hv Z1 H1, trivial⟩) (fun _ x => x) (fun _ x => x.elim) fun _ _ x => x)
/-- such a method: n written values (self among them), the keywords ks, their defaults -/
structure MDefK (P : Program) (w : World) (K : PySem.W.Frag) (mg : Str → Option Value) (base : Heap) (k : Nat) (C : Addr) (m : Str) (f : Addr) (fd : FuncData) (ps : List Str) (g : FSem) (n : Nat) (ks : List Str) (pm : List Nat) (dvs : List V) : Prop where
  ok : FnG P w K mg base k f fd ps g
  me : Meth K C m f
  kb : KwB K fd ps ks n pm
  df : ∃ ds, Vals dvs ds ∧ Binds K fd ps ds
theorem E_methD {k j nn : Nat} {n m : Str} {C f : Addr} {fd : FuncData} {ps ks : List Str} {pm : List Nat} {d : D} {v : V} {g : FSem} {o e : Expr} {es : List Expr} {fo : M EV} {fs : M (List EV)} {apos pos : Pos} {pl : Sem Bool} (hC : reg X.K n = some C) (c : Cls X.K C) (F : MDefK X.prog X.w X.K X.mg X.base k C m f fd ps g nn ks pm [v]) (ft : Fit X W j) (ho : PE X o (tE X.K X.mg W fo)) (ha : PA X (e :: es) (tA X.K X.mg W fs)) (hv : ∀ Z H : Hp, Rep X.K Z H d v Fp0 := by intro _ _; rfl) (hk : k ≤ j := by first | decide | omega)
    (hst : starEach (e :: es) X.env = (false, eval e X.env) :: starEach es X.env := by rfl) (hpl : (backTo pos (starEach es X.env)).any (·.1) = false := by rfl)
    (ht : eval (.Call (.Attribute o m apos) (e :: es) [] pos) X.env = (do
      let ov ← eval o X.env
      standAt apos.atName
      let (f, first) ← holding [ov] (getMethod ov m pl)
      callWith pos f first (backTo pos (starEach (e :: es) X.env)) (backToKw pos (keywordEach [] X.env))) := by rfl) :
    PE X (.Call (.Attribute o m apos) (e :: es) [] pos) (tE X.K X.mg W (callF g (aDef d (aCons (chk n m fo) fs)))) := by
  refine ⟨fun pins s σ H Q I h => ?_⟩
  have q0 := tE_chk (tA_cons (tA_def hv (tE_call h)))
  refine PySem.W.methodCall_KW (pl := pl) (thn (ho.run pins s σ H _ I q0) fun u s1 ⟨x, H1, I1, rx, ⟨a, C', dx, kvs, ex, hr, ea, l⟩, q⟩ => ?_) ht
  subst ex
  rw [hC] at hr
  cases hr
  obtain rfl : u = Value.ref a := rx
  refine getmeth_ok I1 ea c F.me l ?_
  obtain ⟨ds, rd, hb⟩ := F.df
  refine PySem.W.callWith_K (first := [.ref a]) (h₀ := X.base) I.ok.mod.kin F.me.kp (thn (ha.run pos pins s1 σ H1 _ I1 q) fun us s2 ⟨vs, H2, I2, r, q2⟩ => ⟨I2.kIn, ?_⟩) hst hpl
  refine wpAny_call (codeAny_mono (run_G (us := .ref a :: us) (ws := .ref a :: us ++ ds) (vs := (V.ref a :: vs) ++ [v]) (kws := []) F.ok ft.gd (ft.room.mono hk) ft.tk (fun hl => hb s2 (.ref a :: us) I2.kIn hl) I2 (vals_app (.cons rfl r) rd) q2) fun r s' hq => ?_)
  cases r with
  | error e => exact hq
  | ok fl =>
    cases fl with
    | ret u => exact hq
    | next => exact hq.elim
    | brk => exact hq.elim
    | cont => exact hq.elim
theorem E_methK {k j nn nk : Nat} {n m : Str} {C f : Addr} {fd : FuncData} {ps ks : List Str} {pm : List Nat} {dvs : List V} {g : FSem} {o e : Expr} {es : List Expr} {kws : List Keyword} {fo : M EV} {fs fk : M (List EV)} {apos pos : Pos} {pl : Sem Bool} (hC : reg X.K n = some C) (c : Cls X.K C) (F : MDefK X.prog X.w X.K X.mg X.base k C m f fd ps g nn ks pm dvs) (ft : Fit X W j) (ho : PE X o (tE X.K X.mg W fo)) (ha : PA X (e :: es) (tA X.K X.mg W fs)) (hkw : PK X kws (tA X.K X.mg W fk)) (hk : k ≤ j := by first | decide | omega)
    (hst : starEach (e :: es) X.env = (false, eval e X.env) :: starEach es X.env := by rfl) (hall : (backToKw pos (keywordEach kws X.env)).all (·.1.isSome) = true := by rfl) (hks : (backToKw pos (keywordEach kws X.env)).filterMap (·.1) = ks := by rfl)
    (hpl : ((backTo pos (starEach (e :: es) X.env)).any (·.1) || (backToKw pos (keywordEach kws X.env)).any (·.1.isNone)) = false := by rfl) (hn : ks.length = nk := by rfl)
    (ht : eval (.Call (.Attribute o m apos) (e :: es) kws pos) X.env = (do
      let ov ← eval o X.env
      standAt apos.atName
      let (f, first) ← holding [ov] (getMethod ov m pl)
      callWith pos f first (backTo pos (starEach (e :: es) X.env)) (backToKw pos (keywordEach kws X.env))) := by rfl) :
    PE X (.Call (.Attribute o m apos) (e :: es) kws pos) (tE X.K X.mg W (callF g (selA (nn + nk) pm (aCons (chk n m fo) (aApp (nn - 1) nk fs fk))))) := by
  refine ⟨fun pins s σ H Q I h => ?_⟩
  have q0 := tE_chk (tA_cons (tA_sel (tE_call h)))
  refine PySem.W.methodCall_KW (pl := pl) (thn (ho.run pins s σ H _ I q0) fun u s1 ⟨x, H1, I1, rx, ⟨a, C', dx, kvs, ex, hr, ea, l⟩, q⟩ => ?_) ht
  subst ex
  rw [hC] at hr
  cases hr
  obtain rfl : u = Value.ref a := rx
  refine getmeth_ok I1 ea c F.me l ?_
  refine PySem.W.callWith_KW (first := [.ref a]) (h₀ := X.base) I.ok.mod.kin F.me.kp hall (thn (ha.run pos pins s1 σ H1 _ I1 (tA_app q)) fun us s2 ⟨vs, H2, I2, r, q2⟩ => ?_) hpl hst
  refine thn (hkw.run pos pins s2 σ H2 _ I2 q2) fun ws s3 ⟨zs, H3, I3, r2, l1, l2, l3, q3⟩ => ⟨I3.kIn, ?_⟩
  rw [hks]
  have hlen : us.length + 1 = nn := by
    have := r.length
    have l3' : (vs ++ zs).length + 1 = nn + nk := l3
    rw [List.length_append] at l3'
    omega
  refine wpAny_call (codeAny_mono (run_G (us := .ref a :: us) (ws := sel pm (.ref a :: us ++ ws)) (vs := sel pm (V.ref a :: (vs ++ zs))) (kws := ks.zip ws) F.ok ft.gd (ft.room.mono hk) ft.tk (fun hl => F.kb s3 (.ref a :: us) ws I3.kIn hlen (by rw [← r2.length, l2, hn])) I3 (vals_sel (vals_app (show Vals (V.ref a :: vs) (Value.ref a :: us) from .cons rfl r) r2)) q3) fun r s' hq => ?_)
  cases r with
  | error e => exact hq
  | ok fl =>
    cases fl with
    | ret u => exact hq
    | next => exact hq.elim
    | brk => exact hq.elim
    | cont => exact hq.elim
/-- a def with keyword-only parameters, its defaults among the facts -/
theorem fund_mk {x qual : Str} {st : Stmt} {f D : Addr} {oc : Value} {od an : Option Addr} {osl : Array (Option Value)} {doc pm cdv ct : Value} {kws : List (Str × V)} (l : K.lookup f = some ⟨oc, od, .func (PySem.W.fnOf x qual (defArgs st) (defBody st) (defScope st) .none (.ref D) doc pm an cdv ct), osl⟩)
    (c : PySem.W.codeIn K cdv qual = true) (k : PySem.W.keepIn K (.ref f) = true) (hq : ∀ q ∈ kws, ∃ u, PySem.W.nsIn K D q.1 = some (some u) ∧ RelV q.2 u) : FunD K x qual (defArgs st) (defBody st) (defScope st) [] kws f (PySem.W.fnOf x qual (defArgs st) (defBody st) (defScope st) .none (.ref D) doc pm an cdv ct) :=
  ⟨⟨oc, od, .none, .ref D, doc, pm, an, cdv, ct, osl, rfl, l, c, .inl ⟨rfl, rfl⟩, .inr ⟨D, rfl, hq⟩⟩, k⟩
end
end Pm
set_option maxHeartbeats 0
namespace Pk54
open PySem PySem.Spec PyProof.Rows L2 Pm
def topS (i : Nat) : Stmt := PySem.Challenge.pw_wearbinds_k54_whole_blocks_that_lose_ali.main.body.getD i (.Pass ⟨0, 0, 0, 0⟩)
abbrev i_InvalidTimes : Stmt := (clsB (topS 3)).getD 0 (.Pass ⟨0, 0, 0, 0⟩)
theorem isc_InvalidTimes : FnScope ["self", "value"] ["self", "value"] (defScope i_InvalidTimes) := ⟨rfl, rfl, rfl, by decide +kernel, rfl, by decide +kernel, by decide +kernel⟩
abbrev i_NoOperator : Stmt := (clsB (topS 5)).getD 0 (.Pass ⟨0, 0, 0, 0⟩)
theorem isc_NoOperator : FnScope ["self", "index"] ["self", "index"] (defScope i_NoOperator) := ⟨rfl, rfl, rfl, by decide +kernel, rfl, by decide +kernel, by decide +kernel⟩
abbrev i_UnknownOperator : Stmt := (clsB (topS 4)).getD 0 (.Pass ⟨0, 0, 0, 0⟩)
theorem isc_UnknownOperator : FnScope ["self", "letter"] ["self", "letter"] (defScope i_UnknownOperator) := ⟨rfl, rfl, rfl, by decide +kernel, rfl, by decide +kernel, by decide +kernel⟩
abbrev s__law_pen : Stmt := topS 16
theorem sc__law_pen : FnScope ["_law_script"] ["_law_script"] (defScope s__law_pen) := ⟨rfl, rfl, rfl, by decide +kernel, rfl, by decide +kernel, by decide +kernel⟩
noncomputable def b__law_pen : M Fl := (rtn (disp true .lst (aCons (app opList (aCons (cut (loc 0) none (some (con (.int 63)))) aNil)) (aCons (con (.int 0)) (aCons (con (.int 0)) aNil)))))
noncomputable def S__law_pen : FSem := mkF 1 1 [] b__law_pen
abbrev s__law_draw : Stmt := topS 17
theorem sc__law_draw : FnScope ["_law_pen_here", "_law_count", "_law_digit", "_law_at", "_law_cell", "_law_large", "_law_mixed"] ["_law_pen_here", "_law_count"] (defScope s__law_draw) := ⟨rfl, rfl, rfl, by decide +kernel, rfl, by decide +kernel, by decide +kernel⟩
noncomputable def b__law_draw : M Fl := (seq (ite (tst (bin (on2I iGt) (idx (aCons (loc 0) (aCons (con (.int 2)) aNil))) (con (.int 0)))) (seq (asg (bin (on2I iMod) (idx (aCons (loc 0) (aCons (con (.int 2)) aNil))) (loc 1)) (gN 2))
    (seq (asg (bin (on2I iDiv) (idx (aCons (loc 0) (aCons (con (.int 2)) aNil))) (loc 1)) (gI 0 (con (.int 2))))
    (rtn (mov 2)))) sNx)
    (seq (asg (idx (aCons (loc 0) (aCons (con (.int 1)) aNil))) (gN 3))
    (seq (asg (bin (on2I iAdd) (loc 3) (con (.int 1))) (gI 0 (con (.int 1))))
    (seq (asg (bin (on2I iAdd) (bin (on2I iMul) (con (.int 8699)) (loc 3)) (con (.int 577))) (gN 4))
    (seq (ite (tst (bin opNe (idx (aCons (loc 0) (aCons (con (.int 0)) aNil))) (disp true .lst aNil))) (asg (idx (aCons (idx (aCons (loc 0) (aCons (con (.int 0)) aNil))) (aCons (bin (on2I iMod) (loc 3) (app opLen (aCons (idx (aCons (loc 0) (aCons (con (.int 0)) aNil))) aNil))) aNil))) (gN 4)) sNx)
    (seq (ite (andT (tst (bin (on2I iLt) (loc 3) (app opLen (aCons (idx (aCons (loc 0) (aCons (con (.int 0)) aNil))) aNil)))) (tst (bin (on2I iGe) (app opAbs (aCons (loc 4) aNil)) (bin (on2I iPow) (con (.int 10)) (con (.int 18)))))) (seq (asg (bin (on2I iAdd) (bin (on2I iMul) (con (.int 2)) (bin (on2I iSub) (app opAbs (aCons (loc 4) aNil)) (bin (on2I iPow) (con (.int 10)) (con (.int 18))))) (app opInt1 (aCons (bin (on2I iLt) (loc 4) (con (.int 0))) aNil))) (gN 5))
    (seq (asg (bin (on2I iDiv) (loc 5) (loc 1)) (gI 0 (con (.int 2))))
    (rtn (bin (on2I iMod) (loc 5) (loc 1))))) sNx)
    (seq (asg (bin (on2I iMod) (bin (on2I iPow) (bin (on2I iAdd) (bin (on2I iAdd) (bin (on2I iMod) (loc 4) (con (.int 2147483587))) (bin (on2I iMul) (con (.int 47711)) (loc 3))) (con (.int 41))) (con (.int 5))) (con (.int 2147483647))) (gN 6))
    (seq (asg (bin (on2I iMod) (bin (on2I iPow) (bin (on2I iAdd) (bin (on2I iAdd) (bin (on2I iMul) (loc 6) (bin (on2I iAdd) (bin (on2I iMul) (con (.int 2)) (loc 3)) (con (.int 23)))) (bin (on2I iMul) (bin (on2I iMul) (con (.int 70001)) (loc 3)) (loc 3))) (con (.int 7))) (con (.int 3))) (con (.int 2147483563))) (gN 6))
    (rtn (bin (on2I iMod) (bin (on2I iDiv) (loc 6) (con (.int 32))) (loc 1)))))))))))
noncomputable def S__law_draw : FSem := mkF 2 7 [] b__law_draw
abbrev s__law_number : Stmt := topS 18
theorem sc__law_number : FnScope ["_law_pen_here", "_law_reach", "_law_bound"] ["_law_pen_here", "_law_reach"] (defScope s__law_number) := ⟨rfl, rfl, rfl, by decide +kernel, rfl, by decide +kernel, by decide +kernel⟩
noncomputable def b__law_number : M Fl := (seq (asg (idx (aCons (disp true .lst (aCons (con (.int 1)) (aCons (con (.int 3)) (aCons (loc 1) (aCons (bin (on2I iPow) (con (.int 10)) (con (.int 12))) aNil))))) (aCons (callF S__law_draw (aCons (loc 0) (aCons (con (.int 4)) aNil))) aNil))) (gN 2))
    (rtn (bin (on2I iSub) (callF S__law_draw (aCons (loc 0) (aCons (bin hAdd (bin hMulT (con (.int 2)) (loc 2)) (con (.int 1))) aNil))) (loc 2))))
noncomputable def S__law_number : FSem := mkF 2 3 [] b__law_number
abbrev s__law_even_block : Stmt := topS 29
theorem sc__law_even_block : FnScope ["_law_pen_here", "_law_loss", "_law_left", "_law_signs_here", "_law_counts", "_law_entries_here", "_law_sign", "_law_many", "_law_pool", "_law_row", "_law_k"] ["_law_pen_here"] (defScope s__law_even_block) := ⟨rfl, rfl, rfl, by decide +kernel, rfl, by decide +kernel, by decide +kernel⟩
noncomputable def b__law_even_block : M Fl := (seq (asg (bin hMulT (con (.int 12)) (bin (on2I iSub) (callF S__law_draw (aCons (loc 0) (aCons (con (.int 11)) aNil))) (con (.int 5)))) (gN 1))
    (seq (asg (app opListA (aCons (con (.str "abcdefgh")) aNil)) (gN 2))
    (seq (asg (app opSorted (aCons (comp [10] (srcR1 (aCons (bin hAdd (con (.int 1)) (callF S__law_draw (aCons (loc 0) (aCons (con (.int 4)) aNil)))) aNil)) (gN 10) yesT (popi 2 (callF S__law_draw (aCons (loc 0) (aCons (app opLen (aCons (loc 2) aNil)) aNil))))) aNil)) (gN 3))
    (seq (asg (comp [6] (srcA (loc 3)) (gN 6) yesT (idx (aCons (disp true .lst (aCons (con (.int 1)) (aCons (con (.int 2)) (aCons (con (.int 3)) (aCons (con (.int 4)) aNil))))) (aCons (callF S__law_draw (aCons (loc 0) (aCons (con (.int 4)) aNil))) aNil)))) (gN 4))
    (seq (asg (disp true .lst aNil) (gN 5))
    (seq (forS (srcZip .lst (loc 3) (loc 4)) (gT (gsC (gN 6) (gsC (gN 7) gs0)) 2) (drp (appd 5 (disp false .tup (aCons (loc 6) (aCons (callF S__law_number (aCons (loc 0) (aCons (con (.int 60)) aNil))) (aCons (bin (on2I iDiv) (loc 1) (loc 7)) aNil)))))))
    (seq (asg (app opListA (aCons (smet1 opJoin (con (.str "")) (comp [6, 7] (srcZip .lst (loc 3) (loc 4)) (gT (gsC (gN 6) (gsC (gN 7) gs0)) 2) yesT (bin hMulT (loc 6) (loc 7)))) aNil)) (gN 8))
    (seq (asg (smet1 opJoin (con (.str "")) (comp [10] (srcR1 (aCons (app opSum (aCons (loc 4) aNil)) aNil)) (gN 10) yesT (popi 8 (callF S__law_draw (aCons (loc 0) (aCons (app opLen (aCons (loc 8) aNil)) aNil)))))) (gN 9))
    (rtn (disp false .tup (aCons (app opTuple (aCons (loc 5) aNil)) (aCons (loc 9) (aCons (loc 1) aNil)))))))))))))
noncomputable def S__law_even_block : FSem := mkF 1 11 [] b__law_even_block
abbrev s__law_great_number : Stmt := topS 24
theorem sc__law_great_number : FnScope ["_law_pen_here", "_law_some_here"] ["_law_pen_here"] (defScope s__law_great_number) := ⟨rfl, rfl, rfl, by decide +kernel, rfl, by decide +kernel, by decide +kernel⟩
noncomputable def b__law_great_number : M Fl := (seq (asg (disp true .lst (aCons (con (.int 1)) (aCons (con (.int 2)) (aCons (bin hAdd (con (.int 1)) (callF S__law_draw (aCons (loc 0) (aCons (con (.int 50)) aNil)))) (aCons (bin hAdd (bin (on2I iPow) (con (.int 10)) (con (.int 9))) (callF S__law_draw (aCons (loc 0) (aCons (bin (on2I iPow) (con (.int 10)) (con (.int 9))) aNil)))) aNil))))) (gN 1))
    (rtn (idx (aCons (bin hAdd (loc 1) (disp true .lst (aCons (bin (on2I iSub) (bin (on2I iPow) (con (.int 10)) (con (.int 30))) (callF S__law_draw (aCons (loc 0) (aCons (bin (on2I iPow) (con (.int 10)) (con (.int 6))) aNil)))) (aCons (bin (on2I iPow) (con (.int 10)) (con (.int 30))) aNil)))) (aCons (callF S__law_draw (aCons (loc 0) (aCons (con (.int 6)) aNil))) aNil)))))
noncomputable def S__law_great_number : FSem := mkF 1 2 [] b__law_great_number
abbrev s_Place____init__ : Stmt := (clsB (topS 10)).getD 0 (.Pass ⟨0, 0, 0, 0⟩)
theorem sc_Place____init__ : FnScope ["self", "mark", "first_use", "uses", "strength", "step"] ["self", "mark", "first_use", "uses", "strength", "step"] (defScope s_Place____init__) := ⟨rfl, rfl, rfl, by decide +kernel, rfl, by decide +kernel, by decide +kernel⟩
noncomputable def b_Place____init__ : M Fl := (seq (setA 0 "Place" "mark" (loc 1))
    (seq (setA 0 "Place" "first_use" (loc 2))
    (seq (setA 0 "Place" "uses" (loc 3))
    (seq (setA 0 "Place" "first_strength" (bin (on2I iSub) (loc 4) (bin hMulT (loc 2) (loc 5))))
    (setA 0 "Place" "loss" (bin hMulT (loc 3) (loc 5)))))))
noncomputable def S_Place____init__ : FSem := mkF 6 6 [] b_Place____init__
abbrev s_places_of : Stmt := topS 11
theorem sc_places_of : FnScope ["table", "block", "entries", "found", "index", "letter", "strength", "step"] ["table", "block"] (defScope s_places_of) := ⟨rfl, rfl, rfl, by decide +kernel, rfl, by decide +kernel, by decide +kernel⟩
noncomputable def b_places_of : M Fl := (seq (asg (dcomp [5, 6, 7] (srcA (loc 0)) (gT (gsC (gN 5) (gsC (gN 6) (gsC (gN 7) gs0))) 3) yesT (loc 5) (frzE (disp false .tup (aCons (loc 6) (aCons (loc 7) aNil))))) (gN 2))
    (seq (asg (disp true .lst aNil) (gN 3))
    (seq (forS (srcEnumS (loc 1)) (gT (gsC (gN 4) (gsC (gN 5) gs0)) 2) (seq (ite (tst (bin (opDIn true) (loc 5) (loc 2))) (raise1 "UnknownOperator" "letter" (loc 5)) sNx)
    (seq (asg (bin opDGet (loc 2) (loc 5)) (gT (gsC (gN 6) (gsC (gN 7) gs0)) 2))
    (drp (appd 3 (makeC "Place" S_Place____init__ (aCons (loc 5) (aCons (smet1 opCountS (cut (loc 1) none (some (loc 4))) (loc 5)) (aCons (smet1 opCountS (loc 1) (loc 5)) (aCons (loc 6) (aCons (loc 7) aNil)))))))))))
    (rtn (mov 3)))))
noncomputable def S_places_of : FSem := mkF 2 8 [] b_places_of
abbrev s_Repeated__table__set : Stmt := (clsB (topS 14)).getD 4 (.Pass ⟨0, 0, 0, 0⟩)
theorem sc_Repeated__table__set : FnScope ["self", "value"] ["self", "value"] (defScope s_Repeated__table__set) := ⟨rfl, rfl, rfl, by decide +kernel, rfl, by decide +kernel, by decide +kernel⟩
noncomputable def b_Repeated__table__set : M Fl := (seq (setA 0 "Repeated" "places" (frzE (callF S_places_of (aCons (loc 1) (aCons (fldE "Repeated" "pattern" (loc 0)) aNil)))))
    (setA 0 "Repeated" "origin" (loc 1)))
noncomputable def S_Repeated__table__set : FSem := mkF 2 2 [] b_Repeated__table__set
abbrev s_is_integer : Stmt := topS 7
theorem sc_is_integer : FnScope ["value"] ["value"] (defScope s_is_integer) := ⟨rfl, rfl, rfl, by decide +kernel, rfl, by decide +kernel, by decide +kernel⟩
noncomputable def b_is_integer : M Fl := (rtn (andE (app opIsi (aCons (loc 0) (aCons (con (.op (.ty "int"))) aNil))) (notE (app opIsi (aCons (loc 0) (aCons (con (.op (.ty "bool"))) aNil))))))
noncomputable def S_is_integer : FSem := mkF 1 1 [] b_is_integer
abbrev s_is_between : Stmt := topS 8
theorem sc_is_between : FnScope ["value", "least", "most"] ["value", "least", "most"] (defScope s_is_between) := ⟨rfl, rfl, rfl, by decide +kernel, rfl, by decide +kernel, by decide +kernel⟩
noncomputable def b_is_between : M Fl := (rtn (andE (callF S_is_integer (aCons (loc 0) aNil)) (chI cLe cLe (loc 1) (loc 0) (loc 2))))
noncomputable def S_is_between : FSem := mkF 3 3 [] b_is_between
abbrev s_Repeated__times__set : Stmt := (clsB (topS 14)).getD 7 (.Pass ⟨0, 0, 0, 0⟩)
theorem sc_Repeated__times__set : FnScope ["self", "value"] ["self", "value"] (defScope s_Repeated__times__set) := ⟨rfl, rfl, rfl, by decide +kernel, rfl, by decide +kernel, by decide +kernel⟩
noncomputable def b_Repeated__times__set : M Fl := (seq (ite (notT (tst (callF S_is_between (aCons (loc 1) (aCons (con (.int 1)) (aCons (callF (conS 1000000000000000000000000000000) (aCons (chk "Repeated" "MOST_TIMES" (loc 0)) aNil)) aNil)))))) (raise1 "InvalidTimes" "value" (loc 1)) sNx)
    (setA 0 "Repeated" "repetitions" (loc 1)))
noncomputable def S_Repeated__times__set : FSem := mkF 2 2 [] b_Repeated__times__set
abbrev s_Repeated____init__ : Stmt := (clsB (topS 14)).getD 1 (.Pass ⟨0, 0, 0, 0⟩)
theorem sc_Repeated____init__ : FnScope ["self", "table", "block", "times"] ["self", "table", "block", "times"] (defScope s_Repeated____init__) := ⟨rfl, rfl, rfl, by decide +kernel, rfl, by decide +kernel, by decide +kernel⟩
noncomputable def b_Repeated____init__ : M Fl := (seq (setA 0 "Repeated" "pattern" (loc 2))
    (seq (setP 0 "Repeated" "table" S_Repeated__table__set (loc 1))
    (setP 0 "Repeated" "times" S_Repeated__times__set (loc 3))))
noncomputable def S_Repeated____init__ : FSem := mkF 4 4 [] b_Repeated____init__
abbrev s_Repeated__size : Stmt := (clsB (topS 14)).getD 9 (.Pass ⟨0, 0, 0, 0⟩)
theorem sc_Repeated__size : FnScope ["self"] ["self"] (defScope s_Repeated__size) := ⟨rfl, rfl, rfl, by decide +kernel, rfl, by decide +kernel, by decide +kernel⟩
noncomputable def b_Repeated__size : M Fl := (rtn (bin hMulT (app opLen (aCons (fldE "Repeated" "places" (loc 0)) aNil)) (fldE "Repeated" "repetitions" (loc 0))))
noncomputable def S_Repeated__size : FSem := mkF 1 1 [] b_Repeated__size
abbrev s_Repeated__need : Stmt := (clsB (topS 14)).getD 12 (.Pass ⟨0, 0, 0, 0⟩)
theorem sc_Repeated__need : FnScope ["self", "numbers", "number"] ["self", "numbers"] (defScope s_Repeated__need) := ⟨rfl, rfl, rfl, by decide +kernel, rfl, by decide +kernel, by decide +kernel⟩
noncomputable def b_Repeated__need : M Fl := (forS (srcA (loc 1)) (gN 2) (ite (notT (tst (callF S_is_between (aCons (loc 2) (aCons (con (.int 0)) (aCons (bin (on2I iSub) (callF (noX S_Repeated__size) (aCons (chk "Repeated" "size" (loc 0)) aNil)) (con (.int 1))) aNil)))))) (raise1 "NoOperator" "index" (loc 2)) sNx))
noncomputable def S_Repeated__need : FSem := starM (mkF 2 3 [] b_Repeated__need)
abbrev s_Repeated__at : Stmt := (clsB (topS 14)).getD 13 (.Pass ⟨0, 0, 0, 0⟩)
theorem sc_Repeated__at : FnScope ["self", "k", "repetition", "index"] ["self", "k"] (defScope s_Repeated__at) := ⟨rfl, rfl, rfl, by decide +kernel, rfl, by decide +kernel, by decide +kernel⟩
noncomputable def b_Repeated__at : M Fl := (seq (asg (appF opDivmod (aCons (loc 1) (aCons (app opLen (aCons (fldE "Repeated" "places" (loc 0)) aNil)) aNil))) (gT (gsC (gN 2) (gsC (gN 3) gs0)) 2))
    (rtn (disp false .tup (aCons (idx (aCons (fldE "Repeated" "places" (loc 0)) (aCons (loc 3) aNil))) (aCons (loc 2) aNil)))))
noncomputable def S_Repeated__at : FSem := mkF 2 4 [] b_Repeated__at
abbrev s_Place__strength : Stmt := (clsB (topS 10)).getD 1 (.Pass ⟨0, 0, 0, 0⟩)
theorem sc_Place__strength : FnScope ["self", "repetition"] ["self", "repetition"] (defScope s_Place__strength) := ⟨rfl, rfl, rfl, by decide +kernel, rfl, by decide +kernel, by decide +kernel⟩
noncomputable def b_Place__strength : M Fl := (rtn (bin (on2I iSub) (fldE "Place" "first_strength" (loc 0)) (bin hMulT (loc 1) (fldE "Place" "loss" (loc 0)))))
noncomputable def S_Place__strength : FSem := mkF 2 2 [] b_Place__strength
abbrev s_Repeated__strength_of : Stmt := (clsB (topS 14)).getD 16 (.Pass ⟨0, 0, 0, 0⟩)
theorem sc_Repeated__strength_of : FnScope ["self", "k", "place", "repetition"] ["self", "k"] (defScope s_Repeated__strength_of) := ⟨rfl, rfl, rfl, by decide +kernel, rfl, by decide +kernel, by decide +kernel⟩
noncomputable def b_Repeated__strength_of : M Fl := (seq (drp (callF S_Repeated__need (aCons (chk "Repeated" "need" (loc 0)) (aCons (loc 1) aNil))))
    (seq (asg (callF S_Repeated__at (aCons (chk "Repeated" "at" (loc 0)) (aCons (loc 1) aNil))) (gT (gsC (gN 2) (gsC (gN 3) gs0)) 2))
    (rtn (callF S_Place__strength (aCons (chk "Place" "strength" (loc 2)) (aCons (loc 3) aNil))))))
noncomputable def S_Repeated__strength_of : FSem := mkF 2 4 [] b_Repeated__strength_of
abbrev s_least_at_most : Stmt := topS 12
theorem sc_least_at_most : FnScope ["place", "bound", "start"] ["place", "bound", "start"] (defScope s_least_at_most) := ⟨rfl, rfl, rfl, by decide +kernel, rfl, by decide +kernel, by decide +kernel⟩
noncomputable def b_least_at_most : M Fl := (seq (ite (tst (bin opLeA (callF S_Place__strength (aCons (chk "Place" "strength" (loc 0)) (aCons (loc 2) aNil))) (loc 1))) (rtn (loc 2)) sNx)
    (seq (ite (tst (bin opLeA (fldE "Place" "loss" (loc 0)) (con (.int 0)))) (rtn (con .non)) sNx)
    (rtn (un opNeg (bin (on2I iDiv) (bin (on2I iSub) (loc 1) (fldE "Place" "first_strength" (loc 0))) (fldE "Place" "loss" (loc 0)))))))
noncomputable def S_least_at_most : FSem := mkF 3 3 [] b_least_at_most
abbrev s_Repeated__nearest_right : Stmt := (clsB (topS 14)).getD 19 (.Pass ⟨0, 0, 0, 0⟩)
theorem sc_Repeated__nearest_right : FnScope ["self", "k", "bound", "width", "found", "index", "place", "start", "repetition"] ["self", "k"] (defScope s_Repeated__nearest_right) := ⟨rfl, rfl, rfl, by decide +kernel, rfl, by decide +kernel, by decide +kernel⟩
noncomputable def b_Repeated__nearest_right : M Fl := (seq (par 2 3 (aCons (callF S_Repeated__strength_of (aCons (chk "Repeated" "strength_of" (loc 0)) (aCons (loc 1) aNil))) (aCons (app opLen (aCons (fldE "Repeated" "places" (loc 0)) aNil)) aNil)))
    (seq (asg (disp true .lst aNil) (gN 4))
    (seq (forS (srcEnum (fldE "Repeated" "places" (loc 0))) (gT (gsC (gN 5) (gsC (gN 6) gs0)) 2) (seq (asg (bin (on2I iDiv) (bin hAdd (bin hAdd (loc 1) (con (.int 1))) (bin (on2I iMod) (bin (on2I iSub) (bin (on2I iSub) (loc 5) (loc 1)) (con (.int 1))) (loc 3))) (loc 3)) (gN 7))
    (seq (asg (callF S_least_at_most (aCons (loc 6) (aCons (loc 2) (aCons (loc 7) aNil)))) (gN 8))
    (ite (andT (tst (bin opNotN (loc 8) (con .non))) (tst (bin opLtA (loc 8) (fldE "Repeated" "repetitions" (loc 0))))) (drp (appd 4 (bin hAdd (bin hMulT (loc 8) (loc 3)) (loc 5)))) sNx))))
    (rtn (app (opMinD false) (aCons (loc 4) aNil))))))
noncomputable def S_Repeated__nearest_right : FSem := mkF 2 9 [] b_Repeated__nearest_right
abbrev s_last_below : Stmt := topS 13
theorem sc_last_below : FnScope ["place", "bound", "last", "found"] ["place", "bound", "last"] (defScope s_last_below) := ⟨rfl, rfl, rfl, by decide +kernel, rfl, by decide +kernel, by decide +kernel⟩
noncomputable def b_last_below : M Fl := (seq (ite (tst (bin opLtA (callF S_Place__strength (aCons (chk "Place" "strength" (loc 0)) (aCons (loc 2) aNil))) (loc 1))) (rtn (loc 2)) sNx)
    (seq (ite (tst (bin opGeA (fldE "Place" "loss" (loc 0)) (con (.int 0)))) (rtn (con .non)) sNx)
    (seq (asg (bin (on2I iDiv) (bin (on2I iSub) (bin (on2I iSub) (loc 1) (con (.int 1))) (fldE "Place" "first_strength" (loc 0))) (un opNeg (fldE "Place" "loss" (loc 0)))) (gN 3))
    (rtn (ifE (tst (bin opGeA (loc 3) (con (.int 0)))) (loc 3) (con .non))))))
noncomputable def S_last_below : FSem := mkF 3 4 [] b_last_below
abbrev s_Repeated__nearest_left : Stmt := (clsB (topS 14)).getD 20 (.Pass ⟨0, 0, 0, 0⟩)
theorem sc_Repeated__nearest_left : FnScope ["self", "k", "bound", "width", "found", "index", "place", "last", "repetition"] ["self", "k"] (defScope s_Repeated__nearest_left) := ⟨rfl, rfl, rfl, by decide +kernel, rfl, by decide +kernel, by decide +kernel⟩
noncomputable def b_Repeated__nearest_left : M Fl := (seq (par 2 3 (aCons (callF S_Repeated__strength_of (aCons (chk "Repeated" "strength_of" (loc 0)) (aCons (loc 1) aNil))) (aCons (app opLen (aCons (fldE "Repeated" "places" (loc 0)) aNil)) aNil)))
    (seq (asg (disp true .lst aNil) (gN 4))
    (seq (forS (srcEnum (fldE "Repeated" "places" (loc 0))) (gT (gsC (gN 5) (gsC (gN 6) gs0)) 2) (seq (asg (bin (on2I iDiv) (bin (on2I iSub) (bin (on2I iSub) (loc 1) (con (.int 1))) (bin (on2I iMod) (bin (on2I iSub) (bin (on2I iSub) (loc 1) (con (.int 1))) (loc 5)) (loc 3))) (loc 3)) (gN 7))
    (seq (asg (ifE (tst (bin opGeA (loc 7) (con (.int 0)))) (callF S_last_below (aCons (loc 6) (aCons (loc 2) (aCons (loc 7) aNil)))) (con .non)) (gN 8))
    (ite (tst (bin opNotN (loc 8) (con .non))) (drp (appd 4 (bin hAdd (bin hMulT (loc 8) (loc 3)) (loc 5)))) sNx))))
    (rtn (app (opMinD true) (aCons (loc 4) aNil))))))
noncomputable def S_Repeated__nearest_left : FSem := mkF 2 9 [] b_Repeated__nearest_left
abbrev s_Repeated__weaker : Stmt := (clsB (topS 14)).getD 21 (.Pass ⟨0, 0, 0, 0⟩)
theorem sc_Repeated__weaker : FnScope ["self", "k", "right"] ["self", "k", "right"] (defScope s_Repeated__weaker) := ⟨rfl, rfl, rfl, by decide +kernel, rfl, by decide +kernel, by decide +kernel⟩
noncomputable def b_Repeated__weaker : M Fl := (seq (drp (callF S_Repeated__need (aCons (chk "Repeated" "need" (loc 0)) (aCons (loc 1) aNil))))
    (rtn (ifE (tst (loc 2)) (callF S_Repeated__nearest_right (aCons (chk "Repeated" "nearest_right" (loc 0)) (aCons (loc 1) aNil))) (callF S_Repeated__nearest_left (aCons (chk "Repeated" "nearest_left" (loc 0)) (aCons (loc 1) aNil))))))
noncomputable def S_Repeated__weaker : FSem := mkF 3 3 [] b_Repeated__weaker
abbrev s__law_moves_right : Stmt := topS 30
theorem sc__law_moves_right : FnScope ["_law_thing", "_law_row", "_law_k", "_law_turns", "_law_shift", "_law_before", "_law_after"] ["_law_thing", "_law_row", "_law_k", "_law_turns"] (defScope s__law_moves_right) := ⟨rfl, rfl, rfl, by decide +kernel, rfl, by decide +kernel, by decide +kernel⟩
noncomputable def b__law_moves_right : M Fl := (seq (asg (bin hMulT (loc 3) (app opLen (aCons (loc 1) aNil))) (gN 4))
    (seq (asg (disp false .tup (aCons (callF S_Repeated__weaker (aDef (.bl false) (aCons (chk "Repeated" "weaker" (loc 0)) (aCons (loc 2) aNil)))) (aCons (callF S_Repeated__weaker (selA (2 + 1) [0, 1, 2] (aCons (chk "Repeated" "weaker" (loc 0)) (aApp (2 - 1) 1 (aCons (loc 2) aNil) (aCons (con (.bl true)) aNil))))) aNil))) (gN 5))
    (seq (asg (disp false .tup (aCons (callF S_Repeated__weaker (aDef (.bl false) (aCons (chk "Repeated" "weaker" (loc 0)) (aCons (bin hAdd (loc 2) (loc 4)) aNil)))) (aCons (callF S_Repeated__weaker (selA (2 + 1) [0, 1, 2] (aCons (chk "Repeated" "weaker" (loc 0)) (aApp (2 - 1) 1 (aCons (bin hAdd (loc 2) (loc 4)) aNil) (aCons (con (.bl true)) aNil))))) aNil))) (gN 6))
    (seq (ite (andT (tst (bin opNotN (idx (aCons (loc 5) (aCons (con (.int 0)) aNil))) (con .non))) (tst (bin opNe (idx (aCons (loc 6) (aCons (con (.int 0)) aNil))) (bin hAdd (idx (aCons (loc 5) (aCons (con (.int 0)) aNil))) (loc 4))))) (rtn (con (.bl false))) sNx)
    (seq (ite (andT (tst (bin opNotN (idx (aCons (loc 6) (aCons (con (.int 1)) aNil))) (con .non))) (tst (bin opNe (idx (aCons (loc 5) (aCons (con (.int 1)) aNil))) (bin (on2I iSub) (idx (aCons (loc 6) (aCons (con (.int 1)) aNil))) (loc 4))))) (rtn (con (.bl false))) sNx)
    (seq (ite (andT (tst (bin opNotN (idx (aCons (loc 5) (aCons (con (.int 1)) aNil))) (con .non))) (andT (tst (bin opLtA (bin hAdd (idx (aCons (loc 5) (aCons (con (.int 1)) aNil))) (loc 4)) (callF (noX S_Repeated__size) (aCons (chk "Repeated" "size" (loc 0)) aNil)))) (tst (bin opIsN (idx (aCons (loc 6) (aCons (con (.int 1)) aNil))) (con .non))))) (rtn (con (.bl false))) sNx)
    (rtn (orE (bin opNotN (idx (aCons (loc 5) (aCons (con (.int 1)) aNil))) (con .non)) (bin opIsN (idx (aCons (loc 6) (aCons (con (.int 1)) aNil))) (con .non))))))))))
noncomputable def S__law_moves_right : FSem := mkF 4 7 [] b__law_moves_right
abbrev s_law : Stmt := topS 31
theorem sc_law : FnScope ["_law_script", "_law_pen_here", "_law_lap", "_law_entries_here", "_law_row", "_law_loss", "_law_many", "_law_thing", "_law_turn", "_law_turns", "_law_places", "_law_k", "_law_later"] ["_law_script"] (defScope s_law) := ⟨rfl, rfl, rfl, by decide +kernel, rfl, by decide +kernel, by decide +kernel⟩
noncomputable def b_law : M Fl := (seq (asg (callF S__law_pen (aCons (loc 0) aNil)) (gN 1))
    (seq (forS (srcR1 (aCons (con (.int 3)) aNil)) (gN 2) (seq (asg (callF S__law_even_block (aCons (loc 1) aNil)) (gT (gsC (gN 3) (gsC (gN 4) (gsC (gN 5) gs0))) 3))
    (seq (asg (callF S__law_great_number (aCons (loc 1) aNil)) (gN 6))
    (seq (asg (makeC "Repeated" S_Repeated____init__ (aCons (loc 3) (aCons (loc 4) (aCons (loc 6) aNil)))) (gN 7))
    (forS (srcR1 (aCons (con (.int 12)) aNil)) (gN 8) (seq (asg (idx (aCons (disp true .lst (aCons (con (.int 1)) (aCons (callF S__law_draw (aCons (loc 1) (aCons (loc 6) aNil))) (aCons (bin (on2I iSub) (loc 6) (con (.int 1))) (aCons (app opMin2 (aCons (bin (on2I iSub) (loc 6) (con (.int 1))) (aCons (con (.int 2)) aNil))) aNil))))) (aCons (callF S__law_draw (aCons (loc 1) (aCons (con (.int 4)) aNil))) aNil))) (gN 9))
    (seq (asg (app opMin2 (aCons (loc 9) (aCons (bin (on2I iSub) (loc 6) (con (.int 1))) aNil))) (gN 9))
    (seq (asg (idx (aCons (disp true .lst (aCons (app opLen (aCons (loc 4) aNil)) (aCons (bin hMulT (app opLen (aCons (loc 4) aNil)) (bin (on2I iSub) (loc 6) (loc 9))) aNil))) (aCons (callF S__law_draw (aCons (loc 1) (aCons (con (.int 2)) aNil))) aNil))) (gN 10))
    (seq (asg (callF S__law_draw (aCons (loc 1) (aCons (loc 10) aNil))) (gN 11))
    (seq (ite (notT (tst (callF S__law_moves_right (aCons (loc 7) (aCons (loc 4) (aCons (loc 11) (aCons (loc 9) aNil))))))) (rtn (con (.bl false))) sNx)
    (seq (asg (bin hAdd (loc 11) (bin hMulT (loc 9) (app opLen (aCons (loc 4) aNil)))) (gN 12))
    (ite (tst (bin opNe (bin (on2I iSub) (callF S_Repeated__strength_of (aCons (chk "Repeated" "strength_of" (loc 7)) (aCons (loc 11) aNil))) (callF S_Repeated__strength_of (aCons (chk "Repeated" "strength_of" (loc 7)) (aCons (loc 12) aNil)))) (bin hMulT (loc 9) (loc 5)))) (rtn (con (.bl false))) sNx))))))))))))
    (rtn (con (.bl true)))))
noncomputable def S_law : FSem := mkF 1 13 [] b_law
section
variable {P : Program} {w : World} {K : PySem.W.Frag} {mg : Str → Option Value} {base : Heap}
theorem ok__law_pen {f : Addr} {fd : FuncData} (F : Fun K "_law_pen" "_law_pen" s__law_pen f fd) (z_list : mg "list" = none) : FnG P w K mg base 1 f fd ["_law_script"] S__law_pen :=
  fnG (k := 0) (m := 1) F sc__law_pen rfl fun cdv A outer s H E hgd hr => by
    have ft : Fit (cxG P w K mg base ["_law_script"] "_law_pen" (defScope s__law_pen) f cdv A outer s H E) (fun cls d _ H => E cls d H) 0 := ⟨hgd, hr, takes_of rfl rfl rfl rfl⟩
    have hp : PassesOwn (model P w) (cxG P w K mg base ["_law_script"] "_law_pen" (defScope s__law_pen) f cdv A outer s H E).A (cxG P w K mg base ["_law_script"] "_law_pen" (defScope s__law_pen) f cdv A outer s H E).env (cxG P w K mg base ["_law_script"] "_law_pen" (defScope s__law_pen) f cdv A outer s H E).xe := passes_of rfl
    exact (B_1 (S_ret (E_L (A_c (E_ty snd_list call_list_of z_list (A_c (E_cut (E_loc 0) O_0 (O_1 E_int)) A_0)) (A_c E_int (A_c E_int A_0))))))
theorem ok__law_draw {f : Addr} {fd : FuncData} (F : Fun K "_law_draw" "_law_draw" s__law_draw f fd) (z_abs : mg "abs" = none) (z_int : mg "int" = none) (z_len : mg "len" = none) : FnG P w K mg base 1 f fd ["_law_pen_here", "_law_count"] S__law_draw :=
  fnG (k := 0) (m := 7) F sc__law_draw rfl fun cdv A outer s H E hgd hr => by
    have ft : Fit (cxG P w K mg base ["_law_pen_here", "_law_count", "_law_digit", "_law_at", "_law_cell", "_law_large", "_law_mixed"] "_law_draw" (defScope s__law_draw) f cdv A outer s H E) (fun cls d _ H => E cls d H) 0 := ⟨hgd, hr, takes_of rfl rfl rfl rfl⟩
    have hp : PassesOwn (model P w) (cxG P w K mg base ["_law_pen_here", "_law_count", "_law_digit", "_law_at", "_law_cell", "_law_large", "_law_mixed"] "_law_draw" (defScope s__law_draw) f cdv A outer s H E).A (cxG P w K mg base ["_law_pen_here", "_law_count", "_law_digit", "_law_at", "_law_cell", "_law_large", "_law_mixed"] "_law_draw" (defScope s__law_draw) f cdv A outer s H E).env (cxG P w K mg base ["_law_pen_here", "_law_count", "_law_digit", "_law_at", "_law_cell", "_law_large", "_law_mixed"] "_law_draw" (defScope s__law_draw) f cdv A outer s H E).xe := passes_of rfl
    exact (B_c (S_if (T_cmp opd_gtI (E_idx (E_loc 0) E_int) E_int) (B_c (S_set (i := 2) (E_op opd_modI (E_idx (E_loc 0) E_int) (E_loc 1)) sc__law_draw.nd)
    (B_c (S_tg (E_op opd_divI (E_idx (E_loc 0) E_int) (E_loc 1)) (G_i (j := 0) E_int))
    (B_1 (S_ret (E_mov 2))))) B_0)
    (B_c (S_set (i := 3) (E_idx (E_loc 0) E_int) sc__law_draw.nd)
    (B_c (S_tg (E_op opd_addI (E_loc 3) E_int) (G_i (j := 0) E_int))
    (B_c (S_set (i := 4) (E_op opd_addI (E_op opd_mulI E_int (E_loc 3)) E_int) sc__law_draw.nd)
    (B_c (S_if (T_cmp (opd_ne ft.room.units) (E_idx (E_loc 0) E_int) (E_L A_0)) (B_1 (S_set (i := 4) (E_idx (E_idx (E_loc 0) E_int) (E_op opd_modI (E_loc 3) (E_blF snd_len call_lenA z_len (A_c (E_idx (E_loc 0) E_int) A_0)))) sc__law_draw.nd)) B_0)
    (B_c (S_if (PW.pt (W_and (T_cmp opd_ltI (E_loc 3) (E_blF snd_len call_lenA z_len (A_c (E_idx (E_loc 0) E_int) A_0))) (W_and1 (T_cmp opd_geI (E_blF snd_abs call_abs z_abs (A_c (E_loc 4) A_0)) (E_op opd_powI E_int E_int))))) (B_c (S_set (i := 5) (E_op opd_addI (E_op opd_mulI E_int (E_op opd_subI (E_blF snd_abs call_abs z_abs (A_c (E_loc 4) A_0)) (E_op opd_powI E_int E_int))) (E_ty snd_int1 call_int1 z_int (A_c (E_cmp opd_ltI (E_loc 4) E_int) A_0))) sc__law_draw.nd)
    (B_c (S_tg (E_op opd_divI (E_loc 5) (E_loc 1)) (G_i (j := 0) E_int))
    (B_1 (S_ret (E_op opd_modI (E_loc 5) (E_loc 1)))))) B_0)
    (B_c (S_set (i := 6) (E_op opd_modI (E_op opd_powI (E_op opd_addI (E_op opd_addI (E_op opd_modI (E_loc 4) E_int) (E_op opd_mulI E_int (E_loc 3))) E_int) E_int) E_int) sc__law_draw.nd)
    (B_c (S_set (i := 6) (E_op opd_modI (E_op opd_powI (E_op opd_addI (E_op opd_addI (E_op opd_mulI (E_loc 6) (E_op opd_addI (E_op opd_mulI E_int (E_loc 3)) E_int)) (E_op opd_mulI (E_op opd_mulI E_int (E_loc 3)) (E_loc 3))) E_int) E_int) E_int) sc__law_draw.nd)
    (B_1 (S_ret (E_op opd_modI (E_op opd_divI (E_loc 6) E_int) (E_loc 1))))))))))))
theorem ok__law_number {f : Addr} {fd : FuncData} (F : Fun K "_law_number" "_law_number" s__law_number f fd) {f__law_draw : Addr} {fd__law_draw : FuncData} (D__law_draw : Def P w K mg base 1 "_law_draw" f__law_draw fd__law_draw ["_law_pen_here", "_law_count"] S__law_draw) : FnG P w K mg base 2 f fd ["_law_pen_here", "_law_reach"] S__law_number :=
  fnG (k := 1) (m := 3) F sc__law_number rfl fun cdv A outer s H E hgd hr => by
    have ft : Fit (cxG P w K mg base ["_law_pen_here", "_law_reach", "_law_bound"] "_law_number" (defScope s__law_number) f cdv A outer s H E) (fun cls d _ H => E cls d H) 1 := ⟨hgd, hr, takes_of rfl rfl rfl rfl⟩
    have hp : PassesOwn (model P w) (cxG P w K mg base ["_law_pen_here", "_law_reach", "_law_bound"] "_law_number" (defScope s__law_number) f cdv A outer s H E).A (cxG P w K mg base ["_law_pen_here", "_law_reach", "_law_bound"] "_law_number" (defScope s__law_number) f cdv A outer s H E).env (cxG P w K mg base ["_law_pen_here", "_law_reach", "_law_bound"] "_law_number" (defScope s__law_number) f cdv A outer s H E).xe := passes_of rfl
    exact (B_c (S_set (i := 2) (E_idx (E_L (A_c E_int (A_c E_int (A_c (E_loc 1) (A_c (E_op opd_powI E_int E_int) A_0))))) (E_call D__law_draw ft (A_c (E_loc 0) (A_c E_int A_0)))) sc__law_number.nd)
    (B_1 (S_ret (E_op opd_subI (E_call D__law_draw ft (A_c (E_loc 0) (A_c (E_op opd_hAdd (E_op opd_hMulT E_int (E_loc 2)) E_int) A_0))) (E_loc 2)))))
theorem ok__law_even_block {f : Addr} {fd : FuncData} (F : Fun K "_law_even_block" "_law_even_block" s__law_even_block f fd) (z_len : mg "len" = none) (z_list : mg "list" = none) (z_range : mg "range" = none) (z_sorted : mg "sorted" = none) (z_sum : mg "sum" = none) (z_tuple : mg "tuple" = none) (z_zip : mg "zip" = none) {f__law_draw : Addr} {fd__law_draw : FuncData} (D__law_draw : Def P w K mg base 1 "_law_draw" f__law_draw fd__law_draw ["_law_pen_here", "_law_count"] S__law_draw) {f__law_number : Addr} {fd__law_number : FuncData} (D__law_number : Def P w K mg base 2 "_law_number" f__law_number fd__law_number ["_law_pen_here", "_law_reach"] S__law_number) : FnG P w K mg base 3 f fd ["_law_pen_here"] S__law_even_block :=
  fnG (k := 2) (m := 11) F sc__law_even_block rfl fun cdv A outer s H E hgd hr => by
    have ft : Fit (cxG P w K mg base ["_law_pen_here", "_law_loss", "_law_left", "_law_signs_here", "_law_counts", "_law_entries_here", "_law_sign", "_law_many", "_law_pool", "_law_row", "_law_k"] "_law_even_block" (defScope s__law_even_block) f cdv A outer s H E) (fun cls d _ H => E cls d H) 2 := ⟨hgd, hr, takes_of rfl rfl rfl rfl⟩
    have hp : PassesOwn (model P w) (cxG P w K mg base ["_law_pen_here", "_law_loss", "_law_left", "_law_signs_here", "_law_counts", "_law_entries_here", "_law_sign", "_law_many", "_law_pool", "_law_row", "_law_k"] "_law_even_block" (defScope s__law_even_block) f cdv A outer s H E).A (cxG P w K mg base ["_law_pen_here", "_law_loss", "_law_left", "_law_signs_here", "_law_counts", "_law_entries_here", "_law_sign", "_law_many", "_law_pool", "_law_row", "_law_k"] "_law_even_block" (defScope s__law_even_block) f cdv A outer s H E).env (cxG P w K mg base ["_law_pen_here", "_law_loss", "_law_left", "_law_signs_here", "_law_counts", "_law_entries_here", "_law_sign", "_law_many", "_law_pool", "_law_row", "_law_k"] "_law_even_block" (defScope s__law_even_block) f cdv A outer s H E).xe := passes_of rfl
    exact (B_c (S_set (i := 1) (E_op opd_hMulT E_int (E_op opd_subI (E_call D__law_draw ft (A_c (E_loc 0) (A_c E_int A_0))) E_int)) sc__law_even_block.nd)
    (B_c (S_set (i := 2) (E_ty snd_listA (call_listA rfl) z_list (A_c E_str A_0)) sc__law_even_block.nd)
    (B_c (S_set (i := 3) (E_blF snd_sorted call_sortedA z_sorted (A_c (E_lc (own := [("_law_k", 10)]) sc__law_even_block.nd (I_r1 z_range (E_op opd_hAdd E_int (E_call D__law_draw ft (A_c (E_loc 0) (A_c E_int A_0))))) (show BlkOk ["_law_pen_here", "_law_loss", "_law_left", "_law_signs_here", "_law_counts", "_law_entries_here", "_law_sign", "_law_many", "_law_pool", "_law_row", "_law_k"] (defScope s__law_even_block) _ [("_law_k", 10)] from ⟨rfl, by decide +kernel, by decide +kernel, by decide +kernel, by decide +kernel⟩) (fun _ _ _ _ _ => (G_n (i := 10) sc__law_even_block.nd)) (fun _ _ _ _ _ => Ts_0) (fun _ _ _ _ _ => (E_popi (j := 2) (E_call D__law_draw (Fit.blk ft) (A_c (E_loc 0) (A_c (E_blF snd_len call_lenA z_len (A_c (E_loc 2) A_0)) A_0)))))) A_0)) sc__law_even_block.nd)
    (B_c (S_lc (i := 4) (own := [("_law_sign", 6)]) sc__law_even_block.nd (I_a (E_loc 3)) (show BlkOk ["_law_pen_here", "_law_loss", "_law_left", "_law_signs_here", "_law_counts", "_law_entries_here", "_law_sign", "_law_many", "_law_pool", "_law_row", "_law_k"] (defScope s__law_even_block) _ [("_law_sign", 6)] from ⟨rfl, by decide +kernel, by decide +kernel, by decide +kernel, by decide +kernel⟩) (fun _ _ _ _ _ => (G_n (i := 6) sc__law_even_block.nd)) (fun _ _ _ _ _ => Ts_0) (fun _ _ _ _ _ => (E_idx (E_L (A_c E_int (A_c E_int (A_c E_int (A_c E_int A_0))))) (E_call D__law_draw (Fit.blk ft) (A_c (E_loc 0) (A_c E_int A_0))))))
    (B_c (S_set (i := 5) (E_L A_0) sc__law_even_block.nd)
    (B_c (S_for hp (I_zipL z_zip (E_loc 3) (E_loc 4)) (G_t (Gs_c (G_n (i := 6) sc__law_even_block.nd) (Gs_c (G_n (i := 7) sc__law_even_block.nd) Gs_0))) (B_1 (S_ex (E_app (j := 5) (E_T (A_c (E_loc 6) (A_c (E_call D__law_number ft (A_c (E_loc 0) (A_c E_int A_0))) (A_c (E_op opd_divI (E_loc 1) (E_loc 7)) A_0))))))))
    (B_c (S_set (i := 8) (E_ty snd_listA (call_listA rfl) z_list (A_c (E_join E_str (E_lc (own := [("_law_sign", 6), ("_law_many", 7)]) sc__law_even_block.nd (I_zipL z_zip (E_loc 3) (E_loc 4)) (show BlkOk ["_law_pen_here", "_law_loss", "_law_left", "_law_signs_here", "_law_counts", "_law_entries_here", "_law_sign", "_law_many", "_law_pool", "_law_row", "_law_k"] (defScope s__law_even_block) _ [("_law_sign", 6), ("_law_many", 7)] from ⟨rfl, by decide +kernel, by decide +kernel, by decide +kernel, by decide +kernel⟩) (fun _ _ _ _ _ => (G_t (Gs_c (G_n (i := 6) sc__law_even_block.nd) (Gs_c (G_n (i := 7) sc__law_even_block.nd) Gs_0)))) (fun _ _ _ _ _ => Ts_0) (fun _ _ _ _ _ => (E_op opd_hMulT (E_loc 6) (E_loc 7))))) A_0)) sc__law_even_block.nd)
    (B_c (S_set (i := 9) (E_join E_str (E_lc (own := [("_law_k", 10)]) sc__law_even_block.nd (I_r1 z_range (E_blF snd_sum (cr_sum rfl) z_sum (A_c (E_loc 4) A_0))) (show BlkOk ["_law_pen_here", "_law_loss", "_law_left", "_law_signs_here", "_law_counts", "_law_entries_here", "_law_sign", "_law_many", "_law_pool", "_law_row", "_law_k"] (defScope s__law_even_block) _ [("_law_k", 10)] from ⟨rfl, by decide +kernel, by decide +kernel, by decide +kernel, by decide +kernel⟩) (fun _ _ _ _ _ => (G_n (i := 10) sc__law_even_block.nd)) (fun _ _ _ _ _ => Ts_0) (fun _ _ _ _ _ => (E_popi (j := 8) (E_call D__law_draw (Fit.blk ft) (A_c (E_loc 0) (A_c (E_blF snd_len call_lenA z_len (A_c (E_loc 8) A_0)) A_0))))))) sc__law_even_block.nd)
    (B_1 (S_ret (E_T (A_c (E_ty snd_tuple call_tuple_of z_tuple (A_c (E_loc 5) A_0)) (A_c (E_loc 9) (A_c (E_loc 1) A_0))))))))))))))
theorem ok__law_great_number {f : Addr} {fd : FuncData} (F : Fun K "_law_great_number" "_law_great_number" s__law_great_number f fd) {f__law_draw : Addr} {fd__law_draw : FuncData} (D__law_draw : Def P w K mg base 1 "_law_draw" f__law_draw fd__law_draw ["_law_pen_here", "_law_count"] S__law_draw) : FnG P w K mg base 2 f fd ["_law_pen_here"] S__law_great_number :=
  fnG (k := 1) (m := 2) F sc__law_great_number rfl fun cdv A outer s H E hgd hr => by
    have ft : Fit (cxG P w K mg base ["_law_pen_here", "_law_some_here"] "_law_great_number" (defScope s__law_great_number) f cdv A outer s H E) (fun cls d _ H => E cls d H) 1 := ⟨hgd, hr, takes_of rfl rfl rfl rfl⟩
    have hp : PassesOwn (model P w) (cxG P w K mg base ["_law_pen_here", "_law_some_here"] "_law_great_number" (defScope s__law_great_number) f cdv A outer s H E).A (cxG P w K mg base ["_law_pen_here", "_law_some_here"] "_law_great_number" (defScope s__law_great_number) f cdv A outer s H E).env (cxG P w K mg base ["_law_pen_here", "_law_some_here"] "_law_great_number" (defScope s__law_great_number) f cdv A outer s H E).xe := passes_of rfl
    exact (B_c (S_set (i := 1) (E_L (A_c E_int (A_c E_int (A_c (E_op opd_hAdd E_int (E_call D__law_draw ft (A_c (E_loc 0) (A_c E_int A_0)))) (A_c (E_op opd_hAdd (E_op opd_powI E_int E_int) (E_call D__law_draw ft (A_c (E_loc 0) (A_c (E_op opd_powI E_int E_int) A_0)))) A_0))))) sc__law_great_number.nd)
    (B_1 (S_ret (E_idx (E_op opd_hAdd (E_loc 1) (E_L (A_c (E_op opd_subI (E_op opd_powI E_int E_int) (E_call D__law_draw ft (A_c (E_loc 0) (A_c (E_op opd_powI E_int E_int) A_0)))) (A_c (E_op opd_powI E_int E_int) A_0)))) (E_call D__law_draw ft (A_c (E_loc 0) (A_c E_int A_0)))))))
theorem ok_Place____init__ {f : Addr} {fd : FuncData} (F : Fun K "__init__" "Place.__init__" s_Place____init__ f fd) {C_Place : Addr} (rC_Place : reg K "Place" = some C_Place) (cl_Place : Cls K C_Place) (nf_Place_first_strength : NoAttr K C_Place "first_strength") (nf_Place_first_use : NoAttr K C_Place "first_use") (nf_Place_loss : NoAttr K C_Place "loss") (nf_Place_mark : NoAttr K C_Place "mark") (nf_Place_uses : NoAttr K C_Place "uses") : FnG P w K mg base 1 f fd ["self", "mark", "first_use", "uses", "strength", "step"] S_Place____init__ :=
  fnG (k := 0) (m := 6) F sc_Place____init__ rfl fun cdv A outer s H E hgd hr => by
    have ft : Fit (cxG P w K mg base ["self", "mark", "first_use", "uses", "strength", "step"] "Place.__init__" (defScope s_Place____init__) f cdv A outer s H E) (fun cls d _ H => E cls d H) 0 := ⟨hgd, hr, takes_of rfl rfl rfl rfl⟩
    have hp : PassesOwn (model P w) (cxG P w K mg base ["self", "mark", "first_use", "uses", "strength", "step"] "Place.__init__" (defScope s_Place____init__) f cdv A outer s H E).A (cxG P w K mg base ["self", "mark", "first_use", "uses", "strength", "step"] "Place.__init__" (defScope s_Place____init__) f cdv A outer s H E).env (cxG P w K mg base ["self", "mark", "first_use", "uses", "strength", "step"] "Place.__init__" (defScope s_Place____init__) f cdv A outer s H E).xe := passes_of rfl
    exact (B_c (S_setA (j := 0) rC_Place cl_Place nf_Place_mark (E_loc 1))
    (B_c (S_setA (j := 0) rC_Place cl_Place nf_Place_first_use (E_loc 2))
    (B_c (S_setA (j := 0) rC_Place cl_Place nf_Place_uses (E_loc 3))
    (B_c (S_setA (j := 0) rC_Place cl_Place nf_Place_first_strength (E_op opd_subI (E_loc 4) (E_op opd_hMulT (E_loc 2) (E_loc 5))))
    (B_1 (S_setA (j := 0) rC_Place cl_Place nf_Place_loss (E_op opd_hMulT (E_loc 3) (E_loc 5))))))))
theorem ok_places_of {f : Addr} {fd : FuncData} (F : Fun K "places_of" "places_of" s_places_of f fd) (z_enumerate : mg "enumerate" = none) {C_UnknownOperator : Addr} (E_UnknownOperator : ECls P w K mg base "UnknownOperator" "letter" C_UnknownOperator) {C_Place : Addr} (rC_Place : reg K "Place" = some C_Place) (cl_Place : Cls K C_Place) {f_Place____init__ : Addr} {fd_Place____init__ : FuncData} (I_Place : IDef P w K mg base 1 "Place" C_Place f_Place____init__ fd_Place____init__ ["self", "mark", "first_use", "uses", "strength", "step"] S_Place____init__) : FnG P w K mg base 3 f fd ["table", "block"] S_places_of :=
  fnG (k := 2) (m := 8) F sc_places_of rfl fun cdv A outer s H E hgd hr => by
    have ft : Fit (cxG P w K mg base ["table", "block", "entries", "found", "index", "letter", "strength", "step"] "places_of" (defScope s_places_of) f cdv A outer s H E) (fun cls d _ H => E cls d H) 2 := ⟨hgd, hr, takes_of rfl rfl rfl rfl⟩
    have hp : PassesOwn (model P w) (cxG P w K mg base ["table", "block", "entries", "found", "index", "letter", "strength", "step"] "places_of" (defScope s_places_of) f cdv A outer s H E).A (cxG P w K mg base ["table", "block", "entries", "found", "index", "letter", "strength", "step"] "places_of" (defScope s_places_of) f cdv A outer s H E).env (cxG P w K mg base ["table", "block", "entries", "found", "index", "letter", "strength", "step"] "places_of" (defScope s_places_of) f cdv A outer s H E).xe := passes_of rfl
    exact (B_c (S_dc (i := 2) (own := [("letter", 5), ("strength", 6), ("step", 7)]) sc_places_of.nd (I_a (E_loc 0)) (show BlkOk ["table", "block", "entries", "found", "index", "letter", "strength", "step"] (defScope s_places_of) _ [("letter", 5), ("strength", 6), ("step", 7)] from ⟨rfl, by decide +kernel, by decide +kernel, by decide +kernel, by decide +kernel⟩) (fun _ _ _ _ _ => (G_t (Gs_c (G_n (i := 5) sc_places_of.nd) (Gs_c (G_n (i := 6) sc_places_of.nd) (Gs_c (G_n (i := 7) sc_places_of.nd) Gs_0))))) (fun _ _ _ _ _ => Ts_0) (fun _ _ _ _ _ => (E_loc 5)) (fun _ _ _ _ _ => (E_frz (E_T (A_c (E_loc 6) (A_c (E_loc 7) A_0))))))
    (B_c (S_set (i := 3) (E_L A_0) sc_places_of.nd)
    (B_c (S_for hp (I_enumS z_enumerate (E_loc 1)) (G_t (Gs_c (G_n (i := 4) sc_places_of.nd) (Gs_c (G_n (i := 5) sc_places_of.nd) Gs_0))) (B_c (S_if (T_cmp (opd_dnin (un1 ft.room.units)) (E_loc 5) (E_loc 2)) (B_1 (S_raiseE E_UnknownOperator ft (by decide) (A_c (E_loc 5) A_0))) B_0)
    (B_c (S_tg (E_dget (un1 ft.room.units) (E_loc 2) (E_loc 5)) (G_t (Gs_c (G_n (i := 6) sc_places_of.nd) (Gs_c (G_n (i := 7) sc_places_of.nd) Gs_0))))
    (B_1 (S_ex (E_app (j := 3) (E_make rC_Place I_Place ft (A_c (E_loc 5) (A_c (E_count (E_cut (E_loc 1) O_0 (O_1 (E_loc 4))) (E_loc 5)) (A_c (E_count (E_loc 1) (E_loc 5)) (A_c (E_loc 6) (A_c (E_loc 7) A_0))))))))))))
    (B_1 (S_ret (E_mov 3))))))
theorem ok_Repeated__table__set {f : Addr} {fd : FuncData} (F : Fun K "table" "Repeated.table" s_Repeated__table__set f fd) {C_Repeated : Addr} (rC_Repeated : reg K "Repeated" = some C_Repeated) (cl_Repeated : Cls K C_Repeated) (nf_Repeated_origin : NoAttr K C_Repeated "origin") (nf_Repeated_pattern : NoAttr K C_Repeated "pattern") (nf_Repeated_places : NoAttr K C_Repeated "places") {f_places_of : Addr} {fd_places_of : FuncData} (D_places_of : Def P w K mg base 3 "places_of" f_places_of fd_places_of ["table", "block"] S_places_of) : FnG P w K mg base 4 f fd ["self", "value"] S_Repeated__table__set :=
  fnG (k := 3) (m := 2) F sc_Repeated__table__set rfl fun cdv A outer s H E hgd hr => by
    have ft : Fit (cxG P w K mg base ["self", "value"] "Repeated.table" (defScope s_Repeated__table__set) f cdv A outer s H E) (fun cls d _ H => E cls d H) 3 := ⟨hgd, hr, takes_of rfl rfl rfl rfl⟩
    have hp : PassesOwn (model P w) (cxG P w K mg base ["self", "value"] "Repeated.table" (defScope s_Repeated__table__set) f cdv A outer s H E).A (cxG P w K mg base ["self", "value"] "Repeated.table" (defScope s_Repeated__table__set) f cdv A outer s H E).env (cxG P w K mg base ["self", "value"] "Repeated.table" (defScope s_Repeated__table__set) f cdv A outer s H E).xe := passes_of rfl
    exact (B_c (S_setA (j := 0) rC_Repeated cl_Repeated nf_Repeated_places (E_frz (E_call D_places_of ft (A_c (E_loc 1) (A_c (E_fld rC_Repeated cl_Repeated nf_Repeated_pattern (E_loc 0)) A_0)))))
    (B_1 (S_setA (j := 0) rC_Repeated cl_Repeated nf_Repeated_origin (E_loc 1))))
theorem ok_is_integer {f : Addr} {fd : FuncData} (F : Fun K "is_integer" "is_integer" s_is_integer f fd) (z_bool : mg "bool" = none) (z_int : mg "int" = none) (z_isinstance : mg "isinstance" = none) : FnG P w K mg base 1 f fd ["value"] S_is_integer :=
  fnG (k := 0) (m := 1) F sc_is_integer rfl fun cdv A outer s H E hgd hr => by
    have ft : Fit (cxG P w K mg base ["value"] "is_integer" (defScope s_is_integer) f cdv A outer s H E) (fun cls d _ H => E cls d H) 0 := ⟨hgd, hr, takes_of rfl rfl rfl rfl⟩
    have hp : PassesOwn (model P w) (cxG P w K mg base ["value"] "is_integer" (defScope s_is_integer) f cdv A outer s H E).A (cxG P w K mg base ["value"] "is_integer" (defScope s_is_integer) f cdv A outer s H E).env (cxG P w K mg base ["value"] "is_integer" (defScope s_is_integer) f cdv A outer s H E).xe := passes_of rfl
    exact (B_1 (S_ret (E_and (E_blF snd_isi L2.call_isi z_isinstance (A_c (E_loc 0) (A_c (E_ty1 z_int) A_0))) (E_one (E_not (E_blF snd_isi L2.call_isi z_isinstance (A_c (E_loc 0) (A_c (E_ty1 z_bool) A_0))))))))
theorem ok_is_between {f : Addr} {fd : FuncData} (F : Fun K "is_between" "is_between" s_is_between f fd) {f_is_integer : Addr} {fd_is_integer : FuncData} (D_is_integer : Def P w K mg base 1 "is_integer" f_is_integer fd_is_integer ["value"] S_is_integer) : FnG P w K mg base 2 f fd ["value", "least", "most"] S_is_between :=
  fnG (k := 1) (m := 3) F sc_is_between rfl fun cdv A outer s H E hgd hr => by
    have ft : Fit (cxG P w K mg base ["value", "least", "most"] "is_between" (defScope s_is_between) f cdv A outer s H E) (fun cls d _ H => E cls d H) 1 := ⟨hgd, hr, takes_of rfl rfl rfl rfl⟩
    have hp : PassesOwn (model P w) (cxG P w K mg base ["value", "least", "most"] "is_between" (defScope s_is_between) f cdv A outer s H E).A (cxG P w K mg base ["value", "least", "most"] "is_between" (defScope s_is_between) f cdv A outer s H E).env (cxG P w K mg base ["value", "least", "most"] "is_between" (defScope s_is_between) f cdv A outer s H E).xe := passes_of rfl
    exact (B_1 (S_ret (E_and (E_call D_is_integer ft (A_c (E_loc 0) A_0)) (E_one (E_ch oc_le oc_le (E_loc 1) (E_loc 0) (E_loc 2))))))
theorem ok_Repeated__times__set {f : Addr} {fd : FuncData} (F : Fun K "times" "Repeated.times" s_Repeated__times__set f fd) {C_InvalidTimes : Addr} (E_InvalidTimes : ECls P w K mg base "InvalidTimes" "value" C_InvalidTimes) {C_Repeated : Addr} (rC_Repeated : reg K "Repeated" = some C_Repeated) (cl_Repeated : Cls K C_Repeated) (nf_Repeated_repetitions : NoAttr K C_Repeated "repetitions") (cc_Repeated_MOST_TIMES : CInt K C_Repeated "MOST_TIMES" 1000000000000000000000000000000) {f_is_between : Addr} {fd_is_between : FuncData} (D_is_between : Def P w K mg base 2 "is_between" f_is_between fd_is_between ["value", "least", "most"] S_is_between) : FnG P w K mg base 3 f fd ["self", "value"] S_Repeated__times__set :=
  fnG (k := 2) (m := 2) F sc_Repeated__times__set rfl fun cdv A outer s H E hgd hr => by
    have ft : Fit (cxG P w K mg base ["self", "value"] "Repeated.times" (defScope s_Repeated__times__set) f cdv A outer s H E) (fun cls d _ H => E cls d H) 2 := ⟨hgd, hr, takes_of rfl rfl rfl rfl⟩
    have hp : PassesOwn (model P w) (cxG P w K mg base ["self", "value"] "Repeated.times" (defScope s_Repeated__times__set) f cdv A outer s H E).A (cxG P w K mg base ["self", "value"] "Repeated.times" (defScope s_Repeated__times__set) f cdv A outer s H E).env (cxG P w K mg base ["self", "value"] "Repeated.times" (defScope s_Repeated__times__set) f cdv A outer s H E).xe := passes_of rfl
    exact (B_c (S_if (T_not (T_v (E_call D_is_between ft (A_c (E_loc 1) (A_c E_int (A_c (E_ccon rC_Repeated cl_Repeated cc_Repeated_MOST_TIMES (E_loc 0)) A_0)))))) (B_1 (S_raiseE E_InvalidTimes ft (by decide) (A_c (E_loc 1) A_0))) B_0)
    (B_1 (S_setA (j := 0) rC_Repeated cl_Repeated nf_Repeated_repetitions (E_loc 1))))
theorem ok_Repeated____init__ {f : Addr} {fd : FuncData} (F : Fun K "__init__" "Repeated.__init__" s_Repeated____init__ f fd) {C_Repeated : Addr} (rC_Repeated : reg K "Repeated" = some C_Repeated) (cl_Repeated : Cls K C_Repeated) (nf_Repeated_pattern : NoAttr K C_Repeated "pattern") {p_Repeated__table__set f_Repeated__table__set : Addr} {fd_Repeated__table__set : FuncData} (Q_Repeated__table__set : SDef P w K mg base 4 C_Repeated "table" p_Repeated__table__set f_Repeated__table__set fd_Repeated__table__set "value" S_Repeated__table__set) {p_Repeated__times__set f_Repeated__times__set : Addr} {fd_Repeated__times__set : FuncData} (Q_Repeated__times__set : SDef P w K mg base 3 C_Repeated "times" p_Repeated__times__set f_Repeated__times__set fd_Repeated__times__set "value" S_Repeated__times__set) : FnG P w K mg base 7 f fd ["self", "table", "block", "times"] S_Repeated____init__ :=
  fnG (k := 6) (m := 4) F sc_Repeated____init__ rfl fun cdv A outer s H E hgd hr => by
    have ft : Fit (cxG P w K mg base ["self", "table", "block", "times"] "Repeated.__init__" (defScope s_Repeated____init__) f cdv A outer s H E) (fun cls d _ H => E cls d H) 6 := ⟨hgd, hr, takes_of rfl rfl rfl rfl⟩
    have hp : PassesOwn (model P w) (cxG P w K mg base ["self", "table", "block", "times"] "Repeated.__init__" (defScope s_Repeated____init__) f cdv A outer s H E).A (cxG P w K mg base ["self", "table", "block", "times"] "Repeated.__init__" (defScope s_Repeated____init__) f cdv A outer s H E).env (cxG P w K mg base ["self", "table", "block", "times"] "Repeated.__init__" (defScope s_Repeated____init__) f cdv A outer s H E).xe := passes_of rfl
    exact (B_c (S_setA (j := 0) rC_Repeated cl_Repeated nf_Repeated_pattern (E_loc 2))
    (B_c (S_setP (j := 0) rC_Repeated cl_Repeated Q_Repeated__table__set ft (E_loc 1))
    (B_1 (S_setP (j := 0) rC_Repeated cl_Repeated Q_Repeated__times__set ft (E_loc 3)))))
theorem ok_Repeated__size {f : Addr} {fd : FuncData} (F : Fun K "size" "Repeated.size" s_Repeated__size f fd) (z_len : mg "len" = none) {C_Repeated : Addr} (rC_Repeated : reg K "Repeated" = some C_Repeated) (cl_Repeated : Cls K C_Repeated) (nf_Repeated_places : NoAttr K C_Repeated "places") (nf_Repeated_repetitions : NoAttr K C_Repeated "repetitions") : FnG P w K mg base 1 f fd ["self"] S_Repeated__size :=
  fnG (k := 0) (m := 1) F sc_Repeated__size rfl fun cdv A outer s H E hgd hr => by
    have ft : Fit (cxG P w K mg base ["self"] "Repeated.size" (defScope s_Repeated__size) f cdv A outer s H E) (fun cls d _ H => E cls d H) 0 := ⟨hgd, hr, takes_of rfl rfl rfl rfl⟩
    have hp : PassesOwn (model P w) (cxG P w K mg base ["self"] "Repeated.size" (defScope s_Repeated__size) f cdv A outer s H E).A (cxG P w K mg base ["self"] "Repeated.size" (defScope s_Repeated__size) f cdv A outer s H E).env (cxG P w K mg base ["self"] "Repeated.size" (defScope s_Repeated__size) f cdv A outer s H E).xe := passes_of rfl
    exact (B_1 (S_ret (E_op opd_hMulT (E_blF snd_len call_lenA z_len (A_c (E_fld rC_Repeated cl_Repeated nf_Repeated_places (E_loc 0)) A_0)) (E_fld rC_Repeated cl_Repeated nf_Repeated_repetitions (E_loc 0)))))
theorem ok_Repeated__need {f : Addr} {fd : FuncData} (F : Fun K "need" "Repeated.need" s_Repeated__need f fd) {C_NoOperator : Addr} (E_NoOperator : ECls P w K mg base "NoOperator" "index" C_NoOperator) {C_Repeated : Addr} (rC_Repeated : reg K "Repeated" = some C_Repeated) (cl_Repeated : Cls K C_Repeated) {f_is_between : Addr} {fd_is_between : FuncData} (D_is_between : Def P w K mg base 2 "is_between" f_is_between fd_is_between ["value", "least", "most"] S_is_between) {p_Repeated__size f_Repeated__size : Addr} {fd_Repeated__size : FuncData} (P_Repeated__size : PDef P w K mg base 1 C_Repeated "size" p_Repeated__size f_Repeated__size fd_Repeated__size S_Repeated__size) : FnM P w K mg base 3 f S_Repeated__need :=
  fnM (sv := "self") (pv := "numbers") (k := 2) (m := 3) F sc_Repeated__need rfl (fun kV doc pm an cdv ct u0 us => match us with | [] => rfl | _ :: _ => rfl) fun cdv A outer s H E hgd hr => by
    have ft : Fit (cxG P w K mg base ["self", "numbers", "number"] "Repeated.need" (defScope s_Repeated__need) f cdv A outer s H E) (fun cls d _ H => E cls d H) 2 := ⟨hgd, hr, takes_of rfl rfl rfl rfl⟩
    have hp : PassesOwn (model P w) (cxG P w K mg base ["self", "numbers", "number"] "Repeated.need" (defScope s_Repeated__need) f cdv A outer s H E).A (cxG P w K mg base ["self", "numbers", "number"] "Repeated.need" (defScope s_Repeated__need) f cdv A outer s H E).env (cxG P w K mg base ["self", "numbers", "number"] "Repeated.need" (defScope s_Repeated__need) f cdv A outer s H E).xe := passes_of rfl
    exact (B_1 (S_for hp (I_a (E_loc 1)) (G_n (i := 2) sc_Repeated__need.nd) (B_1 (S_if (T_not (T_v (E_call D_is_between ft (A_c (E_loc 2) (A_c E_int (A_c (E_op opd_subI (E_prop rC_Repeated cl_Repeated P_Repeated__size ft (E_loc 0)) E_int) A_0)))))) (B_1 (S_raiseE E_NoOperator ft (by decide) (A_c (E_loc 2) A_0))) B_0))))
theorem ok_Repeated__at {f : Addr} {fd : FuncData} (F : Fun K "at" "Repeated.at" s_Repeated__at f fd) (z_divmod : mg "divmod" = none) (z_len : mg "len" = none) {C_Repeated : Addr} (rC_Repeated : reg K "Repeated" = some C_Repeated) (cl_Repeated : Cls K C_Repeated) (nf_Repeated_places : NoAttr K C_Repeated "places") : FnG P w K mg base 1 f fd ["self", "k"] S_Repeated__at :=
  fnG (k := 0) (m := 4) F sc_Repeated__at rfl fun cdv A outer s H E hgd hr => by
    have ft : Fit (cxG P w K mg base ["self", "k", "repetition", "index"] "Repeated.at" (defScope s_Repeated__at) f cdv A outer s H E) (fun cls d _ H => E cls d H) 0 := ⟨hgd, hr, takes_of rfl rfl rfl rfl⟩
    have hp : PassesOwn (model P w) (cxG P w K mg base ["self", "k", "repetition", "index"] "Repeated.at" (defScope s_Repeated__at) f cdv A outer s H E).A (cxG P w K mg base ["self", "k", "repetition", "index"] "Repeated.at" (defScope s_Repeated__at) f cdv A outer s H E).env (cxG P w K mg base ["self", "k", "repetition", "index"] "Repeated.at" (defScope s_Repeated__at) f cdv A outer s H E).xe := passes_of rfl
    exact (B_c (S_tg (E_blG snd_divmod call_divmodA z_divmod (A_c (E_loc 1) (A_c (E_blF snd_len call_lenA z_len (A_c (E_fld rC_Repeated cl_Repeated nf_Repeated_places (E_loc 0)) A_0)) A_0))) (G_t (Gs_c (G_n (i := 2) sc_Repeated__at.nd) (Gs_c (G_n (i := 3) sc_Repeated__at.nd) Gs_0))))
    (B_1 (S_ret (E_T (A_c (E_idx (E_fld rC_Repeated cl_Repeated nf_Repeated_places (E_loc 0)) (E_loc 3)) (A_c (E_loc 2) A_0))))))
theorem ok_Place__strength {f : Addr} {fd : FuncData} (F : Fun K "strength" "Place.strength" s_Place__strength f fd) {C_Place : Addr} (rC_Place : reg K "Place" = some C_Place) (cl_Place : Cls K C_Place) (nf_Place_first_strength : NoAttr K C_Place "first_strength") (nf_Place_loss : NoAttr K C_Place "loss") : FnG P w K mg base 1 f fd ["self", "repetition"] S_Place__strength :=
  fnG (k := 0) (m := 2) F sc_Place__strength rfl fun cdv A outer s H E hgd hr => by
    have ft : Fit (cxG P w K mg base ["self", "repetition"] "Place.strength" (defScope s_Place__strength) f cdv A outer s H E) (fun cls d _ H => E cls d H) 0 := ⟨hgd, hr, takes_of rfl rfl rfl rfl⟩
    have hp : PassesOwn (model P w) (cxG P w K mg base ["self", "repetition"] "Place.strength" (defScope s_Place__strength) f cdv A outer s H E).A (cxG P w K mg base ["self", "repetition"] "Place.strength" (defScope s_Place__strength) f cdv A outer s H E).env (cxG P w K mg base ["self", "repetition"] "Place.strength" (defScope s_Place__strength) f cdv A outer s H E).xe := passes_of rfl
    exact (B_1 (S_ret (E_op opd_subI (E_fld rC_Place cl_Place nf_Place_first_strength (E_loc 0)) (E_op opd_hMulT (E_loc 1) (E_fld rC_Place cl_Place nf_Place_loss (E_loc 0))))))
theorem ok_Repeated__strength_of {f : Addr} {fd : FuncData} (F : Fun K "strength_of" "Repeated.strength_of" s_Repeated__strength_of f fd) {C_Place : Addr} (rC_Place : reg K "Place" = some C_Place) (cl_Place : Cls K C_Place) {C_Repeated : Addr} (rC_Repeated : reg K "Repeated" = some C_Repeated) (cl_Repeated : Cls K C_Repeated) {f_Repeated__need : Addr} (M_Repeated__need : MDefV P w K mg base 3 C_Repeated "need" f_Repeated__need S_Repeated__need) {f_Repeated__at : Addr} {fd_Repeated__at : FuncData} (M_Repeated__at : MDef P w K mg base 1 C_Repeated "at" f_Repeated__at fd_Repeated__at ["self", "k"] S_Repeated__at) {f_Place__strength : Addr} {fd_Place__strength : FuncData} (M_Place__strength : MDef P w K mg base 1 C_Place "strength" f_Place__strength fd_Place__strength ["self", "repetition"] S_Place__strength) : FnG P w K mg base 4 f fd ["self", "k"] S_Repeated__strength_of :=
  fnG (k := 3) (m := 4) F sc_Repeated__strength_of rfl fun cdv A outer s H E hgd hr => by
    have ft : Fit (cxG P w K mg base ["self", "k", "place", "repetition"] "Repeated.strength_of" (defScope s_Repeated__strength_of) f cdv A outer s H E) (fun cls d _ H => E cls d H) 3 := ⟨hgd, hr, takes_of rfl rfl rfl rfl⟩
    have hp : PassesOwn (model P w) (cxG P w K mg base ["self", "k", "place", "repetition"] "Repeated.strength_of" (defScope s_Repeated__strength_of) f cdv A outer s H E).A (cxG P w K mg base ["self", "k", "place", "repetition"] "Repeated.strength_of" (defScope s_Repeated__strength_of) f cdv A outer s H E).env (cxG P w K mg base ["self", "k", "place", "repetition"] "Repeated.strength_of" (defScope s_Repeated__strength_of) f cdv A outer s H E).xe := passes_of rfl
    exact (B_c (S_ex (E_methV rC_Repeated cl_Repeated M_Repeated__need ft (E_loc 0) (A_c (E_loc 1) A_0)))
    (B_c (S_tg (E_meth rC_Repeated cl_Repeated M_Repeated__at ft (E_loc 0) (A_c (E_loc 1) A_0)) (G_t (Gs_c (G_n (i := 2) sc_Repeated__strength_of.nd) (Gs_c (G_n (i := 3) sc_Repeated__strength_of.nd) Gs_0))))
    (B_1 (S_ret (E_meth rC_Place cl_Place M_Place__strength ft (E_loc 2) (A_c (E_loc 3) A_0))))))
theorem ok_least_at_most {f : Addr} {fd : FuncData} (F : Fun K "least_at_most" "least_at_most" s_least_at_most f fd) {C_Place : Addr} (rC_Place : reg K "Place" = some C_Place) (cl_Place : Cls K C_Place) (nf_Place_first_strength : NoAttr K C_Place "first_strength") (nf_Place_loss : NoAttr K C_Place "loss") {f_Place__strength : Addr} {fd_Place__strength : FuncData} (M_Place__strength : MDef P w K mg base 1 C_Place "strength" f_Place__strength fd_Place__strength ["self", "repetition"] S_Place__strength) : FnG P w K mg base 2 f fd ["place", "bound", "start"] S_least_at_most :=
  fnG (k := 1) (m := 3) F sc_least_at_most rfl fun cdv A outer s H E hgd hr => by
    have ft : Fit (cxG P w K mg base ["place", "bound", "start"] "least_at_most" (defScope s_least_at_most) f cdv A outer s H E) (fun cls d _ H => E cls d H) 1 := ⟨hgd, hr, takes_of rfl rfl rfl rfl⟩
    have hp : PassesOwn (model P w) (cxG P w K mg base ["place", "bound", "start"] "least_at_most" (defScope s_least_at_most) f cdv A outer s H E).A (cxG P w K mg base ["place", "bound", "start"] "least_at_most" (defScope s_least_at_most) f cdv A outer s H E).env (cxG P w K mg base ["place", "bound", "start"] "least_at_most" (defScope s_least_at_most) f cdv A outer s H E).xe := passes_of rfl
    exact (B_c (S_if (T_cmp opd_leA (E_meth rC_Place cl_Place M_Place__strength ft (E_loc 0) (A_c (E_loc 2) A_0)) (E_loc 1)) (B_1 (S_ret (E_loc 2))) B_0)
    (B_c (S_if (T_cmp opd_leA (E_fld rC_Place cl_Place nf_Place_loss (E_loc 0)) E_int) (B_1 (S_ret E_non)) B_0)
    (B_1 (S_ret (E_neg (E_op opd_divI (E_op opd_subI (E_loc 1) (E_fld rC_Place cl_Place nf_Place_first_strength (E_loc 0))) (E_fld rC_Place cl_Place nf_Place_loss (E_loc 0))))))))
theorem ok_Repeated__nearest_right {f : Addr} {fd : FuncData} (F : Fun K "nearest_right" "Repeated.nearest_right" s_Repeated__nearest_right f fd) (z_enumerate : mg "enumerate" = none) (z_len : mg "len" = none) (z_min : mg "min" = none) {C_Repeated : Addr} (rC_Repeated : reg K "Repeated" = some C_Repeated) (cl_Repeated : Cls K C_Repeated) (nf_Repeated_places : NoAttr K C_Repeated "places") (nf_Repeated_repetitions : NoAttr K C_Repeated "repetitions") {f_Repeated__strength_of : Addr} {fd_Repeated__strength_of : FuncData} (M_Repeated__strength_of : MDef P w K mg base 4 C_Repeated "strength_of" f_Repeated__strength_of fd_Repeated__strength_of ["self", "k"] S_Repeated__strength_of) {f_least_at_most : Addr} {fd_least_at_most : FuncData} (D_least_at_most : Def P w K mg base 2 "least_at_most" f_least_at_most fd_least_at_most ["place", "bound", "start"] S_least_at_most) : FnG P w K mg base 5 f fd ["self", "k"] S_Repeated__nearest_right :=
  fnG (k := 4) (m := 9) F sc_Repeated__nearest_right rfl fun cdv A outer s H E hgd hr => by
    have ft : Fit (cxG P w K mg base ["self", "k", "bound", "width", "found", "index", "place", "start", "repetition"] "Repeated.nearest_right" (defScope s_Repeated__nearest_right) f cdv A outer s H E) (fun cls d _ H => E cls d H) 4 := ⟨hgd, hr, takes_of rfl rfl rfl rfl⟩
    have hp : PassesOwn (model P w) (cxG P w K mg base ["self", "k", "bound", "width", "found", "index", "place", "start", "repetition"] "Repeated.nearest_right" (defScope s_Repeated__nearest_right) f cdv A outer s H E).A (cxG P w K mg base ["self", "k", "bound", "width", "found", "index", "place", "start", "repetition"] "Repeated.nearest_right" (defScope s_Repeated__nearest_right) f cdv A outer s H E).env (cxG P w K mg base ["self", "k", "bound", "width", "found", "index", "place", "start", "repetition"] "Repeated.nearest_right" (defScope s_Repeated__nearest_right) f cdv A outer s H E).xe := passes_of rfl
    exact (B_c (S_par (i := 2) (j := 3) (A_c (E_meth rC_Repeated cl_Repeated M_Repeated__strength_of ft (E_loc 0) (A_c (E_loc 1) A_0)) (A_c (E_blF snd_len call_lenA z_len (A_c (E_fld rC_Repeated cl_Repeated nf_Repeated_places (E_loc 0)) A_0)) A_0)) sc_Repeated__nearest_right.nd)
    (B_c (S_set (i := 4) (E_L A_0) sc_Repeated__nearest_right.nd)
    (B_c (S_for hp (I_enum z_enumerate (E_fld rC_Repeated cl_Repeated nf_Repeated_places (E_loc 0))) (G_t (Gs_c (G_n (i := 5) sc_Repeated__nearest_right.nd) (Gs_c (G_n (i := 6) sc_Repeated__nearest_right.nd) Gs_0))) (B_c (S_set (i := 7) (E_op opd_divI (E_op opd_hAdd (E_op opd_hAdd (E_loc 1) E_int) (E_op opd_modI (E_op opd_subI (E_op opd_subI (E_loc 5) (E_loc 1)) E_int) (E_loc 3))) (E_loc 3)) sc_Repeated__nearest_right.nd)
    (B_c (S_set (i := 8) (E_call D_least_at_most ft (A_c (E_loc 6) (A_c (E_loc 2) (A_c (E_loc 7) A_0)))) sc_Repeated__nearest_right.nd)
    (B_1 (S_if (PW.pt (W_and (T_cmp opd_notN (E_loc 8) E_non) (W_and1 (T_cmp (opd_ltA ft.room.units) (E_loc 8) (E_fld rC_Repeated cl_Repeated nf_Repeated_repetitions (E_loc 0)))))) (B_1 (S_ex (E_app (j := 4) (E_op opd_hAdd (E_op opd_hMulT (E_loc 8) (E_loc 3)) (E_loc 5))))) B_0)))))
    (B_1 (S_ret (E_minD ft z_min (E_loc 4)))))))
theorem ok_last_below {f : Addr} {fd : FuncData} (F : Fun K "last_below" "last_below" s_last_below f fd) {C_Place : Addr} (rC_Place : reg K "Place" = some C_Place) (cl_Place : Cls K C_Place) (nf_Place_first_strength : NoAttr K C_Place "first_strength") (nf_Place_loss : NoAttr K C_Place "loss") {f_Place__strength : Addr} {fd_Place__strength : FuncData} (M_Place__strength : MDef P w K mg base 1 C_Place "strength" f_Place__strength fd_Place__strength ["self", "repetition"] S_Place__strength) : FnG P w K mg base 2 f fd ["place", "bound", "last"] S_last_below :=
  fnG (k := 1) (m := 4) F sc_last_below rfl fun cdv A outer s H E hgd hr => by
    have ft : Fit (cxG P w K mg base ["place", "bound", "last", "found"] "last_below" (defScope s_last_below) f cdv A outer s H E) (fun cls d _ H => E cls d H) 1 := ⟨hgd, hr, takes_of rfl rfl rfl rfl⟩
    have hp : PassesOwn (model P w) (cxG P w K mg base ["place", "bound", "last", "found"] "last_below" (defScope s_last_below) f cdv A outer s H E).A (cxG P w K mg base ["place", "bound", "last", "found"] "last_below" (defScope s_last_below) f cdv A outer s H E).env (cxG P w K mg base ["place", "bound", "last", "found"] "last_below" (defScope s_last_below) f cdv A outer s H E).xe := passes_of rfl
    exact (B_c (S_if (T_cmp (opd_ltA ft.room.units) (E_meth rC_Place cl_Place M_Place__strength ft (E_loc 0) (A_c (E_loc 2) A_0)) (E_loc 1)) (B_1 (S_ret (E_loc 2))) B_0)
    (B_c (S_if (T_cmp opd_geA (E_fld rC_Place cl_Place nf_Place_loss (E_loc 0)) E_int) (B_1 (S_ret E_non)) B_0)
    (B_c (S_set (i := 3) (E_op opd_divI (E_op opd_subI (E_op opd_subI (E_loc 1) E_int) (E_fld rC_Place cl_Place nf_Place_first_strength (E_loc 0))) (E_neg (E_fld rC_Place cl_Place nf_Place_loss (E_loc 0)))) sc_last_below.nd)
    (B_1 (S_ret (E_if (T_cmp opd_geA (E_loc 3) E_int) (E_loc 3) E_non))))))
theorem ok_Repeated__nearest_left {f : Addr} {fd : FuncData} (F : Fun K "nearest_left" "Repeated.nearest_left" s_Repeated__nearest_left f fd) (z_enumerate : mg "enumerate" = none) (z_len : mg "len" = none) (z_max : mg "max" = none) {C_Repeated : Addr} (rC_Repeated : reg K "Repeated" = some C_Repeated) (cl_Repeated : Cls K C_Repeated) (nf_Repeated_places : NoAttr K C_Repeated "places") {f_Repeated__strength_of : Addr} {fd_Repeated__strength_of : FuncData} (M_Repeated__strength_of : MDef P w K mg base 4 C_Repeated "strength_of" f_Repeated__strength_of fd_Repeated__strength_of ["self", "k"] S_Repeated__strength_of) {f_last_below : Addr} {fd_last_below : FuncData} (D_last_below : Def P w K mg base 2 "last_below" f_last_below fd_last_below ["place", "bound", "last"] S_last_below) : FnG P w K mg base 5 f fd ["self", "k"] S_Repeated__nearest_left :=
  fnG (k := 4) (m := 9) F sc_Repeated__nearest_left rfl fun cdv A outer s H E hgd hr => by
    have ft : Fit (cxG P w K mg base ["self", "k", "bound", "width", "found", "index", "place", "last", "repetition"] "Repeated.nearest_left" (defScope s_Repeated__nearest_left) f cdv A outer s H E) (fun cls d _ H => E cls d H) 4 := ⟨hgd, hr, takes_of rfl rfl rfl rfl⟩
    have hp : PassesOwn (model P w) (cxG P w K mg base ["self", "k", "bound", "width", "found", "index", "place", "last", "repetition"] "Repeated.nearest_left" (defScope s_Repeated__nearest_left) f cdv A outer s H E).A (cxG P w K mg base ["self", "k", "bound", "width", "found", "index", "place", "last", "repetition"] "Repeated.nearest_left" (defScope s_Repeated__nearest_left) f cdv A outer s H E).env (cxG P w K mg base ["self", "k", "bound", "width", "found", "index", "place", "last", "repetition"] "Repeated.nearest_left" (defScope s_Repeated__nearest_left) f cdv A outer s H E).xe := passes_of rfl
    exact (B_c (S_par (i := 2) (j := 3) (A_c (E_meth rC_Repeated cl_Repeated M_Repeated__strength_of ft (E_loc 0) (A_c (E_loc 1) A_0)) (A_c (E_blF snd_len call_lenA z_len (A_c (E_fld rC_Repeated cl_Repeated nf_Repeated_places (E_loc 0)) A_0)) A_0)) sc_Repeated__nearest_left.nd)
    (B_c (S_set (i := 4) (E_L A_0) sc_Repeated__nearest_left.nd)
    (B_c (S_for hp (I_enum z_enumerate (E_fld rC_Repeated cl_Repeated nf_Repeated_places (E_loc 0))) (G_t (Gs_c (G_n (i := 5) sc_Repeated__nearest_left.nd) (Gs_c (G_n (i := 6) sc_Repeated__nearest_left.nd) Gs_0))) (B_c (S_set (i := 7) (E_op opd_divI (E_op opd_subI (E_op opd_subI (E_loc 1) E_int) (E_op opd_modI (E_op opd_subI (E_op opd_subI (E_loc 1) E_int) (E_loc 5)) (E_loc 3))) (E_loc 3)) sc_Repeated__nearest_left.nd)
    (B_c (S_set (i := 8) (E_if (T_cmp opd_geA (E_loc 7) E_int) (E_call D_last_below ft (A_c (E_loc 6) (A_c (E_loc 2) (A_c (E_loc 7) A_0)))) E_non) sc_Repeated__nearest_left.nd)
    (B_1 (S_if (T_cmp opd_notN (E_loc 8) E_non) (B_1 (S_ex (E_app (j := 4) (E_op opd_hAdd (E_op opd_hMulT (E_loc 8) (E_loc 3)) (E_loc 5))))) B_0)))))
    (B_1 (S_ret (E_maxD ft z_max (E_loc 4)))))))
theorem ok_Repeated__weaker {f : Addr} {fd : FuncData} (F : Fun K "weaker" "Repeated.weaker" s_Repeated__weaker f fd) {C_Repeated : Addr} (rC_Repeated : reg K "Repeated" = some C_Repeated) (cl_Repeated : Cls K C_Repeated) {f_Repeated__need : Addr} (M_Repeated__need : MDefV P w K mg base 3 C_Repeated "need" f_Repeated__need S_Repeated__need) {f_Repeated__nearest_right : Addr} {fd_Repeated__nearest_right : FuncData} (M_Repeated__nearest_right : MDef P w K mg base 5 C_Repeated "nearest_right" f_Repeated__nearest_right fd_Repeated__nearest_right ["self", "k"] S_Repeated__nearest_right) {f_Repeated__nearest_left : Addr} {fd_Repeated__nearest_left : FuncData} (M_Repeated__nearest_left : MDef P w K mg base 5 C_Repeated "nearest_left" f_Repeated__nearest_left fd_Repeated__nearest_left ["self", "k"] S_Repeated__nearest_left) : FnG P w K mg base 6 f fd ["self", "k", "right"] S_Repeated__weaker :=
  fnG (k := 5) (m := 3) F sc_Repeated__weaker rfl fun cdv A outer s H E hgd hr => by
    have ft : Fit (cxG P w K mg base ["self", "k", "right"] "Repeated.weaker" (defScope s_Repeated__weaker) f cdv A outer s H E) (fun cls d _ H => E cls d H) 5 := ⟨hgd, hr, takes_of rfl rfl rfl rfl⟩
    have hp : PassesOwn (model P w) (cxG P w K mg base ["self", "k", "right"] "Repeated.weaker" (defScope s_Repeated__weaker) f cdv A outer s H E).A (cxG P w K mg base ["self", "k", "right"] "Repeated.weaker" (defScope s_Repeated__weaker) f cdv A outer s H E).env (cxG P w K mg base ["self", "k", "right"] "Repeated.weaker" (defScope s_Repeated__weaker) f cdv A outer s H E).xe := passes_of rfl
    exact (B_c (S_ex (E_methV rC_Repeated cl_Repeated M_Repeated__need ft (E_loc 0) (A_c (E_loc 1) A_0)))
    (B_1 (S_ret (E_if (T_v (E_loc 2)) (E_meth rC_Repeated cl_Repeated M_Repeated__nearest_right ft (E_loc 0) (A_c (E_loc 1) A_0)) (E_meth rC_Repeated cl_Repeated M_Repeated__nearest_left ft (E_loc 0) (A_c (E_loc 1) A_0))))))
theorem ok__law_moves_right {f : Addr} {fd : FuncData} (F : Fun K "_law_moves_right" "_law_moves_right" s__law_moves_right f fd) (z_len : mg "len" = none) {C_Repeated : Addr} (rC_Repeated : reg K "Repeated" = some C_Repeated) (cl_Repeated : Cls K C_Repeated) {f_Repeated__weaker : Addr} {fd_Repeated__weaker : FuncData} (M_Repeated__weaker : MDefK P w K mg base 6 C_Repeated "weaker" f_Repeated__weaker fd_Repeated__weaker ["self", "k", "right"] S_Repeated__weaker 2 ["right"] [0, 1, 2] [V.bl false]) {p_Repeated__size f_Repeated__size : Addr} {fd_Repeated__size : FuncData} (P_Repeated__size : PDef P w K mg base 1 C_Repeated "size" p_Repeated__size f_Repeated__size fd_Repeated__size S_Repeated__size) : FnG P w K mg base 7 f fd ["_law_thing", "_law_row", "_law_k", "_law_turns"] S__law_moves_right :=
  fnG (k := 6) (m := 7) F sc__law_moves_right rfl fun cdv A outer s H E hgd hr => by
    have ft : Fit (cxG P w K mg base ["_law_thing", "_law_row", "_law_k", "_law_turns", "_law_shift", "_law_before", "_law_after"] "_law_moves_right" (defScope s__law_moves_right) f cdv A outer s H E) (fun cls d _ H => E cls d H) 6 := ⟨hgd, hr, takes_of rfl rfl rfl rfl⟩
    have hp : PassesOwn (model P w) (cxG P w K mg base ["_law_thing", "_law_row", "_law_k", "_law_turns", "_law_shift", "_law_before", "_law_after"] "_law_moves_right" (defScope s__law_moves_right) f cdv A outer s H E).A (cxG P w K mg base ["_law_thing", "_law_row", "_law_k", "_law_turns", "_law_shift", "_law_before", "_law_after"] "_law_moves_right" (defScope s__law_moves_right) f cdv A outer s H E).env (cxG P w K mg base ["_law_thing", "_law_row", "_law_k", "_law_turns", "_law_shift", "_law_before", "_law_after"] "_law_moves_right" (defScope s__law_moves_right) f cdv A outer s H E).xe := passes_of rfl
    exact (B_c (S_set (i := 4) (E_op opd_hMulT (E_loc 3) (E_blF snd_len call_lenA z_len (A_c (E_loc 1) A_0))) sc__law_moves_right.nd)
    (B_c (S_set (i := 5) (E_T (A_c (E_methD rC_Repeated cl_Repeated M_Repeated__weaker ft (E_loc 0) (A_c (E_loc 2) A_0)) (A_c (E_methK rC_Repeated cl_Repeated M_Repeated__weaker ft (E_loc 0) (A_c (E_loc 2) A_0) (K_c E_bl K_0)) A_0))) sc__law_moves_right.nd)
    (B_c (S_set (i := 6) (E_T (A_c (E_methD rC_Repeated cl_Repeated M_Repeated__weaker ft (E_loc 0) (A_c (E_op opd_hAdd (E_loc 2) (E_loc 4)) A_0)) (A_c (E_methK rC_Repeated cl_Repeated M_Repeated__weaker ft (E_loc 0) (A_c (E_op opd_hAdd (E_loc 2) (E_loc 4)) A_0) (K_c E_bl K_0)) A_0))) sc__law_moves_right.nd)
    (B_c (S_if (PW.pt (W_and (T_cmp opd_notN (E_idx (E_loc 5) E_int) E_non) (W_and1 (T_cmp (opd_ne ft.room.units) (E_idx (E_loc 6) E_int) (E_op opd_hAdd (E_idx (E_loc 5) E_int) (E_loc 4)))))) (B_1 (S_ret E_bl)) B_0)
    (B_c (S_if (PW.pt (W_and (T_cmp opd_notN (E_idx (E_loc 6) E_int) E_non) (W_and1 (T_cmp (opd_ne ft.room.units) (E_idx (E_loc 5) E_int) (E_op opd_subI (E_idx (E_loc 6) E_int) (E_loc 4)))))) (B_1 (S_ret E_bl)) B_0)
    (B_c (S_if (PW.pt (W_and (T_cmp opd_notN (E_idx (E_loc 5) E_int) E_non) (W_and (T_cmp (opd_ltA ft.room.units) (E_op opd_hAdd (E_idx (E_loc 5) E_int) (E_loc 4)) (E_prop rC_Repeated cl_Repeated P_Repeated__size ft (E_loc 0))) (W_and1 (T_cmp opd_isN (E_idx (E_loc 6) E_int) E_non))))) (B_1 (S_ret E_bl)) B_0)
    (B_1 (S_ret (E_or (E_cmp opd_notN (E_idx (E_loc 5) E_int) E_non) (E_one (E_cmp opd_isN (E_idx (E_loc 6) E_int) E_non)))))))))))
theorem ok_law {f : Addr} {fd : FuncData} (F : Fun K "law" "law" s_law f fd) (z_len : mg "len" = none) (z_min : mg "min" = none) (z_range : mg "range" = none) {C_Repeated : Addr} (rC_Repeated : reg K "Repeated" = some C_Repeated) (cl_Repeated : Cls K C_Repeated) {f__law_pen : Addr} {fd__law_pen : FuncData} (D__law_pen : Def P w K mg base 1 "_law_pen" f__law_pen fd__law_pen ["_law_script"] S__law_pen) {f__law_even_block : Addr} {fd__law_even_block : FuncData} (D__law_even_block : Def P w K mg base 3 "_law_even_block" f__law_even_block fd__law_even_block ["_law_pen_here"] S__law_even_block) {f__law_great_number : Addr} {fd__law_great_number : FuncData} (D__law_great_number : Def P w K mg base 2 "_law_great_number" f__law_great_number fd__law_great_number ["_law_pen_here"] S__law_great_number) {f_Repeated____init__ : Addr} {fd_Repeated____init__ : FuncData} (I_Repeated : IDef P w K mg base 7 "Repeated" C_Repeated f_Repeated____init__ fd_Repeated____init__ ["self", "table", "block", "times"] S_Repeated____init__) {f__law_draw : Addr} {fd__law_draw : FuncData} (D__law_draw : Def P w K mg base 1 "_law_draw" f__law_draw fd__law_draw ["_law_pen_here", "_law_count"] S__law_draw) {f__law_moves_right : Addr} {fd__law_moves_right : FuncData} (D__law_moves_right : Def P w K mg base 7 "_law_moves_right" f__law_moves_right fd__law_moves_right ["_law_thing", "_law_row", "_law_k", "_law_turns"] S__law_moves_right) {f_Repeated__strength_of : Addr} {fd_Repeated__strength_of : FuncData} (M_Repeated__strength_of : MDef P w K mg base 4 C_Repeated "strength_of" f_Repeated__strength_of fd_Repeated__strength_of ["self", "k"] S_Repeated__strength_of) : FnG P w K mg base 9 f fd ["_law_script"] S_law :=
  fnG (k := 8) (m := 13) F sc_law rfl fun cdv A outer s H E hgd hr => by
    have ft : Fit (cxG P w K mg base ["_law_script", "_law_pen_here", "_law_lap", "_law_entries_here", "_law_row", "_law_loss", "_law_many", "_law_thing", "_law_turn", "_law_turns", "_law_places", "_law_k", "_law_later"] "law" (defScope s_law) f cdv A outer s H E) (fun cls d _ H => E cls d H) 8 := ⟨hgd, hr, takes_of rfl rfl rfl rfl⟩
    have hp : PassesOwn (model P w) (cxG P w K mg base ["_law_script", "_law_pen_here", "_law_lap", "_law_entries_here", "_law_row", "_law_loss", "_law_many", "_law_thing", "_law_turn", "_law_turns", "_law_places", "_law_k", "_law_later"] "law" (defScope s_law) f cdv A outer s H E).A (cxG P w K mg base ["_law_script", "_law_pen_here", "_law_lap", "_law_entries_here", "_law_row", "_law_loss", "_law_many", "_law_thing", "_law_turn", "_law_turns", "_law_places", "_law_k", "_law_later"] "law" (defScope s_law) f cdv A outer s H E).env (cxG P w K mg base ["_law_script", "_law_pen_here", "_law_lap", "_law_entries_here", "_law_row", "_law_loss", "_law_many", "_law_thing", "_law_turn", "_law_turns", "_law_places", "_law_k", "_law_later"] "law" (defScope s_law) f cdv A outer s H E).xe := passes_of rfl
    exact (B_c (S_set (i := 1) (E_call D__law_pen ft (A_c (E_loc 0) A_0)) sc_law.nd)
    (B_c (S_for hp (I_r1 z_range E_int) (G_n (i := 2) sc_law.nd) (B_c (S_tg (E_call D__law_even_block ft (A_c (E_loc 1) A_0)) (G_t (Gs_c (G_n (i := 3) sc_law.nd) (Gs_c (G_n (i := 4) sc_law.nd) (Gs_c (G_n (i := 5) sc_law.nd) Gs_0)))))
    (B_c (S_set (i := 6) (E_call D__law_great_number ft (A_c (E_loc 1) A_0)) sc_law.nd)
    (B_c (S_set (i := 7) (E_make rC_Repeated I_Repeated ft (A_c (E_loc 3) (A_c (E_loc 4) (A_c (E_loc 6) A_0)))) sc_law.nd)
    (B_1 (S_for hp (I_r1 z_range E_int) (G_n (i := 8) sc_law.nd) (B_c (S_set (i := 9) (E_idx (E_L (A_c E_int (A_c (E_call D__law_draw ft (A_c (E_loc 1) (A_c (E_loc 6) A_0))) (A_c (E_op opd_subI (E_loc 6) E_int) (A_c (E_blF snd_min2 (call_min2 rfl) z_min (A_c (E_op opd_subI (E_loc 6) E_int) (A_c E_int A_0))) A_0))))) (E_call D__law_draw ft (A_c (E_loc 1) (A_c E_int A_0)))) sc_law.nd)
    (B_c (S_set (i := 9) (E_blF snd_min2 (call_min2 rfl) z_min (A_c (E_loc 9) (A_c (E_op opd_subI (E_loc 6) E_int) A_0))) sc_law.nd)
    (B_c (S_set (i := 10) (E_idx (E_L (A_c (E_blF snd_len call_lenA z_len (A_c (E_loc 4) A_0)) (A_c (E_op opd_hMulT (E_blF snd_len call_lenA z_len (A_c (E_loc 4) A_0)) (E_op opd_subI (E_loc 6) (E_loc 9))) A_0))) (E_call D__law_draw ft (A_c (E_loc 1) (A_c E_int A_0)))) sc_law.nd)
    (B_c (S_set (i := 11) (E_call D__law_draw ft (A_c (E_loc 1) (A_c (E_loc 10) A_0))) sc_law.nd)
    (B_c (S_if (T_not (T_v (E_call D__law_moves_right ft (A_c (E_loc 7) (A_c (E_loc 4) (A_c (E_loc 11) (A_c (E_loc 9) A_0))))))) (B_1 (S_ret E_bl)) B_0)
    (B_c (S_set (i := 12) (E_op opd_hAdd (E_loc 11) (E_op opd_hMulT (E_loc 9) (E_blF snd_len call_lenA z_len (A_c (E_loc 4) A_0)))) sc_law.nd)
    (B_1 (S_if (T_cmp (opd_ne ft.room.units) (E_op opd_subI (E_meth rC_Repeated cl_Repeated M_Repeated__strength_of ft (E_loc 7) (A_c (E_loc 11) A_0)) (E_meth rC_Repeated cl_Repeated M_Repeated__strength_of ft (E_loc 7) (A_c (E_loc 12) A_0))) (E_op opd_hMulT (E_loc 9) (E_loc 5))) (B_1 (S_ret E_bl)) B_0))))))))))))))
    (B_1 (S_ret E_bl))))
theorem all_mk {P : Program} {w : World} {K : PySem.W.Frag} {h : Heap} {mg : Str → Option Value} {fa f0 f1 f2 f3 f4 f5 f6 f7 f8 f9 f10 f11 f12 f13 f14 f15 f16 f17 f18 f19 f20 f21 f22 f23 : Addr} (KX : K.In h) (G : h.Ns mainGlobals mg) (hfa : mg "law" = some (.ref fa))
    {C_Place : Addr} (aK_Place : PySem.W.nsIn K mainGlobals "Place" = some (some (.ref C_Place))) (pg_Place : PySem.W.plainGet K C_Place Str.empty = true) (hd_Place : PySem.W.hasDictIn K C_Place = true) (po_Place : PySem.W.plainOver K C_Place = true) (sa_Place : PySem.W.findIn K (.ref C_Place) "__setattr__" = some (some (.builtin "object.__setattr__"))) (mk_Place : PySem.W.makesIn K C_Place = true) (kc_Place : PySem.W.keepIn K (.ref C_Place) = true)
    {C_Repeated : Addr} (aK_Repeated : PySem.W.nsIn K mainGlobals "Repeated" = some (some (.ref C_Repeated))) (pg_Repeated : PySem.W.plainGet K C_Repeated Str.empty = true) (hd_Repeated : PySem.W.hasDictIn K C_Repeated = true) (po_Repeated : PySem.W.plainOver K C_Repeated = true) (sa_Repeated : PySem.W.findIn K (.ref C_Repeated) "__setattr__" = some (some (.builtin "object.__setattr__"))) (mk_Repeated : PySem.W.makesIn K C_Repeated = true) (kc_Repeated : PySem.W.keepIn K (.ref C_Repeated) = true)
    (nf_Place_first_strength : PySem.W.findIn K (.ref C_Place) "first_strength" = some none)
    (nf_Place_first_use : PySem.W.findIn K (.ref C_Place) "first_use" = some none)
    (nf_Place_loss : PySem.W.findIn K (.ref C_Place) "loss" = some none)
    (nf_Place_mark : PySem.W.findIn K (.ref C_Place) "mark" = some none)
    (nf_Place_uses : PySem.W.findIn K (.ref C_Place) "uses" = some none)
    (nf_Repeated_origin : PySem.W.findIn K (.ref C_Repeated) "origin" = some none)
    (nf_Repeated_pattern : PySem.W.findIn K (.ref C_Repeated) "pattern" = some none)
    (nf_Repeated_places : PySem.W.findIn K (.ref C_Repeated) "places" = some none)
    (nf_Repeated_repetitions : PySem.W.findIn K (.ref C_Repeated) "repetitions" = some none)
    {tc_Repeated_MOST_TIMES : Tok} (ca_Repeated_MOST_TIMES : PySem.W.findIn K (.ref C_Repeated) "MOST_TIMES" = some (some (.int 1000000000000000000000000000000 tc_Repeated_MOST_TIMES))) (cg_Repeated_MOST_TIMES : PySem.W.specialIn K (.int 1000000000000000000000000000000 tc_Repeated_MOST_TIMES) "__get__" = some none)
    {od0 an0 : Option Addr} {sl0 : Array (Option Value)} {oc0 kV0 dc0 pm0 cd0 ct0 : Value} (a0 : PySem.W.nsIn K mainGlobals "_law_pen" = some (some (.ref f0))) (l0 : K.lookup f0 = some ⟨oc0, od0, .func (PySem.W.fnOf "_law_pen" "_law_pen" (defArgs s__law_pen) (defBody s__law_pen) (defScope s__law_pen) .none kV0 dc0 pm0 an0 cd0 ct0), sl0⟩) (c0 : PySem.W.codeIn K cd0 "_law_pen" = true) (k0 : PySem.W.keepIn K (.ref f0) = true)
    {od1 an1 : Option Addr} {sl1 : Array (Option Value)} {oc1 kV1 dc1 pm1 cd1 ct1 : Value} (a1 : PySem.W.nsIn K mainGlobals "_law_draw" = some (some (.ref f1))) (l1 : K.lookup f1 = some ⟨oc1, od1, .func (PySem.W.fnOf "_law_draw" "_law_draw" (defArgs s__law_draw) (defBody s__law_draw) (defScope s__law_draw) .none kV1 dc1 pm1 an1 cd1 ct1), sl1⟩) (c1 : PySem.W.codeIn K cd1 "_law_draw" = true) (k1 : PySem.W.keepIn K (.ref f1) = true)
    {od2 an2 : Option Addr} {sl2 : Array (Option Value)} {oc2 kV2 dc2 pm2 cd2 ct2 : Value} (a2 : PySem.W.nsIn K mainGlobals "_law_number" = some (some (.ref f2))) (l2 : K.lookup f2 = some ⟨oc2, od2, .func (PySem.W.fnOf "_law_number" "_law_number" (defArgs s__law_number) (defBody s__law_number) (defScope s__law_number) .none kV2 dc2 pm2 an2 cd2 ct2), sl2⟩) (c2 : PySem.W.codeIn K cd2 "_law_number" = true) (k2 : PySem.W.keepIn K (.ref f2) = true)
    {od3 an3 : Option Addr} {sl3 : Array (Option Value)} {oc3 kV3 dc3 pm3 cd3 ct3 : Value} (a3 : PySem.W.nsIn K mainGlobals "_law_even_block" = some (some (.ref f3))) (l3 : K.lookup f3 = some ⟨oc3, od3, .func (PySem.W.fnOf "_law_even_block" "_law_even_block" (defArgs s__law_even_block) (defBody s__law_even_block) (defScope s__law_even_block) .none kV3 dc3 pm3 an3 cd3 ct3), sl3⟩) (c3 : PySem.W.codeIn K cd3 "_law_even_block" = true) (k3 : PySem.W.keepIn K (.ref f3) = true)
    {od4 an4 : Option Addr} {sl4 : Array (Option Value)} {oc4 kV4 dc4 pm4 cd4 ct4 : Value} (a4 : PySem.W.nsIn K mainGlobals "_law_great_number" = some (some (.ref f4))) (l4 : K.lookup f4 = some ⟨oc4, od4, .func (PySem.W.fnOf "_law_great_number" "_law_great_number" (defArgs s__law_great_number) (defBody s__law_great_number) (defScope s__law_great_number) .none kV4 dc4 pm4 an4 cd4 ct4), sl4⟩) (c4 : PySem.W.codeIn K cd4 "_law_great_number" = true) (k4 : PySem.W.keepIn K (.ref f4) = true)
    {od5 an5 : Option Addr} {sl5 : Array (Option Value)} {oc5 kV5 dc5 pm5 cd5 ct5 : Value} (a5 : PySem.W.findIn K (.ref C_Place) "__init__" = some (some (.ref f5))) (i5 : PySem.W.isFn K (.ref f5) = true) (l5 : K.lookup f5 = some ⟨oc5, od5, .func (PySem.W.fnOf "__init__" "Place.__init__" (defArgs s_Place____init__) (defBody s_Place____init__) (defScope s_Place____init__) .none kV5 dc5 pm5 an5 cd5 ct5), sl5⟩) (c5 : PySem.W.codeIn K cd5 "Place.__init__" = true) (k5 : PySem.W.keepIn K (.ref f5) = true)
    {od6 an6 : Option Addr} {sl6 : Array (Option Value)} {oc6 kV6 dc6 pm6 cd6 ct6 : Value} (a6 : PySem.W.nsIn K mainGlobals "places_of" = some (some (.ref f6))) (l6 : K.lookup f6 = some ⟨oc6, od6, .func (PySem.W.fnOf "places_of" "places_of" (defArgs s_places_of) (defBody s_places_of) (defScope s_places_of) .none kV6 dc6 pm6 an6 cd6 ct6), sl6⟩) (c6 : PySem.W.codeIn K cd6 "places_of" = true) (k6 : PySem.W.keepIn K (.ref f6) = true)
    {od7 an7 : Option Addr} {sl7 : Array (Option Value)} {oc7 kV7 dc7 pm7 cd7 ct7 : Value} {p7 : Addr} {rs7 : List Value} (a7 : PySem.W.findIn K (.ref C_Repeated) "table" = some (some (.ref p7))) {v7 : Value} (r7 : PySem.W.recIn K p7 "property" = some (v7 :: .ref f7 :: rs7)) (g7 : PySem.W.takerIn K C_Repeated "table" = some (some (.ref p7))) (w7 : PySem.W.typeIn K (.ref p7) = some (.type "property")) (l7 : K.lookup f7 = some ⟨oc7, od7, .func (PySem.W.fnOf "table" "Repeated.table" (defArgs s_Repeated__table__set) (defBody s_Repeated__table__set) (defScope s_Repeated__table__set) .none kV7 dc7 pm7 an7 cd7 ct7), sl7⟩) (c7 : PySem.W.codeIn K cd7 "Repeated.table" = true) (k7 : PySem.W.keepIn K (.ref f7) = true)
    {od8 an8 : Option Addr} {sl8 : Array (Option Value)} {oc8 kV8 dc8 pm8 cd8 ct8 : Value} (a8 : PySem.W.nsIn K mainGlobals "is_integer" = some (some (.ref f8))) (l8 : K.lookup f8 = some ⟨oc8, od8, .func (PySem.W.fnOf "is_integer" "is_integer" (defArgs s_is_integer) (defBody s_is_integer) (defScope s_is_integer) .none kV8 dc8 pm8 an8 cd8 ct8), sl8⟩) (c8 : PySem.W.codeIn K cd8 "is_integer" = true) (k8 : PySem.W.keepIn K (.ref f8) = true)
    {od9 an9 : Option Addr} {sl9 : Array (Option Value)} {oc9 kV9 dc9 pm9 cd9 ct9 : Value} (a9 : PySem.W.nsIn K mainGlobals "is_between" = some (some (.ref f9))) (l9 : K.lookup f9 = some ⟨oc9, od9, .func (PySem.W.fnOf "is_between" "is_between" (defArgs s_is_between) (defBody s_is_between) (defScope s_is_between) .none kV9 dc9 pm9 an9 cd9 ct9), sl9⟩) (c9 : PySem.W.codeIn K cd9 "is_between" = true) (k9 : PySem.W.keepIn K (.ref f9) = true)
    {od10 an10 : Option Addr} {sl10 : Array (Option Value)} {oc10 kV10 dc10 pm10 cd10 ct10 : Value} {p10 : Addr} {rs10 : List Value} (a10 : PySem.W.findIn K (.ref C_Repeated) "times" = some (some (.ref p10))) {v10 : Value} (r10 : PySem.W.recIn K p10 "property" = some (v10 :: .ref f10 :: rs10)) (g10 : PySem.W.takerIn K C_Repeated "times" = some (some (.ref p10))) (w10 : PySem.W.typeIn K (.ref p10) = some (.type "property")) (l10 : K.lookup f10 = some ⟨oc10, od10, .func (PySem.W.fnOf "times" "Repeated.times" (defArgs s_Repeated__times__set) (defBody s_Repeated__times__set) (defScope s_Repeated__times__set) .none kV10 dc10 pm10 an10 cd10 ct10), sl10⟩) (c10 : PySem.W.codeIn K cd10 "Repeated.times" = true) (k10 : PySem.W.keepIn K (.ref f10) = true)
    {od11 an11 : Option Addr} {sl11 : Array (Option Value)} {oc11 kV11 dc11 pm11 cd11 ct11 : Value} (a11 : PySem.W.findIn K (.ref C_Repeated) "__init__" = some (some (.ref f11))) (i11 : PySem.W.isFn K (.ref f11) = true) (l11 : K.lookup f11 = some ⟨oc11, od11, .func (PySem.W.fnOf "__init__" "Repeated.__init__" (defArgs s_Repeated____init__) (defBody s_Repeated____init__) (defScope s_Repeated____init__) .none kV11 dc11 pm11 an11 cd11 ct11), sl11⟩) (c11 : PySem.W.codeIn K cd11 "Repeated.__init__" = true) (k11 : PySem.W.keepIn K (.ref f11) = true)
    {od12 an12 : Option Addr} {sl12 : Array (Option Value)} {oc12 kV12 dc12 pm12 cd12 ct12 : Value} {p12 : Addr} {rs12 : List Value} (a12 : PySem.W.findIn K (.ref C_Repeated) "size" = some (some (.ref p12))) (r12 : PySem.W.recIn K p12 "property" = some (.ref f12 :: rs12)) (g12 : PySem.W.specialIn K (.ref p12) "__get__" = some (some (.builtin "property.__get__"))) (w12 : PySem.W.takesIn K (.ref p12) = some true) (l12 : K.lookup f12 = some ⟨oc12, od12, .func (PySem.W.fnOf "size" "Repeated.size" (defArgs s_Repeated__size) (defBody s_Repeated__size) (defScope s_Repeated__size) .none kV12 dc12 pm12 an12 cd12 ct12), sl12⟩) (c12 : PySem.W.codeIn K cd12 "Repeated.size" = true) (k12 : PySem.W.keepIn K (.ref f12) = true)
    {od13 an13 : Option Addr} {sl13 : Array (Option Value)} {oc13 kV13 dc13 pm13 cd13 ct13 : Value} (a13 : PySem.W.findIn K (.ref C_Repeated) "need" = some (some (.ref f13))) (i13 : PySem.W.isFn K (.ref f13) = true) (l13 : K.lookup f13 = some ⟨oc13, od13, .func (PySem.W.fnOf "need" "Repeated.need" (defArgs s_Repeated__need) (defBody s_Repeated__need) (defScope s_Repeated__need) .none kV13 dc13 pm13 an13 cd13 ct13), sl13⟩) (c13 : PySem.W.codeIn K cd13 "Repeated.need" = true) (k13 : PySem.W.keepIn K (.ref f13) = true)
    {od14 an14 : Option Addr} {sl14 : Array (Option Value)} {oc14 kV14 dc14 pm14 cd14 ct14 : Value} (a14 : PySem.W.findIn K (.ref C_Repeated) "at" = some (some (.ref f14))) (i14 : PySem.W.isFn K (.ref f14) = true) (l14 : K.lookup f14 = some ⟨oc14, od14, .func (PySem.W.fnOf "at" "Repeated.at" (defArgs s_Repeated__at) (defBody s_Repeated__at) (defScope s_Repeated__at) .none kV14 dc14 pm14 an14 cd14 ct14), sl14⟩) (c14 : PySem.W.codeIn K cd14 "Repeated.at" = true) (k14 : PySem.W.keepIn K (.ref f14) = true)
    {od15 an15 : Option Addr} {sl15 : Array (Option Value)} {oc15 kV15 dc15 pm15 cd15 ct15 : Value} (a15 : PySem.W.findIn K (.ref C_Place) "strength" = some (some (.ref f15))) (i15 : PySem.W.isFn K (.ref f15) = true) (l15 : K.lookup f15 = some ⟨oc15, od15, .func (PySem.W.fnOf "strength" "Place.strength" (defArgs s_Place__strength) (defBody s_Place__strength) (defScope s_Place__strength) .none kV15 dc15 pm15 an15 cd15 ct15), sl15⟩) (c15 : PySem.W.codeIn K cd15 "Place.strength" = true) (k15 : PySem.W.keepIn K (.ref f15) = true)
    {od16 an16 : Option Addr} {sl16 : Array (Option Value)} {oc16 kV16 dc16 pm16 cd16 ct16 : Value} (a16 : PySem.W.findIn K (.ref C_Repeated) "strength_of" = some (some (.ref f16))) (i16 : PySem.W.isFn K (.ref f16) = true) (l16 : K.lookup f16 = some ⟨oc16, od16, .func (PySem.W.fnOf "strength_of" "Repeated.strength_of" (defArgs s_Repeated__strength_of) (defBody s_Repeated__strength_of) (defScope s_Repeated__strength_of) .none kV16 dc16 pm16 an16 cd16 ct16), sl16⟩) (c16 : PySem.W.codeIn K cd16 "Repeated.strength_of" = true) (k16 : PySem.W.keepIn K (.ref f16) = true)
    {od17 an17 : Option Addr} {sl17 : Array (Option Value)} {oc17 kV17 dc17 pm17 cd17 ct17 : Value} (a17 : PySem.W.nsIn K mainGlobals "least_at_most" = some (some (.ref f17))) (l17 : K.lookup f17 = some ⟨oc17, od17, .func (PySem.W.fnOf "least_at_most" "least_at_most" (defArgs s_least_at_most) (defBody s_least_at_most) (defScope s_least_at_most) .none kV17 dc17 pm17 an17 cd17 ct17), sl17⟩) (c17 : PySem.W.codeIn K cd17 "least_at_most" = true) (k17 : PySem.W.keepIn K (.ref f17) = true)
    {od18 an18 : Option Addr} {sl18 : Array (Option Value)} {oc18 kV18 dc18 pm18 cd18 ct18 : Value} (a18 : PySem.W.findIn K (.ref C_Repeated) "nearest_right" = some (some (.ref f18))) (i18 : PySem.W.isFn K (.ref f18) = true) (l18 : K.lookup f18 = some ⟨oc18, od18, .func (PySem.W.fnOf "nearest_right" "Repeated.nearest_right" (defArgs s_Repeated__nearest_right) (defBody s_Repeated__nearest_right) (defScope s_Repeated__nearest_right) .none kV18 dc18 pm18 an18 cd18 ct18), sl18⟩) (c18 : PySem.W.codeIn K cd18 "Repeated.nearest_right" = true) (k18 : PySem.W.keepIn K (.ref f18) = true)
    {od19 an19 : Option Addr} {sl19 : Array (Option Value)} {oc19 kV19 dc19 pm19 cd19 ct19 : Value} (a19 : PySem.W.nsIn K mainGlobals "last_below" = some (some (.ref f19))) (l19 : K.lookup f19 = some ⟨oc19, od19, .func (PySem.W.fnOf "last_below" "last_below" (defArgs s_last_below) (defBody s_last_below) (defScope s_last_below) .none kV19 dc19 pm19 an19 cd19 ct19), sl19⟩) (c19 : PySem.W.codeIn K cd19 "last_below" = true) (k19 : PySem.W.keepIn K (.ref f19) = true)
    {od20 an20 : Option Addr} {sl20 : Array (Option Value)} {oc20 kV20 dc20 pm20 cd20 ct20 : Value} (a20 : PySem.W.findIn K (.ref C_Repeated) "nearest_left" = some (some (.ref f20))) (i20 : PySem.W.isFn K (.ref f20) = true) (l20 : K.lookup f20 = some ⟨oc20, od20, .func (PySem.W.fnOf "nearest_left" "Repeated.nearest_left" (defArgs s_Repeated__nearest_left) (defBody s_Repeated__nearest_left) (defScope s_Repeated__nearest_left) .none kV20 dc20 pm20 an20 cd20 ct20), sl20⟩) (c20 : PySem.W.codeIn K cd20 "Repeated.nearest_left" = true) (k20 : PySem.W.keepIn K (.ref f20) = true)
    {od21 an21 : Option Addr} {sl21 : Array (Option Value)} {oc21 dc21 pm21 cd21 ct21 : Value} {D21 : Addr} (a21 : PySem.W.findIn K (.ref C_Repeated) "weaker" = some (some (.ref f21))) (i21 : PySem.W.isFn K (.ref f21) = true) (l21 : K.lookup f21 = some ⟨oc21, od21, .func (PySem.W.fnOf "weaker" "Repeated.weaker" (defArgs s_Repeated__weaker) (defBody s_Repeated__weaker) (defScope s_Repeated__weaker) .none (.ref D21) dc21 pm21 an21 cd21 ct21), sl21⟩) (n21_0 : PySem.W.nsIn K D21 "right" = some (some (.bool false))) (c21 : PySem.W.codeIn K cd21 "Repeated.weaker" = true) (k21 : PySem.W.keepIn K (.ref f21) = true)
    {od22 an22 : Option Addr} {sl22 : Array (Option Value)} {oc22 kV22 dc22 pm22 cd22 ct22 : Value} (a22 : PySem.W.nsIn K mainGlobals "_law_moves_right" = some (some (.ref f22))) (l22 : K.lookup f22 = some ⟨oc22, od22, .func (PySem.W.fnOf "_law_moves_right" "_law_moves_right" (defArgs s__law_moves_right) (defBody s__law_moves_right) (defScope s__law_moves_right) .none kV22 dc22 pm22 an22 cd22 ct22), sl22⟩) (c22 : PySem.W.codeIn K cd22 "_law_moves_right" = true) (k22 : PySem.W.keepIn K (.ref f22) = true)
    {od23 an23 : Option Addr} {sl23 : Array (Option Value)} {oc23 kV23 dc23 pm23 cd23 ct23 : Value} (a23 : PySem.W.nsIn K mainGlobals "law" = some (some (.ref f23))) (l23 : K.lookup f23 = some ⟨oc23, od23, .func (PySem.W.fnOf "law" "law" (defArgs s_law) (defBody s_law) (defScope s_law) .none kV23 dc23 pm23 an23 cd23 ct23), sl23⟩) (c23 : PySem.W.codeIn K cd23 "law" = true) (k23 : PySem.W.keepIn K (.ref f23) = true)
    (z_abs : PySem.W.nsIn K mainGlobals "abs" = some none)
    (z_bool : PySem.W.nsIn K mainGlobals "bool" = some none)
    (z_divmod : PySem.W.nsIn K mainGlobals "divmod" = some none)
    (z_enumerate : PySem.W.nsIn K mainGlobals "enumerate" = some none)
    (z_int : PySem.W.nsIn K mainGlobals "int" = some none)
    (z_isinstance : PySem.W.nsIn K mainGlobals "isinstance" = some none)
    (z_len : PySem.W.nsIn K mainGlobals "len" = some none)
    (z_list : PySem.W.nsIn K mainGlobals "list" = some none)
    (z_max : PySem.W.nsIn K mainGlobals "max" = some none)
    (z_min : PySem.W.nsIn K mainGlobals "min" = some none)
    (z_range : PySem.W.nsIn K mainGlobals "range" = some none)
    (z_sorted : PySem.W.nsIn K mainGlobals "sorted" = some none)
    (z_sum : PySem.W.nsIn K mainGlobals "sum" = some none)
    (z_tuple : PySem.W.nsIn K mainGlobals "tuple" = some none)
    (z_zip : PySem.W.nsIn K mainGlobals "zip" = some none)
    {C_InvalidTimes C_NoOperator C_UnknownOperator C_WearError : Addr}
    (aC_InvalidTimes : PySem.W.nsIn K mainGlobals "InvalidTimes" = some (some (.ref C_InvalidTimes)))
    (ga_InvalidTimes : PySem.W.findIn K (.ref C_InvalidTimes) "__getattribute__" = some (some (.builtin "BaseException.__getattribute__")))
    (gg_InvalidTimes : PySem.W.findIn K (.ref C_InvalidTimes) "__getattr__" = some none)
    (eC_InvalidTimes : PySem.W.subIn K (.ref C_InvalidTimes) (.type "BaseException") = some true)
    (hC_InvalidTimes : PySem.W.hasDictIn K C_InvalidTimes = true)
    (ca_InvalidTimes : PySem.W.findIn K (.ref C_InvalidTimes) "__class__" = some (some (.builtin "object.__class__")))
    (mo_InvalidTimes : PySem.W.mroIn K C_InvalidTimes (.type "object") = some true)
    (tC_InvalidTimes : PySem.W.typeIn K (.ref C_InvalidTimes) = some (.type "type"))
    (aC_NoOperator : PySem.W.nsIn K mainGlobals "NoOperator" = some (some (.ref C_NoOperator)))
    (ga_NoOperator : PySem.W.findIn K (.ref C_NoOperator) "__getattribute__" = some (some (.builtin "BaseException.__getattribute__")))
    (gg_NoOperator : PySem.W.findIn K (.ref C_NoOperator) "__getattr__" = some none)
    (eC_NoOperator : PySem.W.subIn K (.ref C_NoOperator) (.type "BaseException") = some true)
    (hC_NoOperator : PySem.W.hasDictIn K C_NoOperator = true)
    (ca_NoOperator : PySem.W.findIn K (.ref C_NoOperator) "__class__" = some (some (.builtin "object.__class__")))
    (mo_NoOperator : PySem.W.mroIn K C_NoOperator (.type "object") = some true)
    (tC_NoOperator : PySem.W.typeIn K (.ref C_NoOperator) = some (.type "type"))
    (aC_UnknownOperator : PySem.W.nsIn K mainGlobals "UnknownOperator" = some (some (.ref C_UnknownOperator)))
    (ga_UnknownOperator : PySem.W.findIn K (.ref C_UnknownOperator) "__getattribute__" = some (some (.builtin "BaseException.__getattribute__")))
    (gg_UnknownOperator : PySem.W.findIn K (.ref C_UnknownOperator) "__getattr__" = some none)
    (eC_UnknownOperator : PySem.W.subIn K (.ref C_UnknownOperator) (.type "BaseException") = some true)
    (hC_UnknownOperator : PySem.W.hasDictIn K C_UnknownOperator = true)
    (ca_UnknownOperator : PySem.W.findIn K (.ref C_UnknownOperator) "__class__" = some (some (.builtin "object.__class__")))
    (mo_UnknownOperator : PySem.W.mroIn K C_UnknownOperator (.type "object") = some true)
    (tC_UnknownOperator : PySem.W.typeIn K (.ref C_UnknownOperator) = some (.type "type"))
    (aC_WearError : PySem.W.nsIn K mainGlobals "WearError" = some (some (.ref C_WearError)))
    (ga_WearError : PySem.W.findIn K (.ref C_WearError) "__getattribute__" = some (some (.builtin "BaseException.__getattribute__")))
    (gg_WearError : PySem.W.findIn K (.ref C_WearError) "__getattr__" = some none)
    (eC_WearError : PySem.W.subIn K (.ref C_WearError) (.type "BaseException") = some true)
    (hC_WearError : PySem.W.hasDictIn K C_WearError = true)
    (ca_WearError : PySem.W.findIn K (.ref C_WearError) "__class__" = some (some (.builtin "object.__class__")))
    (mo_WearError : PySem.W.mroIn K C_WearError (.type "object") = some true)
    (tC_WearError : PySem.W.typeIn K (.ref C_WearError) = some (.type "type"))
    (spX : PySem.W.specialIn K (.builtin "object.__class__") "__get__" = some (some (.builtin "getset_descriptor.__get__"))) (tkX : PySem.W.takesIn K (.builtin "object.__class__") = some true)
    {nm_InvalidTimes q_InvalidTimes : Str} {NN_InvalidTimes fI_InvalidTimes : Addr} {bs_InvalidTimes sub_InvalidTimes : List Value} {sn_InvalidTimes : List Str} {ab_InvalidTimes : Bool} {col_InvalidTimes : Option Bool} {dd_InvalidTimes : Option Addr} {m0_InvalidTimes m1_InvalidTimes m2_InvalidTimes m3_InvalidTimes m5_InvalidTimes : Option Value}
    (xL_InvalidTimes : K.lookup C_InvalidTimes = some (excClassObj nm_InvalidTimes q_InvalidTimes C_InvalidTimes NN_InvalidTimes bs_InvalidTimes [.ref C_WearError, .type "ValueError", .type "Exception", .type "BaseException", .type "object"] true sn_InvalidTimes sub_InvalidTimes ab_InvalidTimes col_InvalidTimes dd_InvalidTimes m0_InvalidTimes m1_InvalidTimes m2_InvalidTimes m3_InvalidTimes m5_InvalidTimes "ValueError.__new__"))
    (sa_InvalidTimes : PySem.W.findIn K (.ref C_InvalidTimes) "__setattr__" = some (some (.builtin "object.__setattr__")))
    (kC_InvalidTimes : PySem.W.keepIn K (.ref C_InvalidTimes) = true)
    (no_InvalidTimes : PySem.W.findIn K (.ref C_InvalidTimes) "value" = some none)
    (iC_InvalidTimes : PySem.W.findIn K (.ref C_InvalidTimes) "__init__" = some (some (.ref fI_InvalidTimes)))
    (tI_InvalidTimes : PySem.W.typeIn K (.ref fI_InvalidTimes) = some (.type "function"))
    {iod_InvalidTimes ian_InvalidTimes : Option Addr} {isl_InvalidTimes : Array (Option Value)} {ioc_InvalidTimes ikV_InvalidTimes idc_InvalidTimes ipm_InvalidTimes icd_InvalidTimes ict_InvalidTimes : Value} (il_InvalidTimes : K.lookup fI_InvalidTimes = some ⟨ioc_InvalidTimes, iod_InvalidTimes, .func (PySem.W.fnOf "__init__" "InvalidTimes.__init__" (defArgs i_InvalidTimes) (defBody i_InvalidTimes) (defScope i_InvalidTimes) .none ikV_InvalidTimes idc_InvalidTimes ipm_InvalidTimes ian_InvalidTimes icd_InvalidTimes ict_InvalidTimes), isl_InvalidTimes⟩) (ic_InvalidTimes : PySem.W.codeIn K icd_InvalidTimes "InvalidTimes.__init__" = true) (ik_InvalidTimes : PySem.W.keepIn K (.ref fI_InvalidTimes) = true)
    {nm_NoOperator q_NoOperator : Str} {NN_NoOperator fI_NoOperator : Addr} {bs_NoOperator sub_NoOperator : List Value} {sn_NoOperator : List Str} {ab_NoOperator : Bool} {col_NoOperator : Option Bool} {dd_NoOperator : Option Addr} {m0_NoOperator m1_NoOperator m2_NoOperator m3_NoOperator m5_NoOperator : Option Value}
    (xL_NoOperator : K.lookup C_NoOperator = some (excClassObj nm_NoOperator q_NoOperator C_NoOperator NN_NoOperator bs_NoOperator [.type "IndexError", .type "LookupError", .type "Exception", .type "BaseException", .type "object"] true sn_NoOperator sub_NoOperator ab_NoOperator col_NoOperator dd_NoOperator m0_NoOperator m1_NoOperator m2_NoOperator m3_NoOperator m5_NoOperator "IndexError.__new__"))
    (sa_NoOperator : PySem.W.findIn K (.ref C_NoOperator) "__setattr__" = some (some (.builtin "object.__setattr__")))
    (kC_NoOperator : PySem.W.keepIn K (.ref C_NoOperator) = true)
    (no_NoOperator : PySem.W.findIn K (.ref C_NoOperator) "index" = some none)
    (iC_NoOperator : PySem.W.findIn K (.ref C_NoOperator) "__init__" = some (some (.ref fI_NoOperator)))
    (tI_NoOperator : PySem.W.typeIn K (.ref fI_NoOperator) = some (.type "function"))
    {iod_NoOperator ian_NoOperator : Option Addr} {isl_NoOperator : Array (Option Value)} {ioc_NoOperator ikV_NoOperator idc_NoOperator ipm_NoOperator icd_NoOperator ict_NoOperator : Value} (il_NoOperator : K.lookup fI_NoOperator = some ⟨ioc_NoOperator, iod_NoOperator, .func (PySem.W.fnOf "__init__" "NoOperator.__init__" (defArgs i_NoOperator) (defBody i_NoOperator) (defScope i_NoOperator) .none ikV_NoOperator idc_NoOperator ipm_NoOperator ian_NoOperator icd_NoOperator ict_NoOperator), isl_NoOperator⟩) (ic_NoOperator : PySem.W.codeIn K icd_NoOperator "NoOperator.__init__" = true) (ik_NoOperator : PySem.W.keepIn K (.ref fI_NoOperator) = true)
    {nm_UnknownOperator q_UnknownOperator : Str} {NN_UnknownOperator fI_UnknownOperator : Addr} {bs_UnknownOperator sub_UnknownOperator : List Value} {sn_UnknownOperator : List Str} {ab_UnknownOperator : Bool} {col_UnknownOperator : Option Bool} {dd_UnknownOperator : Option Addr} {m0_UnknownOperator m1_UnknownOperator m2_UnknownOperator m3_UnknownOperator m5_UnknownOperator : Option Value}
    (xL_UnknownOperator : K.lookup C_UnknownOperator = some (excClassObj nm_UnknownOperator q_UnknownOperator C_UnknownOperator NN_UnknownOperator bs_UnknownOperator [.type "KeyError", .type "LookupError", .type "Exception", .type "BaseException", .type "object"] true sn_UnknownOperator sub_UnknownOperator ab_UnknownOperator col_UnknownOperator dd_UnknownOperator m0_UnknownOperator m1_UnknownOperator m2_UnknownOperator m3_UnknownOperator m5_UnknownOperator "LookupError.__new__"))
    (sa_UnknownOperator : PySem.W.findIn K (.ref C_UnknownOperator) "__setattr__" = some (some (.builtin "object.__setattr__")))
    (kC_UnknownOperator : PySem.W.keepIn K (.ref C_UnknownOperator) = true)
    (no_UnknownOperator : PySem.W.findIn K (.ref C_UnknownOperator) "letter" = some none)
    (iC_UnknownOperator : PySem.W.findIn K (.ref C_UnknownOperator) "__init__" = some (some (.ref fI_UnknownOperator)))
    (tI_UnknownOperator : PySem.W.typeIn K (.ref fI_UnknownOperator) = some (.type "function"))
    {iod_UnknownOperator ian_UnknownOperator : Option Addr} {isl_UnknownOperator : Array (Option Value)} {ioc_UnknownOperator ikV_UnknownOperator idc_UnknownOperator ipm_UnknownOperator icd_UnknownOperator ict_UnknownOperator : Value} (il_UnknownOperator : K.lookup fI_UnknownOperator = some ⟨ioc_UnknownOperator, iod_UnknownOperator, .func (PySem.W.fnOf "__init__" "UnknownOperator.__init__" (defArgs i_UnknownOperator) (defBody i_UnknownOperator) (defScope i_UnknownOperator) .none ikV_UnknownOperator idc_UnknownOperator ipm_UnknownOperator ian_UnknownOperator icd_UnknownOperator ict_UnknownOperator), isl_UnknownOperator⟩) (ic_UnknownOperator : PySem.W.codeIn K icd_UnknownOperator "UnknownOperator.__init__" = true) (ik_UnknownOperator : PySem.W.keepIn K (.ref fI_UnknownOperator) = true) :
    ∃ fd : FuncData, (∀ (s : Shared) (u : Value), BindsTo s fd ⟨[u], []⟩ [("_law_script", u)]) ∧ ∀ base : Heap, K.In base → base.Ns mainGlobals mg → TBs K mg base → FnG P w K mg base 9 fa fd ["_law_script"] S_law := by
  have e := hfa.symm.trans (PySem.W.mg_of KX G a23)
  cases e
  have F0 := fun_mk (st := s__law_pen) l0 c0 k0
  have F1 := fun_mk (st := s__law_draw) l1 c1 k1
  have F2 := fun_mk (st := s__law_number) l2 c2 k2
  have F3 := fun_mk (st := s__law_even_block) l3 c3 k3
  have F4 := fun_mk (st := s__law_great_number) l4 c4 k4
  have F5 := fun_mk (st := s_Place____init__) l5 c5 k5
  have F6 := fun_mk (st := s_places_of) l6 c6 k6
  have F7 := fun_mk (st := s_Repeated__table__set) l7 c7 k7
  have F8 := fun_mk (st := s_is_integer) l8 c8 k8
  have F9 := fun_mk (st := s_is_between) l9 c9 k9
  have F10 := fun_mk (st := s_Repeated__times__set) l10 c10 k10
  have F11 := fun_mk (st := s_Repeated____init__) l11 c11 k11
  have F12 := fun_mk (st := s_Repeated__size) l12 c12 k12
  have F13 := fun_mk (st := s_Repeated__need) l13 c13 k13
  have F14 := fun_mk (st := s_Repeated__at) l14 c14 k14
  have F15 := fun_mk (st := s_Place__strength) l15 c15 k15
  have F16 := fun_mk (st := s_Repeated__strength_of) l16 c16 k16
  have F17 := fun_mk (st := s_least_at_most) l17 c17 k17
  have F18 := fun_mk (st := s_Repeated__nearest_right) l18 c18 k18
  have F19 := fun_mk (st := s_last_below) l19 c19 k19
  have F20 := fun_mk (st := s_Repeated__nearest_left) l20 c20 k20
  have F21 := fun_mk (st := s_Repeated__weaker) l21 c21 k21
  have F22 := fun_mk (st := s__law_moves_right) l22 c22 k22
  have F23 := fun_mk (st := s_law) l23 c23 k23
  refine ⟨PySem.W.fnOf "law" "law" (defArgs s_law) (defBody s_law) (defScope s_law) .none kV23 dc23 pm23 an23 cd23 ct23, fun s v => .of_eq rfl, fun base _ _ tbs => ?_⟩
  have N_InvalidTimes : NCls K mg "InvalidTimes" C_InvalidTimes := ⟨PySem.W.mg_of KX G aC_InvalidTimes, reg_of aC_InvalidTimes, ⟨ga_InvalidTimes, gg_InvalidTimes, eC_InvalidTimes, hC_InvalidTimes, ca_InvalidTimes, spX, tkX, mo_InvalidTimes⟩, tC_InvalidTimes⟩
  have N_NoOperator : NCls K mg "NoOperator" C_NoOperator := ⟨PySem.W.mg_of KX G aC_NoOperator, reg_of aC_NoOperator, ⟨ga_NoOperator, gg_NoOperator, eC_NoOperator, hC_NoOperator, ca_NoOperator, spX, tkX, mo_NoOperator⟩, tC_NoOperator⟩
  have N_UnknownOperator : NCls K mg "UnknownOperator" C_UnknownOperator := ⟨PySem.W.mg_of KX G aC_UnknownOperator, reg_of aC_UnknownOperator, ⟨ga_UnknownOperator, gg_UnknownOperator, eC_UnknownOperator, hC_UnknownOperator, ca_UnknownOperator, spX, tkX, mo_UnknownOperator⟩, tC_UnknownOperator⟩
  have N_WearError : NCls K mg "WearError" C_WearError := ⟨PySem.W.mg_of KX G aC_WearError, reg_of aC_WearError, ⟨ga_WearError, gg_WearError, eC_WearError, hC_WearError, ca_WearError, spX, tkX, mo_WearError⟩, tC_WearError⟩
  have IF_InvalidTimes := fun_mk (st := i_InvalidTimes) il_InvalidTimes ic_InvalidTimes ik_InvalidTimes
  have E_InvalidTimes : ECls P w K mg base "InvalidTimes" "value" C_InvalidTimes := ⟨N_InvalidTimes, fI_InvalidTimes, _, "value", ⟨⟨_, _, _, _, _, _, _, _, _, _, _, _, _, _, _, _, _, _, _, _, xf_value, xL_InvalidTimes, rfl⟩, sa_InvalidTimes, eC_InvalidTimes, tC_InvalidTimes, kC_InvalidTimes, no_InvalidTimes, iC_InvalidTimes, tI_InvalidTimes⟩, init_ok IF_InvalidTimes isc_InvalidTimes rfl (fun _ _ => Or.inl rfl) (fun _ _ => Or.inl rfl), IF_InvalidTimes.binds fun _ _ _ _ _ _ us hl => match us, hl with | [_, _], _ => rfl⟩
  have IF_NoOperator := fun_mk (st := i_NoOperator) il_NoOperator ic_NoOperator ik_NoOperator
  have E_NoOperator : ECls P w K mg base "NoOperator" "index" C_NoOperator := ⟨N_NoOperator, fI_NoOperator, _, "index", ⟨⟨_, _, _, _, _, _, _, _, _, _, _, _, _, _, _, _, _, _, _, _, xf_index, xL_NoOperator, rfl⟩, sa_NoOperator, eC_NoOperator, tC_NoOperator, kC_NoOperator, no_NoOperator, iC_NoOperator, tI_NoOperator⟩, init_ok IF_NoOperator isc_NoOperator rfl (fun _ _ => Or.inl rfl) (fun _ _ => Or.inl rfl), IF_NoOperator.binds fun _ _ _ _ _ _ us hl => match us, hl with | [_, _], _ => rfl⟩
  have IF_UnknownOperator := fun_mk (st := i_UnknownOperator) il_UnknownOperator ic_UnknownOperator ik_UnknownOperator
  have E_UnknownOperator : ECls P w K mg base "UnknownOperator" "letter" C_UnknownOperator := ⟨N_UnknownOperator, fI_UnknownOperator, _, "letter", ⟨⟨_, _, _, _, _, _, _, _, _, _, _, _, _, _, _, _, _, _, _, _, xf_key, xL_UnknownOperator, rfl⟩, sa_UnknownOperator, eC_UnknownOperator, tC_UnknownOperator, kC_UnknownOperator, no_UnknownOperator, iC_UnknownOperator, tI_UnknownOperator⟩, init_ok IF_UnknownOperator isc_UnknownOperator rfl (fun _ _ => Or.inl rfl) (fun _ _ => Or.inl rfl), IF_UnknownOperator.binds fun _ _ _ _ _ _ us hl => match us, hl with | [_, _], _ => rfl⟩
  have rC_Place := reg_of aK_Place
  have cl_Place : Cls K C_Place := ⟨pg_Place, hd_Place, po_Place, sa_Place⟩
  have rC_Repeated := reg_of aK_Repeated
  have cl_Repeated : Cls K C_Repeated := ⟨pg_Repeated, hd_Repeated, po_Repeated, sa_Repeated⟩
  have cc_Repeated_MOST_TIMES : CInt K C_Repeated "MOST_TIMES" 1000000000000000000000000000000 := ⟨⟨tc_Repeated_MOST_TIMES, ca_Repeated_MOST_TIMES, cg_Repeated_MOST_TIMES⟩, by decide⟩
  have D__law_pen : Def P w K mg base 1 "_law_pen" f0 _ ["_law_script"] S__law_pen := ⟨ok__law_pen F0 (PySem.W.mg_none_of KX G z_list), PySem.W.mg_of KX G a0, k0, F0.binds fun _ _ _ _ _ _ us hl => match us, hl with | [_], _ => rfl⟩
  have D__law_draw : Def P w K mg base 1 "_law_draw" f1 _ ["_law_pen_here", "_law_count"] S__law_draw := ⟨ok__law_draw F1 (PySem.W.mg_none_of KX G z_abs) (PySem.W.mg_none_of KX G z_int) (PySem.W.mg_none_of KX G z_len), PySem.W.mg_of KX G a1, k1, F1.binds fun _ _ _ _ _ _ us hl => match us, hl with | [_, _], _ => rfl⟩
  have D__law_number : Def P w K mg base 2 "_law_number" f2 _ ["_law_pen_here", "_law_reach"] S__law_number := ⟨ok__law_number F2 D__law_draw, PySem.W.mg_of KX G a2, k2, F2.binds fun _ _ _ _ _ _ us hl => match us, hl with | [_, _], _ => rfl⟩
  have D__law_even_block : Def P w K mg base 3 "_law_even_block" f3 _ ["_law_pen_here"] S__law_even_block := ⟨ok__law_even_block F3 (PySem.W.mg_none_of KX G z_len) (PySem.W.mg_none_of KX G z_list) (PySem.W.mg_none_of KX G z_range) (PySem.W.mg_none_of KX G z_sorted) (PySem.W.mg_none_of KX G z_sum) (PySem.W.mg_none_of KX G z_tuple) (PySem.W.mg_none_of KX G z_zip) D__law_draw D__law_number, PySem.W.mg_of KX G a3, k3, F3.binds fun _ _ _ _ _ _ us hl => match us, hl with | [_], _ => rfl⟩
  have D__law_great_number : Def P w K mg base 2 "_law_great_number" f4 _ ["_law_pen_here"] S__law_great_number := ⟨ok__law_great_number F4 D__law_draw, PySem.W.mg_of KX G a4, k4, F4.binds fun _ _ _ _ _ _ us hl => match us, hl with | [_], _ => rfl⟩
  have I_Place : IDef P w K mg base 1 "Place" C_Place f5 _ ["self", "mark", "first_use", "uses", "strength", "step"] S_Place____init__ := ⟨ok_Place____init__ F5 rC_Place cl_Place nf_Place_first_strength nf_Place_first_use nf_Place_loss nf_Place_mark nf_Place_uses, ⟨mk_Place, a5, i5, kc_Place⟩, PySem.W.mg_of KX G aK_Place, F5.binds fun _ _ _ _ _ _ us hl => match us, hl with | [_, _, _, _, _, _], _ => rfl⟩
  have D_places_of : Def P w K mg base 3 "places_of" f6 _ ["table", "block"] S_places_of := ⟨ok_places_of F6 (PySem.W.mg_none_of KX G z_enumerate) E_UnknownOperator rC_Place cl_Place I_Place, PySem.W.mg_of KX G a6, k6, F6.binds fun _ _ _ _ _ _ us hl => match us, hl with | [_, _], _ => rfl⟩
  have Q_Repeated__table__set : SDef P w K mg base 4 C_Repeated "table" p7 f7 _ "value" S_Repeated__table__set := ⟨ok_Repeated__table__set F7 rC_Repeated cl_Repeated nf_Repeated_origin nf_Repeated_pattern nf_Repeated_places D_places_of, g7, w7, ⟨_, _, r7⟩, F7.binds fun _ _ _ _ _ _ us hl => match us, hl with | [_, _], _ => rfl⟩
  have D_is_integer : Def P w K mg base 1 "is_integer" f8 _ ["value"] S_is_integer := ⟨ok_is_integer F8 (PySem.W.mg_none_of KX G z_bool) (PySem.W.mg_none_of KX G z_int) (PySem.W.mg_none_of KX G z_isinstance), PySem.W.mg_of KX G a8, k8, F8.binds fun _ _ _ _ _ _ us hl => match us, hl with | [_], _ => rfl⟩
  have D_is_between : Def P w K mg base 2 "is_between" f9 _ ["value", "least", "most"] S_is_between := ⟨ok_is_between F9 D_is_integer, PySem.W.mg_of KX G a9, k9, F9.binds fun _ _ _ _ _ _ us hl => match us, hl with | [_, _, _], _ => rfl⟩
  have Q_Repeated__times__set : SDef P w K mg base 3 C_Repeated "times" p10 f10 _ "value" S_Repeated__times__set := ⟨ok_Repeated__times__set F10 E_InvalidTimes rC_Repeated cl_Repeated nf_Repeated_repetitions cc_Repeated_MOST_TIMES D_is_between, g10, w10, ⟨_, _, r10⟩, F10.binds fun _ _ _ _ _ _ us hl => match us, hl with | [_, _], _ => rfl⟩
  have I_Repeated : IDef P w K mg base 7 "Repeated" C_Repeated f11 _ ["self", "table", "block", "times"] S_Repeated____init__ := ⟨ok_Repeated____init__ F11 rC_Repeated cl_Repeated nf_Repeated_pattern Q_Repeated__table__set Q_Repeated__times__set, ⟨mk_Repeated, a11, i11, kc_Repeated⟩, PySem.W.mg_of KX G aK_Repeated, F11.binds fun _ _ _ _ _ _ us hl => match us, hl with | [_, _, _, _], _ => rfl⟩
  have P_Repeated__size : PDef P w K mg base 1 C_Repeated "size" p12 f12 _ S_Repeated__size := ⟨ok_Repeated__size F12 (PySem.W.mg_none_of KX G z_len) rC_Repeated cl_Repeated nf_Repeated_places nf_Repeated_repetitions, ⟨a12, g12, w12, ⟨_, r12⟩⟩, F12.binds fun _ _ _ _ _ _ us hl => match us, hl with | [_], _ => rfl⟩
  have M_Repeated__need : MDefV P w K mg base 3 C_Repeated "need" f13 S_Repeated__need := ⟨ok_Repeated__need F13 E_NoOperator rC_Repeated cl_Repeated D_is_between P_Repeated__size, ⟨a13, i13, k13⟩⟩
  have M_Repeated__at : MDef P w K mg base 1 C_Repeated "at" f14 _ ["self", "k"] S_Repeated__at := ⟨ok_Repeated__at F14 (PySem.W.mg_none_of KX G z_divmod) (PySem.W.mg_none_of KX G z_len) rC_Repeated cl_Repeated nf_Repeated_places, ⟨a14, i14, k14⟩, F14.binds fun _ _ _ _ _ _ us hl => match us, hl with | [_, _], _ => rfl⟩
  have M_Place__strength : MDef P w K mg base 1 C_Place "strength" f15 _ ["self", "repetition"] S_Place__strength := ⟨ok_Place__strength F15 rC_Place cl_Place nf_Place_first_strength nf_Place_loss, ⟨a15, i15, k15⟩, F15.binds fun _ _ _ _ _ _ us hl => match us, hl with | [_, _], _ => rfl⟩
  have M_Repeated__strength_of : MDef P w K mg base 4 C_Repeated "strength_of" f16 _ ["self", "k"] S_Repeated__strength_of := ⟨ok_Repeated__strength_of F16 rC_Place cl_Place rC_Repeated cl_Repeated M_Repeated__need M_Repeated__at M_Place__strength, ⟨a16, i16, k16⟩, F16.binds fun _ _ _ _ _ _ us hl => match us, hl with | [_, _], _ => rfl⟩
  have D_least_at_most : Def P w K mg base 2 "least_at_most" f17 _ ["place", "bound", "start"] S_least_at_most := ⟨ok_least_at_most F17 rC_Place cl_Place nf_Place_first_strength nf_Place_loss M_Place__strength, PySem.W.mg_of KX G a17, k17, F17.binds fun _ _ _ _ _ _ us hl => match us, hl with | [_, _, _], _ => rfl⟩
  have M_Repeated__nearest_right : MDef P w K mg base 5 C_Repeated "nearest_right" f18 _ ["self", "k"] S_Repeated__nearest_right := ⟨ok_Repeated__nearest_right F18 (PySem.W.mg_none_of KX G z_enumerate) (PySem.W.mg_none_of KX G z_len) (PySem.W.mg_none_of KX G z_min) rC_Repeated cl_Repeated nf_Repeated_places nf_Repeated_repetitions M_Repeated__strength_of D_least_at_most, ⟨a18, i18, k18⟩, F18.binds fun _ _ _ _ _ _ us hl => match us, hl with | [_, _], _ => rfl⟩
  have D_last_below : Def P w K mg base 2 "last_below" f19 _ ["place", "bound", "last"] S_last_below := ⟨ok_last_below F19 rC_Place cl_Place nf_Place_first_strength nf_Place_loss M_Place__strength, PySem.W.mg_of KX G a19, k19, F19.binds fun _ _ _ _ _ _ us hl => match us, hl with | [_, _, _], _ => rfl⟩
  have M_Repeated__nearest_left : MDef P w K mg base 5 C_Repeated "nearest_left" f20 _ ["self", "k"] S_Repeated__nearest_left := ⟨ok_Repeated__nearest_left F20 (PySem.W.mg_none_of KX G z_enumerate) (PySem.W.mg_none_of KX G z_len) (PySem.W.mg_none_of KX G z_max) rC_Repeated cl_Repeated nf_Repeated_places M_Repeated__strength_of D_last_below, ⟨a20, i20, k20⟩, F20.binds fun _ _ _ _ _ _ us hl => match us, hl with | [_, _], _ => rfl⟩
  have M_Repeated__weaker : MDefK P w K mg base 6 C_Repeated "weaker" f21 _ ["self", "k", "right"] S_Repeated__weaker 2 ["right"] [0, 1, 2] [V.bl false] := ⟨ok_Repeated__weaker F21 rC_Repeated cl_Repeated M_Repeated__need M_Repeated__nearest_right M_Repeated__nearest_left, ⟨a21, i21, k21⟩, KwB.of (fd := PySem.W.fnOf "weaker" "Repeated.weaker" (defArgs s_Repeated__weaker) (defBody s_Repeated__weaker) (defScope s_Repeated__weaker) .none (.ref D21) dc21 pm21 an21 cd21 ct21) fun us ws h1 h2 => match us, ws, h1, h2 with | [_, _], [_], _, _ => rfl, FunD.binds0 (kws := [("right", V.bl false)]) (fund_mk (st := s_Repeated__weaker) l21 c21 k21 (fun q hq => by simp only [List.mem_cons, List.not_mem_nil, or_false] at hq; rcases hq with rfl <;> first | exact ⟨_, n21_0, by first | rfl | exact ⟨_, rfl⟩⟩)) 2 (by simp) rfl fun D doc pm an cdv ct us ks h1 h2 => match us, ks, h1, h2 with | [_, _], [_], _, _ => ⟨_, _, _, _, _, _, rfl, rfl, rfl⟩⟩
  have D__law_moves_right : Def P w K mg base 7 "_law_moves_right" f22 _ ["_law_thing", "_law_row", "_law_k", "_law_turns"] S__law_moves_right := ⟨ok__law_moves_right F22 (PySem.W.mg_none_of KX G z_len) rC_Repeated cl_Repeated M_Repeated__weaker P_Repeated__size, PySem.W.mg_of KX G a22, k22, F22.binds fun _ _ _ _ _ _ us hl => match us, hl with | [_, _, _, _], _ => rfl⟩
  exact ok_law F23 (PySem.W.mg_none_of KX G z_len) (PySem.W.mg_none_of KX G z_min) (PySem.W.mg_none_of KX G z_range) rC_Repeated cl_Repeated D__law_pen D__law_even_block D__law_great_number I_Repeated D__law_draw D__law_moves_right M_Repeated__strength_of
end
end Pk54
namespace Pk54
open PySem PySem.Spec PyProof.Rows L2 Pm
open Pg (sg rowD tabD abc_T tabD_plain tabD_frz dr divS get_sg ix_nat Fi btwB rtD erase_map perm_erase sorted_sg)
open Sc (Rws RowT)
open Rp
theorem hS : Pm.Draws S__law_draw := drawsE ⟨8699, 577, 2147483587, 47711, 41, 2147483647, 23, 70001, 2147483563⟩ (by unfold DK.ok; decide)
theorem e_pen : S__law_pen = penS := rfl
theorem e_number : S__law_number = Sc.x_lnumber S__law_draw := rfl
theorem e_great : S__law_great_number = x_lgreat_number S__law_draw := rfl
theorem e_init : S_Repeated____init__ = x_Repeated____init__ := rfl
theorem e_weaker : S_Repeated__weaker = x_Repeated__weaker := rfl
theorem e_size : S_Repeated__size = x_Repeated__size := rfl
theorem e_strength : S_Repeated__strength_of = x_Repeated__strength_of := rfl
noncomputable def c_oleven_block_1 : M EV := comp [10] (srcR1 (aCons (Pm.bin hAdd (con (.int 1)) (callF S__law_draw (aCons (loc 0) (aCons (con (.int 4)) aNil)))) aNil)) (gN 10) yesT (popi 2 (callF S__law_draw (aCons (loc 0) (aCons (app opLen (aCons (loc 2) aNil)) aNil))))
noncomputable def c_oleven_block_2 : M EV := comp [6] (srcA (loc 3)) (gN 6) yesT (idx (aCons (disp true .lst (aCons (con (.int 1)) (aCons (con (.int 2)) (aCons (con (.int 3)) (aCons (con (.int 4)) aNil))))) (aCons (callF S__law_draw (aCons (loc 0) (aCons (con (.int 4)) aNil))) aNil)))
noncomputable def b_oleven_block_1 : M Fl := (drp (appd 5 (disp false .tup (aCons (loc 6) (aCons (callF S__law_number (aCons (loc 0) (aCons (con (.int 60)) aNil))) (aCons (Pm.bin (on2I iDiv) (loc 1) (loc 7)) aNil))))))
noncomputable def c_oleven_block_3 : M EV := comp [6, 7] (srcZip .lst (loc 3) (loc 4)) (gT (gsC (gN 6) (gsC (gN 7) gs0)) 2) yesT (Pm.bin hMulT (loc 6) (loc 7))
noncomputable def c_oleven_block_4 : M EV := comp [10] (srcR1 (aCons (app opSum (aCons (loc 4) aNil)) aNil)) (gN 10) yesT (popi 8 (callF S__law_draw (aCons (loc 0) (aCons (app opLen (aCons (loc 8) aNil)) aNil))))
theorem bq_leven_block : b__law_even_block = (seq (asg (Pm.bin hMulT (con (.int 12)) (Pm.bin (on2I iSub) (callF S__law_draw (aCons (loc 0) (aCons (con (.int 11)) aNil))) (con (.int 5)))) (gN 1))
    (seq (asg (app opListA (aCons (con (.str "abcdefgh")) aNil)) (gN 2))
    (seq (asg (app opSorted (aCons c_oleven_block_1 aNil)) (gN 3))
    (seq (asg c_oleven_block_2 (gN 4))
    (seq (asg (disp true .lst aNil) (gN 5))
    (seq (forS (srcZip .lst (loc 3) (loc 4)) (gT (gsC (gN 6) (gsC (gN 7) gs0)) 2) b_oleven_block_1)
    (seq (asg (app opListA (aCons (smet1 opJoin (con (.str "")) c_oleven_block_3) aNil)) (gN 8))
    (seq (asg (smet1 opJoin (con (.str "")) c_oleven_block_4) (gN 9))
    (rtn (disp false .tup (aCons (app opTuple (aCons (loc 5) aNil)) (aCons (loc 9) (aCons (loc 1) aNil))))))))))))) := rfl
theorem bq_lmoves_right : b__law_moves_right = (seq (asg (Pm.bin hMulT (loc 3) (app opLen (aCons (loc 1) aNil))) (gN 4))
    (seq (asg (disp false .tup (aCons (callF S_Repeated__weaker (aDef (.bl false) (aCons (chk "Repeated" "weaker" (loc 0)) (aCons (loc 2) aNil)))) (aCons (callF S_Repeated__weaker (selA (2 + 1) [0, 1, 2] (aCons (chk "Repeated" "weaker" (loc 0)) (aApp (2 - 1) 1 (aCons (loc 2) aNil) (aCons (con (.bl true)) aNil))))) aNil))) (gN 5))
    (seq (asg (disp false .tup (aCons (callF S_Repeated__weaker (aDef (.bl false) (aCons (chk "Repeated" "weaker" (loc 0)) (aCons (Pm.bin hAdd (loc 2) (loc 4)) aNil)))) (aCons (callF S_Repeated__weaker (selA (2 + 1) [0, 1, 2] (aCons (chk "Repeated" "weaker" (loc 0)) (aApp (2 - 1) 1 (aCons (Pm.bin hAdd (loc 2) (loc 4)) aNil) (aCons (con (.bl true)) aNil))))) aNil))) (gN 6))
    (seq (Pm.ite (andT (tst (Pm.bin opNotN (idx (aCons (loc 5) (aCons (con (.int 0)) aNil))) (con .non))) (tst (Pm.bin opNe (idx (aCons (loc 6) (aCons (con (.int 0)) aNil))) (Pm.bin hAdd (idx (aCons (loc 5) (aCons (con (.int 0)) aNil))) (loc 4))))) (rtn (con (.bl false))) sNx)
    (seq (Pm.ite (andT (tst (Pm.bin opNotN (idx (aCons (loc 6) (aCons (con (.int 1)) aNil))) (con .non))) (tst (Pm.bin opNe (idx (aCons (loc 5) (aCons (con (.int 1)) aNil))) (Pm.bin (on2I iSub) (idx (aCons (loc 6) (aCons (con (.int 1)) aNil))) (loc 4))))) (rtn (con (.bl false))) sNx)
    (seq (Pm.ite (andT (tst (Pm.bin opNotN (idx (aCons (loc 5) (aCons (con (.int 1)) aNil))) (con .non))) (andT (tst (Pm.bin opLtA (Pm.bin hAdd (idx (aCons (loc 5) (aCons (con (.int 1)) aNil))) (loc 4)) (callF (noX S_Repeated__size) (aCons (chk "Repeated" "size" (loc 0)) aNil)))) (tst (Pm.bin opIsN (idx (aCons (loc 6) (aCons (con (.int 1)) aNil))) (con .non))))) (rtn (con (.bl false))) sNx)
    (rtn (orE (Pm.bin opNotN (idx (aCons (loc 5) (aCons (con (.int 1)) aNil))) (con .non)) (Pm.bin opIsN (idx (aCons (loc 6) (aCons (con (.int 1)) aNil))) (con .non)))))))))) := rfl
noncomputable def b_olaw_1 : M Fl := (seq (asg (idx (aCons (disp true .lst (aCons (con (.int 1)) (aCons (callF S__law_draw (aCons (loc 1) (aCons (loc 6) aNil))) (aCons (Pm.bin (on2I iSub) (loc 6) (con (.int 1))) (aCons (app opMin2 (aCons (Pm.bin (on2I iSub) (loc 6) (con (.int 1))) (aCons (con (.int 2)) aNil))) aNil))))) (aCons (callF S__law_draw (aCons (loc 1) (aCons (con (.int 4)) aNil))) aNil))) (gN 9))
    (seq (asg (app opMin2 (aCons (loc 9) (aCons (Pm.bin (on2I iSub) (loc 6) (con (.int 1))) aNil))) (gN 9))
    (seq (asg (idx (aCons (disp true .lst (aCons (app opLen (aCons (loc 4) aNil)) (aCons (Pm.bin hMulT (app opLen (aCons (loc 4) aNil)) (Pm.bin (on2I iSub) (loc 6) (loc 9))) aNil))) (aCons (callF S__law_draw (aCons (loc 1) (aCons (con (.int 2)) aNil))) aNil))) (gN 10))
    (seq (asg (callF S__law_draw (aCons (loc 1) (aCons (loc 10) aNil))) (gN 11))
    (seq (Pm.ite (notT (tst (callF S__law_moves_right (aCons (loc 7) (aCons (loc 4) (aCons (loc 11) (aCons (loc 9) aNil))))))) (rtn (con (.bl false))) sNx)
    (seq (asg (Pm.bin hAdd (loc 11) (Pm.bin hMulT (loc 9) (app opLen (aCons (loc 4) aNil)))) (gN 12))
    (Pm.ite (tst (Pm.bin opNe (Pm.bin (on2I iSub) (callF S_Repeated__strength_of (aCons (chk "Repeated" "strength_of" (loc 7)) (aCons (loc 11) aNil))) (callF S_Repeated__strength_of (aCons (chk "Repeated" "strength_of" (loc 7)) (aCons (loc 12) aNil)))) (Pm.bin hMulT (loc 9) (loc 5)))) (rtn (con (.bl false))) sNx)))))))
noncomputable def b_olaw_2 : M Fl := (seq (asg (callF S__law_even_block (aCons (loc 1) aNil)) (gT (gsC (gN 3) (gsC (gN 4) (gsC (gN 5) gs0))) 3))
    (seq (asg (callF S__law_great_number (aCons (loc 1) aNil)) (gN 6))
    (seq (asg (makeC "Repeated" S_Repeated____init__ (aCons (loc 3) (aCons (loc 4) (aCons (loc 6) aNil)))) (gN 7))
    (forS (srcR1 (aCons (con (.int 12)) aNil)) (gN 8) b_olaw_1))))
theorem bq_law : b_law = (seq (asg (callF S__law_pen (aCons (loc 0) aNil)) (gN 1))
    (seq (forS (srcR1 (aCons (con (.int 3)) aNil)) (gN 2) b_olaw_2)
    (rtn (con (.bl true))))) := rfl
theorem lit {s : String} {l : List Nat} (h : s.toList.map Char.toNat = l) : ((s : String) : Str) = T l := by rw [show ((s : String) : Str) = Str.ofString s from rfl, T_lit, h]
abbrev H8 : List Nat := [97, 98, 99, 100, 101, 102, 103, 104]
theorem list_T {l : List Nat} (h : l.length ≤ 1000) : opListA [.str (T l)] = some (.lst true (l.map sg)) := by
  show (if (T l).length ≤ cap then some (D.lst true (signsD (T l))) else none) = _
  rw [if_pos (show (T l).length ≤ cap by rw [T_len]; show _ ≤ 1000000; omega)]
  rfl
section
variable {x1 x3 x4 x5 x6 x7 x8 x9 x2 : Option D}
theorem marks8 {ns : List Int} {a : Int} {z : List D} (hl : ns.length ≤ 63) (hp : Pen ns a (.node true .lst z)) (ha : a + 100 ≤ 1000000) :
    ∃ (z' : List D) (l ps : List Nat), c_oleven_block_1 [some (.node true .lst z), x1, some (.node true .lst (H8.map sg)), x3, x4, x5, x6, x7, x8, x9, none]
      = .ok (.val (.lst true (ps.map sg))) [some (.node true .lst z'), x1, some (.node true .lst (l.map sg)), x3, x4, x5, x6, x7, x8, x9, none] ∧ Pen ns (a + 10) (.node true .lst z') ∧ 1 ≤ ps.length ∧ ps.length ≤ 4 ∧ (ps ++ l).Perm H8 := by
  obtain ⟨r1, z1, e1, r10, r11, p1⟩ := dr hS (m := 4) hl hp (by omega) (by decide) (by decide)
  obtain ⟨n, rfl⟩ := Int.eq_ofNat_of_zero_le r10
  have g1 : hAdd [.int 1, .int (n : Int)] = some (.int ((n + 1 : Nat) : Int)) := by rw [hAdd_ii, Int.add_comm]; rfl
  have hsrc : srcR1 (aCons (Pm.bin hAdd (con (.int 1)) (callF S__law_draw (aCons (loc 0) (aCons (con (.int 4)) aNil)))) aNil) [some (.node true .lst z), x1, some (.node true .lst (H8.map sg)), x3, x4, x5, x6, x7, x8, x9, none]
      = .ok (rangeD 0 (n + 1)) [some (.node true .lst z1), x1, some (.node true .lst (H8.map sg)), x3, x4, x5, x6, x7, x8, x9, none] := by
    refine src_r1 (es := [.val (.int ((n + 1 : Nat) : Int))]) (n := n + 1) ?_ rfl (by omega)
    generalize H8.map sg = HH at *
    generalize ((n + 1 : Nat) : Int) = n1 at *
    generalize S__law_draw = SD at *
    generalize hAdd = HA at *
    simp [mkF, reFrz, seq, Pm.ite, rtn, mov, asg, drp, sNx, bnd, Pm.bin, Pm.un, app, aCons, aNil, idx, loc, con, Pm.ret, peek1, peeks, itemOf, on2I, iAdd, iSub, iGt, iGe, iLt, iLe, iDiv, iMod, use1, useL, gI, gN, tst, andT, orT, notT, andE, orE, notE, ifE, ixN, D.frz, D.plain, plainL, argsBack, opLen, opAbs, opInt1, opNeg, disp, cap, callF, takes, puts, selA, sel, aApp, par, gT, gsC, gs0, appF, opDivmod, frzL, plainL, e1, g1]
  obtain ⟨acc, ρ', e, z', l, ps, rfl, p', rfl, hperm, hlen⟩ := comp_wp (own := [10]) (g := gN 10) (c := yesT) (e := popi 2 (callF S__law_draw (aCons (loc 0) (aCons (app opLen (aCons (loc 2) aNil)) aNil)))) hsrc
    (fun j ρ acc => ∃ (z' : List D) (l ps : List Nat), ρ = [some (.node true .lst z'), x1, some (.node true .lst (l.map sg)), x3, x4, x5, x6, x7, x8, x9, none] ∧ Pen ns (a + 1 + j) (.node true .lst z') ∧ acc = ps.map sg ∧ (ps ++ l).Perm H8 ∧ ps.length = j)
    ⟨z1, H8, [], rfl, p1.mono (by omega), rfl, List.Perm.refl _, rfl⟩ (by rw [range_len]; show n + 1 ≤ 1000000; omega)
    (fun j d ρ acc hd ⟨z', l, ps, e, hp', ea, hperm, hlen⟩ => by
      subst e
      obtain ⟨hj, rfl⟩ := range_get hd
      have hsum : ps.length + l.length = 8 := by rw [← List.length_append, hperm.length_eq]; rfl
      obtain ⟨r, z2, e2, r20, r21, p2⟩ := dr hS (m := (l.length : Int)) hl hp' (by omega) (by omega) (divS (by omega) (by omega))
      obtain ⟨k, rfl⟩ := Int.eq_ofNat_of_zero_le r20
      have hk : k < l.length := by omega
      refine ⟨_, rfl, ?_⟩
      refine Wp.of (a := true) rfl ⟨fun _ => ?_, fun q => nomatch q⟩
      refine Wp.of (a := .val (sg l[k])) (ρ' := [some (.node true .lst z2), x1, some (.node true .lst ((l.map sg).eraseIdx k)), x3, x4, x5, x6, x7, x8, x9, some (.int (0 + (j : Int)))]) ?_ ?_
      · have hc : l.length ≤ cap := by show _ ≤ 1000000; omega
        have h1 : ixN l.length (k : Int) = some k := by
          unfold ixN
          rw [if_pos (by omega), if_pos (by omega), Int.toNat_natCast]
        simp [popi, mkF, reFrz, seq, Pm.ite, rtn, mov, asg, drp, sNx, bnd, Pm.bin, Pm.un, app, aCons, aNil, idx, loc, con, Pm.ret, peek1, peeks, itemOf, on2I, iAdd, iSub, use1, useL, gI, gN, tst, D.frz, D.plain, plainL, argsBack, opLen, disp, cap, callF, takes, puts, selA, sel, aApp, par, gT, gsC, gs0, appF, frzL, e2, get_sg hk, h1, hk, hc]
      · refine ⟨_, _, rfl, z2, l.eraseIdx k, ps ++ [l[k]], ?_, p2.mono (by omega), by rw [ea]; simp, perm_erase hk hperm, by simp [hlen]⟩
        simp [wipeE, erase_map])
  rw [range_len] at p' hlen
  refine ⟨z', l, ps, ?_, p'.mono (by omega), by omega, by omega, hperm⟩
  unfold c_oleven_block_1
  rw [e]
  rfl
theorem counts_ok {ns : List Int} {a : Int} {z : List D} {qs : List Nat} (hl : ns.length ≤ 63) (hp : Pen ns a (.node true .lst z)) (ha : a + 100 ≤ 1000000) (hq : qs.length ≤ 4) {b : Bool} {x10 : Option D} :
    ∃ (z' : List D) (cs : List Nat), c_oleven_block_2 [some (.node true .lst z), x1, x2, some (.node b .lst (qs.map sg)), x4, x5, none, x7, x8, x9, x10]
      = .ok (.val (.lst true (cs.map fun k : Nat => D.int (k : Int)))) [some (.node true .lst z'), x1, x2, some (.node false .lst (qs.map sg)), x4, x5, none, x7, x8, x9, x10] ∧ Pen ns (a + 10) (.node true .lst z') ∧ cs.length = qs.length ∧ ∀ c ∈ cs, 1 ≤ c ∧ c ≤ 4 := by
  have hsrc : srcA (loc 3) [some (.node true .lst z), x1, x2, some (.node b .lst (qs.map sg)), x4, x5, none, x7, x8, x9, x10] = .ok (qs.map sg) [some (.node true .lst z), x1, x2, some (.node false .lst (qs.map sg)), x4, x5, none, x7, x8, x9, x10] := by
    have fz : frzL (qs.map sg) = qs.map sg := frzL_of_plain _ (Pg.sgs_plain qs)
    generalize qs.map sg = QQ at *
    cases b <;> simp [srcA, mkF, reFrz, seq, Pm.ite, rtn, mov, asg, drp, sNx, bnd, Pm.bin, Pm.un, app, aCons, aNil, idx, loc, con, Pm.ret, peek1, peeks, itemOf, on2I, iAdd, iSub, iGt, iGe, iLt, iLe, iDiv, iMod, use1, useL, gI, gN, tst, andT, orT, notT, andE, orE, notE, ifE, ixN, D.frz, D.plain, plainL, argsBack, opLen, opAbs, opInt1, opNeg, disp, cap, callF, takes, puts, selA, sel, aApp, par, gT, gsC, gs0, appF, opDivmod, frzL, plainL, fz]
  obtain ⟨acc, ρ', e, z', cs, rfl, p', rfl, hlen, hin⟩ := comp_wp (own := [6]) (g := gN 6) (c := yesT) (e := idx (aCons (disp true .lst (aCons (con (.int 1)) (aCons (con (.int 2)) (aCons (con (.int 3)) (aCons (con (.int 4)) aNil))))) (aCons (callF S__law_draw (aCons (loc 0) (aCons (con (.int 4)) aNil))) aNil))) hsrc
    (fun j ρ acc => ∃ (z' : List D) (cs : List Nat), ρ = [some (.node true .lst z'), x1, x2, some (.node false .lst (qs.map sg)), x4, x5, none, x7, x8, x9, x10] ∧ Pen ns (a + j) (.node true .lst z') ∧ acc = (cs.map fun k : Nat => D.int (k : Int)) ∧ cs.length = j ∧ ∀ c ∈ cs, 1 ≤ c ∧ c ≤ 4)
    ⟨z, [], rfl, hp.mono (by omega), rfl, rfl, fun c hc => by simp at hc⟩ (by rw [List.length_map]; show _ ≤ 1000000; omega)
    (fun j d ρ acc hd ⟨z', cs, e, hp', ea, hlen, hin⟩ => by
      subst e
      have hj : j < qs.length := by
        have := (List.getElem?_eq_some_iff.mp hd).1
        rwa [List.length_map] at this
      obtain ⟨r, z2, e2, r20, r21, p2⟩ := dr hS (m := 4) hl hp' (by omega) (by decide) (by decide)
      obtain ⟨k, rfl⟩ := Int.eq_ofNat_of_zero_le r20
      obtain ⟨c, hc, ec⟩ : ∃ c : Nat, (1 ≤ c ∧ c ≤ 4) ∧ atI [D.int 1, .int 2, .int 3, .int 4] (k : Int) = some (.int (c : Int)) := by
        have : k = 0 ∨ k = 1 ∨ k = 2 ∨ k = 3 := by omega
        rcases this with rfl | rfl | rfl | rfl
        · exact ⟨1, by decide, rfl⟩
        · exact ⟨2, by decide, rfl⟩
        · exact ⟨3, by decide, rfl⟩
        · exact ⟨4, by decide, rfl⟩
      refine ⟨[some (.node true .lst z'), x1, x2, some (.node false .lst (qs.map sg)), x4, x5, some d, x7, x8, x9, x10], rfl, ?_⟩
      refine Wp.of (a := true) rfl ⟨fun _ => ?_, fun q => nomatch q⟩
      refine Wp.of (a := .val (.int (c : Int))) (ρ' := [some (.node true .lst z2), x1, x2, some (.node false .lst (qs.map sg)), x4, x5, some d, x7, x8, x9, x10]) ?_ ?_
      · generalize S__law_draw = SD at *
        generalize qs.map sg = QQ at *
        generalize (k : Int) = kk at *
        simp [mkF, reFrz, seq, Pm.ite, rtn, mov, asg, drp, sNx, bnd, Pm.bin, Pm.un, app, aCons, aNil, idx, loc, con, Pm.ret, peek1, peeks, itemOf, on2I, iAdd, iSub, iGt, iGe, iLt, iLe, iDiv, iMod, use1, useL, gI, gN, tst, andT, orT, notT, andE, orE, notE, ifE, ixN, D.frz, D.plain, plainL, argsBack, opLen, opAbs, opInt1, opNeg, disp, cap, callF, takes, puts, selA, sel, aApp, par, gT, gsC, gs0, appF, opDivmod, frzL, plainL, e2, ec]
      · refine ⟨_, _, rfl, z2, cs ++ [c], ?_, p2.mono (by omega), by rw [ea]; simp, by simp [hlen], fun c' hc' => ?_⟩
        · simp [wipeE]
        · rcases List.mem_append.mp hc' with h | h
          · exact hin c' h
          · obtain rfl := List.mem_singleton.mp h
            exact hc)
  rw [List.length_map] at p' hlen
  refine ⟨z', cs, ?_, p'.mono (by omega), hlen, hin⟩
  unfold c_oleven_block_2
  rw [e]
  rfl
end
/-- rows that lose L alike -/
structure Even (L : Int) (es : List (Nat × Nat)) (t : List RowT) (j : Nat) : Prop where
  ks : t.map (·.1) = (es.take j).map (·.1)
  st : ∀ r ∈ t, ∃ e ∈ es, e.1 = r.1 ∧ (e.2 : Int) * r.2.2 = L
  nm : ∀ r ∈ t, -1000000000000 ≤ r.2.1 ∧ r.2.1 ≤ 1000000000000 ∧ -1000000000000 ≤ r.2.2 ∧ r.2.2 ≤ 1000000000000
theorem div12 {r : Int} {c : Nat} (h0 : 0 ≤ r) (h1 : r < 11) (hc : 1 ≤ c ∧ c ≤ 4) : (c : Int) * (12 * (r - 5) / (c : Int)) = 12 * (r - 5) ∧ -60 ≤ 12 * (r - 5) / (c : Int) ∧ 12 * (r - 5) / (c : Int) ≤ 60 := by
  have : c = 1 ∨ c = 2 ∨ c = 3 ∨ c = 4 := by omega
  rcases this with rfl | rfl | rfl | rfl <;> simp only [Int.natCast_one, Int.cast_ofNat_Int] <;> omega
theorem row_turn {ns : List Int} {a r : Int} {z : List D} {t : List RowT} {q c : Nat} {x2 x3 x4 x8 x9 x10 : Option D} (hl : ns.length ≤ 63) (hp : Pen ns a (.node true .lst z)) (ha : a + 20 ≤ 1000000) (r0 : 0 ≤ r) (r1 : r < 11) (hc : 1 ≤ c ∧ c ≤ 4) (ht : t.length ≤ 100) :
    ∃ z' v, b_oleven_block_1 [some (.node true .lst z), some (.int (12 * (r - 5))), x2, x3, x4, some (.node true .lst (t.map rowD)), some (sg q), some (.int (c : Int)), x8, x9, x10] = .ok .nx [some (.node true .lst z'), some (.int (12 * (r - 5))), x2, x3, x4, some (.node true .lst ((t ++ [(q, v, 12 * (r - 5) / (c : Int))]).map rowD)), some (sg q), some (.int (c : Int)), x8, x9, x10]
      ∧ -1000000000000 ≤ v ∧ v ≤ 1000000000000 ∧ Pen ns (a + 2) (.node true .lst z') := by
  obtain ⟨v, z1, e1, v0, v1, p1⟩ := Sc.number_ok hS (q := 60) hl hp (by decide) (by decide) (by omega)
  refine ⟨z1, v, ?_, v0, v1, p1⟩
  have dv : divOk (c : Int) = true := divS (by omega) (by omega)
  have tc : (t.map rowD).length < cap := by rw [List.length_map]; show _ < 1000000; omega
  rw [← e_number] at e1
  rw [List.map_append]
  show _ = Res.ok Fl.nx [_, _, _, _, _, some (.node true .lst (t.map rowD ++ [.node false .tup [sg q, .int v, .int (12 * (r - 5) / (c : Int))]])), _, _, _, _, _]
  have sp : (sg q).plain = true := rfl
  have sf : (sg q).frz = sg q := rfl
  unfold b_oleven_block_1
  generalize t.map rowD = TT at *
  generalize sg q = SQ at *
  generalize S__law_number = SN at *
  generalize hL : 12 * (r - 5) = L at *
  have cp : 0 < (c : Int) := by omega
  generalize hC : (c : Int) = C at *
  simp [appd, mkF, reFrz, seq, Pm.ite, rtn, mov, asg, drp, sNx, bnd, Pm.bin, Pm.un, app, aCons, aNil, idx, loc, con, Pm.ret, peek1, peeks, itemOf, on2I, iAdd, iSub, iGt, iGe, iLt, iLe, iDiv, iMod, use1, useL, gI, gN, tst, andT, orT, notT, andE, orE, notE, ifE, ixN, D.frz, D.plain, plainL, argsBack, opLen, opAbs, opInt1, opNeg, disp, cap, callF, takes, puts, selA, sel, aApp, par, gT, gsC, gs0, appF, opDivmod, frzL, plainL, e1, dv, sp, sf, tc, cp]
theorem rows_ok {ns : List Int} {a r : Int} {z : List D} {es : List (Nat × Nat)} {x2 x8 x9 x10 : Option D} {b1 b2 : Bool} (hl : ns.length ≤ 63) (hp : Pen ns a (.node true .lst z)) (ha : a + 100 ≤ 1000000) (r0 : 0 ≤ r) (r1 : r < 11) (h4 : es.length ≤ 4) (hc : ∀ e ∈ es, 1 ≤ e.2 ∧ e.2 ≤ 4) {Q : Fl → Pm.Env → Prop}
    (h : ∀ z' t x6 x7, (0 < es.length → ∃ (q : Nat) (c : Int), x6 = some (sg q) ∧ x7 = some (.int c)) → Even (12 * (r - 5)) es t es.length → Pen ns (a + 10) (.node true .lst z') → Q .nx [some (.node true .lst z'), some (.int (12 * (r - 5))), x2, some (.node false .lst (es.map fun e => sg e.1)), some (.node false .lst (es.map fun e => D.int (e.2 : Int))), some (.node true .lst (t.map rowD)), x6, x7, x8, x9, x10]) :
    Wp (forS (srcZip .lst (loc 3) (loc 4)) (gT (gsC (gN 6) (gsC (gN 7) gs0)) 2) b_oleven_block_1) [some (.node true .lst z), some (.int (12 * (r - 5))), x2, some (.node b1 .lst (es.map fun e => sg e.1)), some (.node b2 .lst (es.map fun e => D.int (e.2 : Int))), some (.node true .lst []), none, none, x8, x9, x10] Q := by
  have hs : srcZip .lst (loc 3) (loc 4) [some (.node true .lst z), some (.int (12 * (r - 5))), x2, some (.node b1 .lst (es.map fun e => sg e.1)), some (.node b2 .lst (es.map fun e => D.int (e.2 : Int))), some (.node true .lst []), none, none, x8, x9, x10]
      = .ok (zipD (es.map fun e => sg e.1) (es.map fun e => D.int (e.2 : Int))) [some (.node true .lst z), some (.int (12 * (r - 5))), x2, some (.node false .lst (es.map fun e => sg e.1)), some (.node false .lst (es.map fun e => D.int (e.2 : Int))), some (.node true .lst []), none, none, x8, x9, x10] := by
    have f1 : frzL (es.map fun e => sg e.1) = es.map fun e => sg e.1 := frzL_of_plain _ (by
      have := Pg.sgs_plain (es.map (·.1))
      rw [List.map_map] at this
      exact this)
    have f2 : frzL (es.map fun e => D.int (e.2 : Int)) = es.map fun e => D.int (e.2 : Int) := frzL_of_plain _ (by
      have := plain_ints (es.map fun e => (e.2 : Int))
      rw [List.map_map] at this
      exact this)
    generalize (es.map fun e => sg e.1) = A at *
    generalize (es.map fun e => D.int (e.2 : Int)) = B at *
    cases b1 <;> cases b2 <;> simp [srcZip, srcSeq, mkF, reFrz, seq, Pm.ite, rtn, mov, asg, drp, sNx, bnd, Pm.bin, Pm.un, app, aCons, aNil, idx, loc, con, Pm.ret, peek1, peeks, itemOf, on2I, iAdd, iSub, iGt, iGe, iLt, iLe, iDiv, iMod, use1, useL, gI, gN, tst, andT, orT, notT, andE, orE, notE, ifE, ixN, D.frz, D.plain, plainL, argsBack, opLen, opAbs, opInt1, opNeg, disp, cap, callF, takes, puts, selA, sel, aApp, par, gT, gsC, gs0, appF, opDivmod, frzL, plainL, f1, f2]
  refine wp_for hs (fun j ρ => ∃ z' t x6 x7, ρ = [some (.node true .lst z'), some (.int (12 * (r - 5))), x2, some (.node false .lst (es.map fun e => sg e.1)), some (.node false .lst (es.map fun e => D.int (e.2 : Int))), some (.node true .lst (t.map rowD)), x6, x7, x8, x9, x10] ∧ (0 < j → ∃ (q : Nat) (c : Int), x6 = some (sg q) ∧ x7 = some (.int c)) ∧ Even (12 * (r - 5)) es t j ∧ Pen ns (a + 2 * j) (.node true .lst z'))
    ⟨z, [], none, none, rfl, (fun hj => absurd hj (by decide)), ⟨rfl, fun r hr => by simp at hr, fun r hr => by simp at hr⟩, hp.mono (by omega)⟩ ?_ ?_
  · rintro j d ρ hd ⟨z', t, x6, x7, rfl, -, hev, hp'⟩
    obtain ⟨A, B, hA, hB, rfl⟩ := zipD_get _ _ _ _ hd
    rw [List.getElem?_map] at hA hB
    cases he : es[j]? with
    | none => rw [he] at hA; cases hA
    | some e =>
      rw [he] at hA hB
      obtain rfl : sg e.1 = A := Option.some.inj hA
      obtain rfl : D.int (e.2 : Int) = B := Option.some.inj hB
      have hj : j < es.length := (List.getElem?_eq_some_iff.mp he).1
      have hm := List.mem_of_getElem? he
      have tl : t.length = j := by
        have := congrArg List.length hev.ks
        rw [List.length_map, List.length_map, List.length_take] at this
        omega
      obtain ⟨z2, v, e2, v0, v1, p2⟩ := row_turn (t := t) (q := e.1) (c := e.2) (x2 := x2) (x3 := some (.node false .lst (es.map fun e => sg e.1))) (x4 := some (.node false .lst (es.map fun e => D.int (e.2 : Int)))) (x8 := x8) (x9 := x9) (x10 := x10) hl hp' (by omega) r0 r1 (hc e hm) (by omega)
      obtain ⟨d1, d2, d3⟩ := div12 r0 r1 (hc e hm)
      refine ⟨_, rfl, Wp.of e2 ⟨z2, t ++ [(e.1, v, 12 * (r - 5) / (e.2 : Int))], _, _, rfl, (fun _ => ⟨_, _, rfl, rfl⟩), ⟨?_, fun r' hr' => ?_, fun r' hr' => ?_⟩, p2.mono (by omega)⟩⟩
      · rw [List.map_append, hev.ks, List.take_add_one, he, List.map_append]
        rfl
      · rcases List.mem_append.mp hr' with h' | h'
        · exact hev.st r' h'
        · obtain rfl := List.mem_singleton.mp h'
          exact ⟨e, hm, rfl, d1⟩
      · rcases List.mem_append.mp hr' with h' | h'
        · exact hev.nm r' h'
        · obtain rfl := List.mem_singleton.mp h'
          exact ⟨v0, v1, by show _ ≤ 12 * (r - 5) / (e.2 : Int); omega, by show 12 * (r - 5) / (e.2 : Int) ≤ _; omega⟩
  · rintro ρ ⟨z', t, x6, x7, rfl, hx, hev, hp'⟩
    have hlen : (zipD (es.map fun e => sg e.1) (es.map fun e => D.int (e.2 : Int))).length = es.length := by
      rw [zipD_length, List.length_map, List.length_map]
      omega
    rw [hlen] at hx hev hp'
    exact h z' t x6 x7 hx hev (hp'.mono (by omega))
theorem rep1 (q : Nat) : ∀ n : Nat, (List.replicate n [q]).flatten = List.replicate n q
  | 0 => rfl
  | n + 1 => by rw [List.replicate_succ, List.flatten_cons, rep1 q n, List.replicate_succ]; rfl
theorem zip_map {f g : Nat × Nat → D} : ∀ es : List (Nat × Nat), zipD (es.map f) (es.map g) = es.map fun e => .node false .tup [f e, g e]
  | [] => rfl
  | e :: es => by
    show D.node false .tup [f e, g e] :: zipD (es.map f) (es.map g) = _
    rw [zip_map es]
    rfl
theorem pool_comp {es : List (Nat × Nat)} {q : Nat} {c : Int} {x0 x1 x2 x5 x8 x9 x10 : Option D} (h4 : es.length ≤ 4) (hc : ∀ e ∈ es, 1 ≤ e.2 ∧ e.2 ≤ 4) :
    c_oleven_block_3 [x0, x1, x2, some (.node false .lst (es.map fun e => sg e.1)), some (.node false .lst (es.map fun e => D.int (e.2 : Int))), x5, some (sg q), some (.int c), x8, x9, x10]
      = .ok (.val (.lst true ((es.map fun e => List.replicate e.2 e.1).map fun l => D.str (T l)))) [x0, x1, x2, some (.node false .lst (es.map fun e => sg e.1)), some (.node false .lst (es.map fun e => D.int (e.2 : Int))), x5, some (sg q), some (.int c), x8, x9, x10] := by
  have hs : srcZip .lst (loc 3) (loc 4) [x0, x1, x2, some (.node false .lst (es.map fun e => sg e.1)), some (.node false .lst (es.map fun e => D.int (e.2 : Int))), x5, some (sg q), some (.int c), x8, x9, x10]
      = .ok (zipD (es.map fun e => sg e.1) (es.map fun e => D.int (e.2 : Int))) [x0, x1, x2, some (.node false .lst (es.map fun e => sg e.1)), some (.node false .lst (es.map fun e => D.int (e.2 : Int))), x5, some (sg q), some (.int c), x8, x9, x10] := by
    have f1 : frzL (es.map fun e => sg e.1) = es.map fun e => sg e.1 := frzL_of_plain _ (by
      have := Pg.sgs_plain (es.map (·.1))
      rw [List.map_map] at this
      exact this)
    have f2 : frzL (es.map fun e => D.int (e.2 : Int)) = es.map fun e => D.int (e.2 : Int) := frzL_of_plain _ (by
      have := plain_ints (es.map fun e => (e.2 : Int))
      rw [List.map_map] at this
      exact this)
    generalize (es.map fun e => sg e.1) = A at *
    generalize (es.map fun e => D.int (e.2 : Int)) = B at *
    simp [srcZip, srcSeq, mkF, reFrz, seq, Pm.ite, rtn, mov, asg, drp, sNx, bnd, Pm.bin, Pm.un, app, aCons, aNil, idx, loc, con, Pm.ret, peek1, peeks, itemOf, on2I, iAdd, iSub, iGt, iGe, iLt, iLe, iDiv, iMod, use1, useL, gI, gN, tst, andT, orT, notT, andE, orE, notE, ifE, ixN, D.frz, D.plain, plainL, argsBack, opLen, opAbs, opInt1, opNeg, disp, cap, callF, takes, puts, selA, sel, aApp, par, gT, gsC, gs0, appF, opDivmod, frzL, plainL, f1, f2]
  have hm : ∀ e ∈ es, hMulT [sg e.1, .int (e.2 : Int)] = some (.str (T (List.replicate e.2 e.1))) := fun e he => by
    have := hc e he
    have k := mul_T (l := [e.1]) (n := e.2) (by omega) (by show 1 * e.2 ≤ 1000000; omega)
    rw [rep1] at k
    exact k
  unfold c_oleven_block_3
  rw [comp_mapw (ρw := [x0, x1, x2, some (.node false .lst (es.map fun e => sg e.1)), some (.node false .lst (es.map fun e => D.int (e.2 : Int))), x5, none, none, x8, x9, x10]) (fun d => match d with | .node _ _ [A, B] => (hMulT [A, B]).getD .non | d => d) hs rfl rfl (by rw [zipD_length, List.length_map, List.length_map]; show _ ≤ 1000000; omega) fun d hd => ?_]
  · congr 3
    rw [zip_map, List.map_map, List.map_map]
    refine List.map_congr_left fun e he => ?_
    show (hMulT [sg e.1, .int (e.2 : Int)]).getD .non = _
    rw [hm e he]
    rfl
  · rw [zip_map] at hd
    obtain ⟨e, he, rfl⟩ := List.mem_map.mp hd
    have k := hm e he
    refine ⟨[x0, x1, x2, some (.node false .lst (es.map fun e => sg e.1)), some (.node false .lst (es.map fun e => D.int (e.2 : Int))), x5, some (sg e.1), some (.int (e.2 : Int)), x8, x9, x10], rfl, ?_⟩
    refine Wp.of (a := true) rfl ⟨rfl, ?_⟩
    show Wp _ _ fun ev ρ4 => ∃ ρ5, use1 ev ρ4 = .ok ((hMulT [sg e.1, .int (e.2 : Int)]).getD .non) ρ5 ∧ _
    rw [k]
    have sp : (sg e.1).plain = true := rfl
    generalize hMulT = HM at *
    generalize sg e.1 = SE at *
    generalize T (List.replicate e.2 e.1) = TR at *
    simp [Wp, mkF, reFrz, seq, Pm.ite, rtn, mov, asg, drp, sNx, bnd, Pm.bin, Pm.un, app, aCons, aNil, idx, loc, con, Pm.ret, peek1, peeks, itemOf, on2I, iAdd, iSub, iGt, iGe, iLt, iLe, iDiv, iMod, use1, useL, gI, gN, tst, andT, orT, notT, andE, orE, notE, ifE, ixN, D.frz, D.plain, plainL, argsBack, opLen, opAbs, opInt1, opNeg, disp, cap, callF, takes, puts, selA, sel, aApp, par, gT, gsC, gs0, appF, opDivmod, frzL, plainL, k, sp, wipeE]
theorem sum_cast : ∀ es : List (Nat × Nat), ((es.map fun e => (e.2 : Int)).sum) = (((es.map (·.2)).sum : Nat) : Int)
  | [] => rfl
  | e :: es => by
    rw [List.map_cons, List.sum_cons, sum_cast es, List.map_cons, List.sum_cons, Int.natCast_add]
theorem popall {ns : List Int} {a : Int} {z : List D} {es : List (Nat × Nat)} {x1 x2 x3 x5 x6 x7 x9 : Option D} (hl : ns.length ≤ 63) (hp : Pen ns a (.node true .lst z)) (ha : a + 100 ≤ 1000000) (h16 : (poolL es).length ≤ 16) :
    ∃ (z' : List D) (ps : List Nat), c_oleven_block_4 [some (.node true .lst z), x1, x2, x3, some (.node false .lst (es.map fun e => D.int (e.2 : Int))), x5, x6, x7, some (.node true .lst ((poolL es).map sg)), x9, none]
      = .ok (.val (.lst true (ps.map sg))) [some (.node true .lst z'), x1, x2, x3, some (.node false .lst (es.map fun e => D.int (e.2 : Int))), x5, x6, x7, some (.node true .lst []), x9, none] ∧ Pen ns (a + 20) (.node true .lst z') ∧ ps.Perm (poolL es) := by
  obtain ⟨B, hB⟩ : ∃ B, B = es.map fun e => D.int (e.2 : Int) := ⟨_, rfl⟩
  have sm : opSum [.node false .lst B] = some (.int ((poolL es).length : Int)) := by
    have := sum_ints false (es.map fun e => (e.2 : Int))
    rw [List.map_map, sum_cast, ← pool_len] at this
    rw [hB]
    exact this
  rw [← hB]
  generalize poolL es = P at *
  have hsrc : srcR1 (aCons (app opSum (aCons (loc 4) aNil)) aNil) [some (.node true .lst z), x1, x2, x3, some (.node false .lst B), x5, x6, x7, some (.node true .lst (P.map sg)), x9, none]
      = .ok (rangeD 0 P.length) [some (.node true .lst z), x1, x2, x3, some (.node false .lst B), x5, x6, x7, some (.node true .lst (P.map sg)), x9, none] := by
    refine src_r1 (es := [.val (.int (P.length : Int))]) (n := P.length) ?_ rfl (by omega)
    generalize P.map sg = PP at *
    generalize (P.length : Int) = pl at *
    simp [mkF, reFrz, seq, Pm.ite, rtn, mov, asg, drp, sNx, bnd, Pm.bin, Pm.un, app, aCons, aNil, idx, loc, con, Pm.ret, peek1, peeks, itemOf, on2I, iAdd, iSub, iGt, iGe, iLt, iLe, iDiv, iMod, use1, useL, gI, gN, tst, andT, orT, notT, andE, orE, notE, ifE, ixN, D.frz, D.plain, plainL, argsBack, opLen, opAbs, opInt1, opNeg, disp, cap, callF, takes, puts, selA, sel, aApp, par, gT, gsC, gs0, appF, opDivmod, frzL, plainL, sm]
  obtain ⟨acc, ρ', e, z', l, ps, rfl, p', rfl, hperm, hlen⟩ := comp_wp (own := [10]) (g := gN 10) (c := yesT) (e := popi 8 (callF S__law_draw (aCons (loc 0) (aCons (app opLen (aCons (loc 8) aNil)) aNil)))) hsrc
    (fun j ρ acc => ∃ (z' : List D) (l ps : List Nat), ρ = [some (.node true .lst z'), x1, x2, x3, some (.node false .lst B), x5, x6, x7, some (.node true .lst (l.map sg)), x9, none] ∧ Pen ns (a + j) (.node true .lst z') ∧ acc = ps.map sg ∧ (ps ++ l).Perm P ∧ ps.length = j)
    ⟨z, P, [], rfl, hp.mono (by omega), rfl, List.Perm.refl _, rfl⟩ (by rw [range_len]; show _ ≤ 1000000; omega)
    (fun j d ρ acc hd ⟨z', l, ps, e, hp', ea, hperm, hlen⟩ => by
      subst e
      obtain ⟨hj, rfl⟩ := range_get hd
      have hsum : ps.length + l.length = P.length := by rw [← List.length_append, hperm.length_eq]
      obtain ⟨r, z2, e2, r20, r21, p2⟩ := dr hS (m := (l.length : Int)) hl hp' (by omega) (by omega) (divS (by omega) (by omega))
      obtain ⟨k, rfl⟩ := Int.eq_ofNat_of_zero_le r20
      have hk : k < l.length := by omega
      refine ⟨_, rfl, ?_⟩
      refine Wp.of (a := true) rfl ⟨fun _ => ?_, fun q => nomatch q⟩
      refine Wp.of (a := .val (sg l[k])) (ρ' := [some (.node true .lst z2), x1, x2, x3, some (.node false .lst B), x5, x6, x7, some (.node true .lst ((l.map sg).eraseIdx k)), x9, some (.int (0 + (j : Int)))]) ?_ ?_
      · have hc : l.length ≤ cap := by show _ ≤ 1000000; omega
        have h1 : ixN l.length (k : Int) = some k := by
          unfold ixN
          rw [if_pos (by omega), if_pos (by omega), Int.toNat_natCast]
        simp [popi, mkF, reFrz, seq, Pm.ite, rtn, mov, asg, drp, sNx, bnd, Pm.bin, Pm.un, app, aCons, aNil, idx, loc, con, Pm.ret, peek1, peeks, itemOf, on2I, iAdd, iSub, use1, useL, gI, gN, tst, D.frz, D.plain, plainL, argsBack, opLen, disp, cap, callF, takes, puts, selA, sel, aApp, par, gT, gsC, gs0, appF, frzL, e2, get_sg hk, h1, hk, hc]
      · refine ⟨_, _, rfl, z2, l.eraseIdx k, ps ++ [l[k]], ?_, p2.mono (by omega), by rw [ea]; simp, perm_erase hk hperm, by simp [hlen]⟩
        simp [wipeE, erase_map])
  rw [range_len] at p' hlen
  have l0 : l = [] := by
    have := hperm.length_eq
    rw [List.length_append] at this
    exact List.eq_nil_of_length_eq_zero (by omega)
  subst l0
  rw [List.append_nil] at hperm
  refine ⟨z', ps, ?_, p'.mono (by omega), hperm⟩
  unfold c_oleven_block_4
  rw [e]
  rfl
/-- what a block that loses alike keeps -/
structure EvB (t : List RowT) (l : List Nat) (L : Int) : Prop where
  rw : Rws t
  l1 : 1 ≤ l.length
  l16 : l.length ≤ 16
  inn : ∀ c ∈ l, c ∈ lets t
  los : ∀ i, i < l.length → losF t l i = L
  lo : -60 ≤ L
  hi : L ≤ 60
theorem len16 : ∀ {es : List (Nat × Nat)}, (∀ e ∈ es, 1 ≤ e.2 ∧ e.2 ≤ 4) → es.length ≤ (es.map (·.2)).sum ∧ (es.map (·.2)).sum ≤ 4 * es.length
  | [], _ => ⟨Nat.le_refl _, Nat.le_refl _⟩
  | e :: es, h => by
    have k := len16 (es := es) fun x hx => h x (List.mem_cons_of_mem _ hx)
    have := h e List.mem_cons_self
    rw [List.map_cons, List.sum_cons, List.length_cons]
    omega
theorem zip_fst {qs cs : List Nat} (h : cs.length = qs.length) : (qs.zip cs).map (·.1) = qs := List.map_fst_zip (by omega)
theorem zip_snd {qs cs : List Nat} (h : cs.length = qs.length) : (qs.zip cs).map (·.2) = cs := List.map_snd_zip (by omega)
theorem seq_as (a b c : M Fl) : seq (seq a b) c = seq a (seq b c) := by
  funext ρ
  unfold seq bnd
  cases a ρ with
  | stuck => rfl
  | exc x ρ' => rfl
  | ok f ρ' => cases f <;> rfl
theorem seq_assoc4 (a b c d e : M Fl) : seq (seq a (seq b (seq c d))) e = seq a (seq b (seq c (seq d e))) := by
  rw [seq_as, seq_as, seq_as]
theorem even_ok {ns : List Int} {a : Int} {z : List D} (hl : ns.length ≤ 63) (hp : Pen ns a (.node true .lst z)) (ha : a + 500 ≤ 1000000) :
    ∃ (z' : List D) (t : List RowT) (l : List Nat) (L : Int), S__law_even_block [.node true .lst z] = .ret (.node false .tup [tabD t, .str (T l), .int L]) [.node true .lst z'] ∧ EvB t l L ∧ Pen ns (a + 100) (.node true .lst z') := by
  obtain ⟨r, z1, e1, r0, r1, p1⟩ := dr hS (m := 11) hl hp (by omega) (by decide) (by decide)
  have m1 : hMulT [.int 12, .int (r - 5)] = some (.int (12 * (r - 5))) := by rw [hMulT_ii, mulL (by decide)]
  have eh : opListA [.str ("abcdefgh" : String)] = some (.lst true (H8.map sg)) := by
    rw [lit (s := "abcdefgh") (l := H8) rfl]
    exact list_T (by decide)
  obtain ⟨z2, lf, ps, e2, p2, ps1, ps4, hperm⟩ := marks8 hl p1 (by omega) (x1 := some (.int (12 * (r - 5)))) (x3 := none) (x4 := none) (x5 := none) (x6 := none) (x7 := none) (x8 := none) (x9 := none)
  have hnd : ps.Nodup := (List.nodup_append.mp (hperm.nodup_iff.mpr (by decide))).1
  have hne : ps ≠ [] := fun h => by rw [h] at ps1; exact absurd ps1 (by decide)
  obtain ⟨qs, e3, hqp, hqs⟩ := sorted_sg ps hne (by omega) hnd
  have hql : qs.length = ps.length := hqp.length_eq
  obtain ⟨z3, cs, e4, p3, hcl, hcs⟩ := counts_ok (b := true) (qs := qs) hl p2 (by omega) (by omega) (x1 := some (.int (12 * (r - 5)))) (x2 := some (.node true .lst (lf.map sg))) (x4 := none) (x5 := none) (x7 := none) (x8 := none) (x9 := none) (x10 := none)
  obtain ⟨es, hes⟩ : ∃ es, es = qs.zip cs := ⟨_, rfl⟩
  have z1' := zip_fst hcl
  have z2' := zip_snd hcl
  rw [← hes] at z1' z2'
  have hel : es.length = qs.length := by rw [hes, List.length_zip]; omega
  have hec : ∀ e ∈ es, 1 ≤ e.2 ∧ e.2 ≤ 4 := fun e he => hcs _ (by rw [← z2']; exact List.mem_map_of_mem he)
  have hsum := len16 hec
  rw [← pool_len] at hsum
  have mq : qs.map sg = es.map fun e => sg e.1 := by rw [← z1', List.map_map]; rfl
  have mc : (cs.map fun k : Nat => D.int (k : Int)) = es.map fun e => D.int (e.2 : Int) := by rw [← z2', List.map_map]; rfl
  rw [mq] at e3 e4
  rw [mc] at e4
  have hw : Wf S__law_even_block [.node true .lst z] fun v as => ∃ (z' : List D) (t : List RowT) (l : List Nat) (L : Int), v = .node false .tup [tabD t, .str (T l), .int L] ∧ as = [.node true .lst z'] ∧ EvB t l L ∧ Pen ns (a + 100) (.node true .lst z') := by
    unfold S__law_even_block
    refine wf_mkF ?_
    rw [bq_leven_block]
    show Wp _ [some (.node true .lst z), none, none, none, none, none, none, none, none, none, none] _
    have fin : ∀ (z' : List D) (t : List RowT) (l : List Nat) (x1 x2 x3 x4 x5 x6 x7 x8 x9 x10 : Option D), EvB t l (12 * (r - 5)) → Pen ns (a + 100) (.node true .lst z') → Pm.Fin [] [.node true .lst z] (fun (v : D) (as : List D) => ∃ (z' : List D) (t : List RowT) (l : List Nat) (L : Int), v = .node false .tup [tabD t, .str (T l), .int L] ∧ as = [.node true .lst z'] ∧ EvB t l L ∧ Pen ns (a + 100) (.node true .lst z')) (.rt (.node false .tup [tabD t, .str (T l), .int (12 * (r - 5))])) [some (.node true .lst z'), x1, x2, x3, x4, x5, x6, x7, x8, x9, x10] :=
      fun z' t l x1 x2 x3 x4 x5 x6 x7 x8 x9 x10 h1 h2 => ⟨[.node true .lst z'], by simp [argsBack, reFrz, D.plain], z', t, l, 12 * (r - 5), rfl, rfl, h1, h2⟩
    generalize (fun (v : D) (as : List D) => ∃ (z' : List D) (t : List RowT) (l : List Nat) (L : Int), v = .node false .tup [tabD t, .str (T l), .int L] ∧ as = [.node true .lst z'] ∧ EvB t l L ∧ Pen ns (a + 100) (.node true .lst z')) = QQ at *
    have st1 : ∀ (Q : Fl → Pm.Env → Prop), Q .nx [some (.node true .lst z1), some (.int (12 * (r - 5))), none, none, none, none, none, none, none, none, none] → Wp (asg (Pm.bin hMulT (con (.int 12)) (Pm.bin (on2I iSub) (callF S__law_draw (aCons (loc 0) (aCons (con (.int 11)) aNil))) (con (.int 5)))) (gN 1)) [some (.node true .lst z), none, none, none, none, none, none, none, none, none, none] Q := fun Q hQ => by
      generalize S__law_draw = SD at *
      generalize hMulT = HM at *
      generalize 12 * (r - 5) = L at *
      simp [Wp, mkF, reFrz, seq, Pm.ite, rtn, mov, asg, drp, sNx, bnd, Pm.bin, Pm.un, app, aCons, aNil, idx, loc, con, Pm.ret, peek1, peeks, itemOf, on2I, iAdd, iSub, iGt, iGe, iLt, iLe, iDiv, iMod, use1, useL, gI, gN, tst, andT, orT, notT, andE, orE, notE, ifE, ixN, D.frz, D.plain, plainL, argsBack, opLen, opAbs, opInt1, opNeg, disp, cap, callF, takes, puts, selA, sel, aApp, par, gT, gsC, gs0, appF, opDivmod, frzL, plainL, e1, m1]
      exact hQ
    refine wp_seq fun K k1 k2 k3 k4 => st1 _ (k1 _ ?_)
    clear k1 k2 k3 k4 K st1
    obtain ⟨L, hL⟩ : ∃ L, 12 * (r - 5) = L := ⟨_, rfl⟩
    have ro := fun (Q : Fl → Pm.Env → Prop) x2 x8 x9 x10 => rows_ok (Q := Q) (z := z3) (es := es) (b1 := false) (b2 := true) (x2 := x2) (x8 := x8) (x9 := x9) (x10 := x10) hl p3 (by omega) r0 r1 (by omega) hec
    have hb : -60 ≤ L ∧ L ≤ 60 := by omega
    simp only [hL] at ro fin e2 e4 ⊢
    clear hL e1 m1
    have sl := frzL_of_plain _ (show plainL (es.map fun e => sg e.1) = true by
      have := Pg.sgs_plain (es.map (·.1))
      rw [List.map_map] at this
      exact this)
    have st2 : ∀ (Q : Fl → Pm.Env → Prop), Q .nx [some (.node true .lst z3), some (.int L), some (.node true .lst (lf.map sg)), some (.node false .lst (es.map fun e => sg e.1)), some (.node true .lst (es.map fun e => D.int (e.2 : Int))), some (.node true .lst []), none, none, none, none, none] →
        Wp (seq (asg (app opListA (aCons (con (.str "abcdefgh")) aNil)) (gN 2)) (seq (asg (app opSorted (aCons c_oleven_block_1 aNil)) (gN 3)) (seq (asg c_oleven_block_2 (gN 4)) (asg (disp true .lst aNil) (gN 5))))) [some (.node true .lst z1), some (.int L), none, none, none, none, none, none, none, none, none] Q := fun Q hQ => by
      generalize (es.map fun e => sg e.1) = A at *
      generalize (es.map fun e => D.int (e.2 : Int)) = B at *
      generalize lf.map sg = LF at *
      generalize ps.map sg = PS at *
      generalize H8.map sg = HH at *
      generalize c_oleven_block_1 = C1 at *
      generalize c_oleven_block_2 = C2 at *
      generalize opListA = OL at *
      generalize opSorted = OS at *
      refine wp_seq fun K k1 k2 k3 k4 => ?_
      simp [Wp, mkF, reFrz, seq, Pm.ite, rtn, mov, asg, drp, sNx, bnd, Pm.bin, Pm.un, app, aCons, aNil, idx, loc, con, Pm.ret, peek1, peeks, itemOf, on2I, iAdd, iSub, iGt, iGe, iLt, iLe, iDiv, iMod, use1, useL, gI, gN, tst, andT, orT, notT, andE, orE, notE, ifE, ixN, D.frz, D.plain, plainL, argsBack, opLen, opAbs, opInt1, opNeg, disp, cap, callF, takes, puts, selA, sel, aApp, par, gT, gsC, gs0, appF, opDivmod, frzL, plainL, eh]
      refine k1 _ ?_
      clear k1 k2 k3 k4 K
      refine wp_seq fun K k1 k2 k3 k4 => ?_
      simp [Wp, mkF, reFrz, seq, Pm.ite, rtn, mov, asg, drp, sNx, bnd, Pm.bin, Pm.un, app, aCons, aNil, idx, loc, con, Pm.ret, peek1, peeks, itemOf, on2I, iAdd, iSub, iGt, iGe, iLt, iLe, iDiv, iMod, use1, useL, gI, gN, tst, andT, orT, notT, andE, orE, notE, ifE, ixN, D.frz, D.plain, plainL, argsBack, opLen, opAbs, opInt1, opNeg, disp, cap, callF, takes, puts, selA, sel, aApp, par, gT, gsC, gs0, appF, opDivmod, frzL, plainL, e2, e3]
      refine k1 _ ?_
      clear k1 k2 k3 k4 K
      refine wp_seq fun K k1 k2 k3 k4 => ?_
      simp [Wp, mkF, reFrz, seq, Pm.ite, rtn, mov, asg, drp, sNx, bnd, Pm.bin, Pm.un, app, aCons, aNil, idx, loc, con, Pm.ret, peek1, peeks, itemOf, on2I, iAdd, iSub, iGt, iGe, iLt, iLe, iDiv, iMod, use1, useL, gI, gN, tst, andT, orT, notT, andE, orE, notE, ifE, ixN, D.frz, D.plain, plainL, argsBack, opLen, opAbs, opInt1, opNeg, disp, cap, callF, takes, puts, selA, sel, aApp, par, gT, gsC, gs0, appF, opDivmod, frzL, plainL, e4]
      refine k1 _ ?_
      clear k1 k2 k3 k4 K
      refine wp_end fun K k1 k2 k3 k4 => ?_
      simp [Wp, mkF, reFrz, seq, Pm.ite, rtn, mov, asg, drp, sNx, bnd, Pm.bin, Pm.un, app, aCons, aNil, idx, loc, con, Pm.ret, peek1, peeks, itemOf, on2I, iAdd, iSub, iGt, iGe, iLt, iLe, iDiv, iMod, use1, useL, gI, gN, tst, andT, orT, notT, andE, orE, notE, ifE, ixN, D.frz, D.plain, plainL, argsBack, opLen, opAbs, opInt1, opNeg, disp, cap, callF, takes, puts, selA, sel, aApp, par, gT, gsC, gs0, appF, opDivmod, frzL, plainL]
      exact k1 _ hQ
    rw [← seq_assoc4]
    refine wp_seq fun K k1 k2 k3 k4 => st2 _ (k1 _ ?_)
    clear k1 k2 k3 k4 K st2 e2 e3 e4 eh
    refine wp_seq fun K k1 k2 k3 k4 => ro _ _ _ _ _ fun z4 t x6 x7 hx hev p4 => k1 _ ?_
    clear k1 k2 k3 k4 K ro
    obtain ⟨q6, c7, rfl, rfl⟩ := hx (by omega)
    have pc := fun x0 x1 x2 x5 x8 x9 x10 => pool_comp (es := es) (q := q6) (c := c7) (x0 := x0) (x1 := x1) (x2 := x2) (x5 := x5) (x8 := x8) (x9 := x9) (x10 := x10) (by omega) hec
    have pj := join_ok true (es.map fun e => List.replicate e.2 e.1) (by show (poolL es).length ≤ 1000000; omega)
    have pl := list_T (l := poolL es) (by omega)
    change opJoin _ = some (.str (T (poolL es))) at pj
    obtain ⟨z5, rs, ec, p5, hrs⟩ := popall (es := es) hl p4 (by omega) (by omega) (x1 := some (.int L)) (x2 := some (.node true .lst (lf.map sg))) (x3 := some (.node false .lst (es.map fun e => sg e.1))) (x5 := some (.node true .lst (t.map rowD))) (x6 := some (sg q6)) (x7 := some (.int c7)) (x9 := none)
    have hrl : rs.length = (poolL es).length := hrs.length_eq
    have rj := Pg.join_sg true rs (by show _ ≤ 1000000; omega)
    have e0 := Pg.empty_T
    have hks := hev.ks
    rw [List.take_length] at hks
    have tl : t.length = es.length := by
      have := congrArg List.length hks
      rwa [List.length_map, List.length_map] at this
    have hle : lets t = qs := by
      unfold lets
      rw [hks, z1']
    have hq8 : ∀ c ∈ qs, 97 ≤ c ∧ c ≤ 122 := fun c hc => by
      have : c ∈ H8 := hperm.mem_iff.mp (List.mem_append_left _ (hqp.mem_iff.mp hc))
      simp only [List.mem_cons, List.not_mem_nil, or_false] at this
      omega
    have ev : EvB t rs L := by
      refine ⟨⟨by omega, by omega, ?_, fun r hr => hq8 _ (by rw [← hle]; exact List.mem_map_of_mem hr), hev.nm⟩, by omega, by omega, fun c hc => ?_, los_even (by rw [z1']; exact hqs.imp fun h => Nat.ne_of_lt h) hrs hks hev.st, hb.1, hb.2⟩
      · rw [hks, z1']
        exact hqs
      · obtain ⟨e, he, rfl⟩ := pool_mem (hrs.mem_iff.mp hc)
        rw [hle, ← z1']
        exact List.mem_map_of_mem he
    have tt : opTuple [.node true .lst (t.map rowD)] = some (tabD t) := by
      have rp := Pg.rows_plain t
      unfold tabD
      simp [opTuple, rp]
    have tp := tabD_plain t
    have tf := tabD_frz t
    have ff := fun x1 x2 x3 x4 x5 x6 x7 x8 x9 x10 => fin z5 t rs x1 x2 x3 x4 x5 x6 x7 x8 x9 x10 ev (p5.mono (by omega))
    clear fin ev hev
    generalize (es.map fun e => sg e.1) = A at *
    generalize (es.map fun e => D.int (e.2 : Int)) = B at *
    generalize ((es.map fun e => List.replicate e.2 e.1).map fun l => D.str (T l)) = PL at *
    generalize (poolL es).map sg = PM at *
    generalize T (poolL es) = TP at *
    generalize T rs = TR at *
    generalize T [] = T0 at *
    generalize rs.map sg = RM at *
    generalize tabD t = TT at *
    generalize t.map rowD = TRW at *
    generalize lf.map sg = LF at *
    generalize sg q6 = Q6 at *
    generalize c_oleven_block_3 = C3 at *
    generalize c_oleven_block_4 = C4 at *
    generalize opJoin = OJ at *
    generalize opListA = OL at *
    generalize opTuple = OT at *
    refine wp_seq fun K k1 k2 k3 k4 => ?_
    simp [Wp, mkF, reFrz, seq, Pm.ite, rtn, mov, asg, drp, sNx, bnd, Pm.bin, Pm.un, app, aCons, aNil, idx, loc, con, Pm.ret, peek1, peeks, itemOf, on2I, iAdd, iSub, iGt, iGe, iLt, iLe, iDiv, iMod, use1, useL, gI, gN, tst, andT, orT, notT, andE, orE, notE, ifE, ixN, D.frz, D.plain, plainL, argsBack, opLen, opAbs, opInt1, opNeg, disp, cap, callF, takes, puts, selA, sel, aApp, par, gT, gsC, gs0, appF, opDivmod, frzL, plainL, smet1, e0, pc, pj, pl]
    refine k1 _ ?_
    clear k1 k2 k3 k4 K
    refine wp_seq fun K k1 k2 k3 k4 => ?_
    simp [Wp, mkF, reFrz, seq, Pm.ite, rtn, mov, asg, drp, sNx, bnd, Pm.bin, Pm.un, app, aCons, aNil, idx, loc, con, Pm.ret, peek1, peeks, itemOf, on2I, iAdd, iSub, iGt, iGe, iLt, iLe, iDiv, iMod, use1, useL, gI, gN, tst, andT, orT, notT, andE, orE, notE, ifE, ixN, D.frz, D.plain, plainL, argsBack, opLen, opAbs, opInt1, opNeg, disp, cap, callF, takes, puts, selA, sel, aApp, par, gT, gsC, gs0, appF, opDivmod, frzL, plainL, smet1, e0, ec, rj]
    refine k1 _ ?_
    clear k1 k2 k3 k4 K
    refine wp_end fun K k1 k2 k3 k4 => ?_
    simp [Wp, mkF, reFrz, seq, Pm.ite, rtn, mov, asg, drp, sNx, bnd, Pm.bin, Pm.un, app, aCons, aNil, idx, loc, con, Pm.ret, peek1, peeks, itemOf, on2I, iAdd, iSub, iGt, iGe, iLt, iLe, iDiv, iMod, use1, useL, gI, gN, tst, andT, orT, notT, andE, orE, notE, ifE, ixN, D.frz, D.plain, plainL, argsBack, opLen, opAbs, opInt1, opNeg, disp, cap, callF, takes, puts, selA, sel, aApp, par, gT, gsC, gs0, appF, opDivmod, frzL, plainL, tt, tp, tf]
    exact k2 _ _ (ff _ _ _ _ _ _ _ _ _ _)
  obtain ⟨v, as, e, z', t, l, L, rfl, rfl, h1, h2⟩ := hw
  exact ⟨z', t, l, L, e, h1, h2⟩
theorem rt_plain (r : Option Nat) : (rtD r).plain = true := by cases r <;> rfl
theorem notN_rt (r : Option Nat) : opNotN [rtD r, .non] = some (.bl r.isSome) := by cases r <;> rfl
theorem isN_rt (r : Option Nat) : opIsN [rtD r, .non] = some (.bl (!r.isSome)) := by cases r <;> rfl
section
variable {t : List RowT} {l : List Nat} {n : Nat} {L : Int}
theorem moves_ok (hE : EvB t l L) (hn : n ≤ 10 ^ 30) {k m : Nat} (hk : k + m * l.length < l.length * n) :
    S__law_moves_right [repD true t l n, .str (T l), .int (k : Int), .int (m : Int)] = .ret (.bl true) [repD true t l n, .str (T l), .int (k : Int), .int (m : Int)] := by
  have ht := hE.rw
  have hl : l.length ≤ 1000 := by have := hE.l16; omega
  have hin := hE.inn
  have hs := strK_shift (t := t) (l := l) hE.l1 hE.los m
  have hk0 : k < l.length * n := by omega
  obtain ⟨a, e1, ha⟩ := weaker_l (o := true) (n := n) ht hl hin hk0
  obtain ⟨b, e2, hb⟩ := weaker_r (o := true) (n := n) ht hl hin hn hk0
  obtain ⟨a', e3, ha'⟩ := weaker_l (o := true) (n := n) ht hl hin hk
  obtain ⟨b', e4, hb'⟩ := weaker_r (o := true) (n := n) ht hl hin hn hk
  obtain ⟨h, hh⟩ : ∃ h, m * l.length = h := ⟨_, rfl⟩
  simp only [hh] at hs hk e3 e4 ha' hb'
  have c1 : ∀ x, a = some x → a' = some (x + h) := fun x hx => by
    subst hx
    exact ha'.uniq (left_shift hs ha)
  have c2 : ∀ x, b' = some x → ∃ c, x = c + h ∧ b = some c := fun x hx => by
    subst hx
    obtain ⟨c, ec, hc⟩ := right_back hs hb'
    exact ⟨c, ec, hb.uniq hc⟩
  have c3 : ∀ x, b = some x → x + h < l.length * n → b' = some (x + h) := fun x hx hlt => by
    subst hx
    exact hb'.uniq (right_shift hs hb hlt)
  clear ha hb ha' hb' hs
  have sz := size_ok (o := true) (t := t) (l := l) (n := n) hl
  have mh : hMulT [.int (m : Int), .int (l.length : Int)] = some (.int (h : Int)) := by
    rw [hMulT_ii, mulR (by have := hE.l16; omega), ← Int.natCast_mul, hh]
  have ll : opLen [.str (T l)] = some (.int (l.length : Int)) := by
    exact len_T (by show _ ≤ 1000000; omega)
  have ak : hAdd [.int (k : Int), .int (h : Int)] = some (.int ((k + h : Nat) : Int)) := by rw [hAdd_ii]; rfl
  have pa := rt_plain a
  have pb := rt_plain b
  have pa' := rt_plain a'
  have pb' := rt_plain b'
  have na := notN_rt a
  have nb := notN_rt b
  have nb' := notN_rt b'
  have ib' := isN_rt b'
  -- what is asked of the left one, of the right one
  have w1 : (a.isSome = true → ∃ d, hAdd [rtD a, .int (h : Int)] = some d ∧ opNe [rtD a', d] = some (.bl false)) := fun hsome => by
    obtain ⟨x, rfl⟩ := Option.isSome_iff_exists.mp hsome
    rw [c1 x rfl]
    refine ⟨.int ((x + h : Nat) : Int), hAdd_ii .., ?_⟩
    show opNe [.int ((x + h : Nat) : Int), _] = _
    rw [Pm.ne_int]
    simp
  have w2 : (b'.isSome = true → ∃ x : Nat, rtD b' = .int (x : Int) ∧ opNe [rtD b, .int ((x : Int) - (h : Int))] = some (.bl false)) := fun hsome => by
    obtain ⟨x, rfl⟩ := Option.isSome_iff_exists.mp hsome
    obtain ⟨c, rfl, rfl⟩ := c2 x rfl
    refine ⟨c + h, rfl, ?_⟩
    show opNe [.int (c : Int), _] = _
    rw [Pm.ne_int]
    congr 2
    simp
  have w3 : b.isSome = true → ∃ (x : Nat) (y : Int), rtD b = .int (x : Int) ∧ hAdd [.int (x : Int), .int (h : Int)] = some (.int y) ∧ ∃ q : Bool, opLtA [.int y, .int ((l.length * n : Nat) : Int)] = some (.bl q) ∧ (q = true → b'.isSome = true) := fun hsome => by
    obtain ⟨x, rfl⟩ := Option.isSome_iff_exists.mp hsome
    refine ⟨x, ((x + h : Nat) : Int), rfl, by rw [hAdd_ii]; rfl, decide (((x + h : Nat) : Int) < ((l.length * n : Nat) : Int)), rfl, fun hq => ?_⟩
    rw [c3 x rfl (by have := of_decide_eq_true hq; omega)]
    rfl
  have w4 : b.isSome = false → b'.isSome = false := fun hn => by
    cases b' with
    | none => rfl
    | some x =>
      obtain ⟨c, _, rfl⟩ := c2 x rfl
      cases hn
  have f1 := fun m hm ρ => c_rep (o := true) (t := t) (l := l) (n := n) (i := 0) (m := m) (ρ := some (repD true t l n) :: ρ) hm rfl
  have f2 := f1 "weaker" (by decide +kernel)
  have f3 := f1 "size" (by decide +kernel)
  clear f1 c1 c2 c3 hk hk0 hin hE ht
  rw [← e_weaker] at e1 e2 e3 e4
  rw [← e_size] at sz
  have hw : Wf S__law_moves_right [repD true t l n, .str (T l), .int (k : Int), .int (m : Int)] fun d as => d = .bl true ∧ as = [repD true t l n, .str (T l), .int (k : Int), .int (m : Int)] := by
    unfold S__law_moves_right
    refine wf_mkF ?_
    rw [bq_lmoves_right]
    show Wp _ [some (repD true t l n), some (.str (T l)), some (.int (k : Int)), some (.int (m : Int)), none, none, none] _
    have pR : (repD true t l n).plain = false := rfl
    generalize repD true t l n = R at *
    generalize T l = TL at *
    generalize ((l.length * n : Nat) : Int) = NN at *
    generalize ((k + h : Nat) : Int) = KH at *
    generalize (k : Int) = kk at *
    generalize (m : Int) = mm at *
    generalize hhh : (h : Int) = hI at *
    generalize (l.length : Int) = ll' at *
    generalize a.isSome = ba at *
    generalize b.isSome = bb at *
    generalize b'.isSome = bb' at *
    generalize rtD a = A at *
    generalize rtD b = B at *
    generalize rtD a' = A' at *
    generalize rtD b' = B' at *
    generalize S_Repeated__weaker = XW at *
    generalize S_Repeated__size = XZ at *
    generalize chk "Repeated" "weaker" (loc 0) = F2 at *
    generalize chk "Repeated" "size" (loc 0) = F3 at *
    generalize hMulT = HM at *
    generalize hAdd = HA at *
    generalize opLen = OL at *
    generalize opNe = ON at *
    generalize opNotN = OT at *
    generalize opIsN = OI at *
    generalize opLtA = OLt at *
    have i0 : ∀ X Y : D, atI [X, Y] 0 = some X := fun _ _ => rfl
    have i1 : ∀ X Y : D, atI [X, Y] 1 = some Y := fun _ _ => rfl
    refine wp_seq fun K k1 k2 k3 k4 => ?_
    simp [Wp, mkF, reFrz, seq, Pm.ite, rtn, mov, asg, drp, sNx, bnd, Pm.bin, Pm.un, app, aCons, aNil, idx, loc, con, Pm.ret, peek1, peeks, itemOf, on2I, iAdd, iSub, iGt, iGe, iLt, iLe, iDiv, iMod, use1, useL, gI, gN, tst, andT, orT, notT, andE, orE, notE, ifE, ixN, D.frz, D.plain, plainL, argsBack, opLen, opAbs, opInt1, opNeg, disp, cap, callF, takes, puts, selA, sel, aApp, par, gT, gsC, gs0, appF, opDivmod, frzL, plainL, ll, mh]
    refine k1 _ ?_
    clear k1 k2 k3 k4 K
    refine wp_seq fun K k1 k2 k3 k4 => ?_
    simp [Wp, mkF, reFrz, seq, Pm.ite, rtn, mov, asg, drp, sNx, bnd, Pm.bin, Pm.un, app, aCons, aNil, idx, loc, con, Pm.ret, peek1, peeks, itemOf, on2I, iAdd, iSub, iGt, iGe, iLt, iLe, iDiv, iMod, use1, useL, gI, gN, tst, andT, orT, notT, andE, orE, notE, ifE, ixN, D.frz, D.plain, plainL, argsBack, opLen, opAbs, opInt1, opNeg, disp, cap, callF, takes, puts, selA, sel, aApp, par, gT, gsC, gs0, appF, opDivmod, frzL, plainL, aDef, aApp, f2, e1, e2, pa, pb, pR]
    refine k1 _ ?_
    clear k1 k2 k3 k4 K
    refine wp_seq fun K k1 k2 k3 k4 => ?_
    simp [Wp, mkF, reFrz, seq, Pm.ite, rtn, mov, asg, drp, sNx, bnd, Pm.bin, Pm.un, app, aCons, aNil, idx, loc, con, Pm.ret, peek1, peeks, itemOf, on2I, iAdd, iSub, iGt, iGe, iLt, iLe, iDiv, iMod, use1, useL, gI, gN, tst, andT, orT, notT, andE, orE, notE, ifE, ixN, D.frz, D.plain, plainL, argsBack, opLen, opAbs, opInt1, opNeg, disp, cap, callF, takes, puts, selA, sel, aApp, par, gT, gsC, gs0, appF, opDivmod, frzL, plainL, aDef, aApp, f2, ak, e3, e4, pa', pb', pR]
    refine k1 _ ?_
    clear k1 k2 k3 k4 K
    have s4 : Pm.ite (andT (tst (Pm.bin OT (idx (aCons (loc 5) (aCons (con (.int 0)) aNil))) (con .non))) (tst (Pm.bin ON (idx (aCons (loc 6) (aCons (con (.int 0)) aNil))) (Pm.bin HA (idx (aCons (loc 5) (aCons (con (.int 0)) aNil))) (loc 4))))) (rtn (con (.bl false))) sNx [some R, some (.str TL), some (.int kk), some (.int mm), some (.int hI), some (.node false .tup [A, B]), some (.node false .tup [A', B'])] = .ok .nx [some R, some (.str TL), some (.int kk), some (.int mm), some (.int hI), some (.node false .tup [A, B]), some (.node false .tup [A', B'])] := by
      cases ba with
      | false => simp [mkF, reFrz, seq, Pm.ite, rtn, mov, asg, drp, sNx, bnd, Pm.bin, Pm.un, app, aCons, aNil, idx, loc, con, Pm.ret, peek1, peeks, itemOf, on2I, iAdd, iSub, iGt, iGe, iLt, iLe, iDiv, iMod, use1, useL, gI, gN, tst, andT, orT, notT, andE, orE, notE, ifE, ixN, D.frz, D.plain, plainL, argsBack, opLen, opAbs, opInt1, opNeg, disp, cap, callF, takes, puts, selA, sel, aApp, par, gT, gsC, gs0, appF, opDivmod, frzL, plainL, pa, pa', na]
      | true =>
        obtain ⟨d, h1, h2⟩ := w1 rfl
        simp [mkF, reFrz, seq, Pm.ite, rtn, mov, asg, drp, sNx, bnd, Pm.bin, Pm.un, app, aCons, aNil, idx, loc, con, Pm.ret, peek1, peeks, itemOf, on2I, iAdd, iSub, iGt, iGe, iLt, iLe, iDiv, iMod, use1, useL, gI, gN, tst, andT, orT, notT, andE, orE, notE, ifE, ixN, D.frz, D.plain, plainL, argsBack, opLen, opAbs, opInt1, opNeg, disp, cap, callF, takes, puts, selA, sel, aApp, par, gT, gsC, gs0, appF, opDivmod, frzL, plainL, pa, pa', na, h1, h2]
    refine wp_seq fun K k1 k2 k3 k4 => Wp.of s4 (k1 _ ?_)
    clear s4 k1 k2 k3 k4 K
    have s5 : Pm.ite (andT (tst (Pm.bin OT (idx (aCons (loc 6) (aCons (con (.int 1)) aNil))) (con .non))) (tst (Pm.bin ON (idx (aCons (loc 5) (aCons (con (.int 1)) aNil))) (Pm.bin (on2I iSub) (idx (aCons (loc 6) (aCons (con (.int 1)) aNil))) (loc 4))))) (rtn (con (.bl false))) sNx [some R, some (.str TL), some (.int kk), some (.int mm), some (.int hI), some (.node false .tup [A, B]), some (.node false .tup [A', B'])] = .ok .nx [some R, some (.str TL), some (.int kk), some (.int mm), some (.int hI), some (.node false .tup [A, B]), some (.node false .tup [A', B'])] := by
      cases bb' with
      | false => simp [mkF, reFrz, seq, Pm.ite, rtn, mov, asg, drp, sNx, bnd, Pm.bin, Pm.un, app, aCons, aNil, idx, loc, con, Pm.ret, peek1, peeks, itemOf, on2I, iAdd, iSub, iGt, iGe, iLt, iLe, iDiv, iMod, use1, useL, gI, gN, tst, andT, orT, notT, andE, orE, notE, ifE, ixN, D.frz, D.plain, plainL, argsBack, opLen, opAbs, opInt1, opNeg, disp, cap, callF, takes, puts, selA, sel, aApp, par, gT, gsC, gs0, appF, opDivmod, frzL, plainL, pb, pb', nb']
      | true =>
        obtain ⟨x, rfl, h2⟩ := w2 rfl
        simp [mkF, reFrz, seq, Pm.ite, rtn, mov, asg, drp, sNx, bnd, Pm.bin, Pm.un, app, aCons, aNil, idx, loc, con, Pm.ret, peek1, peeks, itemOf, on2I, iAdd, iSub, iGt, iGe, iLt, iLe, iDiv, iMod, use1, useL, gI, gN, tst, andT, orT, notT, andE, orE, notE, ifE, ixN, D.frz, D.plain, plainL, argsBack, opLen, opAbs, opInt1, opNeg, disp, cap, callF, takes, puts, selA, sel, aApp, par, gT, gsC, gs0, appF, opDivmod, frzL, plainL, pb, pb', nb', h2]
    refine wp_seq fun K k1 k2 k3 k4 => Wp.of s5 (k1 _ ?_)
    clear s5 k1 k2 k3 k4 K
    have s6 : Pm.ite (andT (tst (Pm.bin OT (idx (aCons (loc 5) (aCons (con (.int 1)) aNil))) (con .non))) (andT (tst (Pm.bin OLt (Pm.bin HA (idx (aCons (loc 5) (aCons (con (.int 1)) aNil))) (loc 4)) (callF (noX XZ) (aCons F3 aNil)))) (tst (Pm.bin OI (idx (aCons (loc 6) (aCons (con (.int 1)) aNil))) (con .non))))) (rtn (con (.bl false))) sNx [some R, some (.str TL), some (.int kk), some (.int mm), some (.int hI), some (.node false .tup [A, B]), some (.node false .tup [A', B'])] = .ok .nx [some R, some (.str TL), some (.int kk), some (.int mm), some (.int hI), some (.node false .tup [A, B]), some (.node false .tup [A', B'])] := by
      cases bb with
      | false => simp [mkF, reFrz, seq, Pm.ite, rtn, mov, asg, drp, sNx, bnd, Pm.bin, Pm.un, app, aCons, aNil, idx, loc, con, Pm.ret, peek1, peeks, itemOf, on2I, iAdd, iSub, iGt, iGe, iLt, iLe, iDiv, iMod, use1, useL, gI, gN, tst, andT, orT, notT, andE, orE, notE, ifE, ixN, D.frz, D.plain, plainL, argsBack, opLen, opAbs, opInt1, opNeg, disp, cap, callF, takes, puts, selA, sel, aApp, par, gT, gsC, gs0, appF, opDivmod, frzL, plainL, pb, pb', nb]
      | true =>
        obtain ⟨x, y, rfl, axh, q, h1, h2⟩ := w3 rfl
        cases q with
        | false => simp [mkF, reFrz, seq, Pm.ite, rtn, mov, asg, drp, sNx, bnd, Pm.bin, Pm.un, app, aCons, aNil, idx, loc, con, Pm.ret, peek1, peeks, itemOf, on2I, iAdd, iSub, iGt, iGe, iLt, iLe, iDiv, iMod, use1, useL, gI, gN, tst, andT, orT, notT, andE, orE, notE, ifE, ixN, D.frz, D.plain, plainL, argsBack, opLen, opAbs, opInt1, opNeg, disp, cap, callF, takes, puts, selA, sel, aApp, par, gT, gsC, gs0, appF, opDivmod, frzL, plainL, noX, pb, pb', nb, axh, f3, sz, pR, h1]
        | true =>
          have hb' := h2 rfl
          subst hb'
          simp [mkF, reFrz, seq, Pm.ite, rtn, mov, asg, drp, sNx, bnd, Pm.bin, Pm.un, app, aCons, aNil, idx, loc, con, Pm.ret, peek1, peeks, itemOf, on2I, iAdd, iSub, iGt, iGe, iLt, iLe, iDiv, iMod, use1, useL, gI, gN, tst, andT, orT, notT, andE, orE, notE, ifE, ixN, D.frz, D.plain, plainL, argsBack, opLen, opAbs, opInt1, opNeg, disp, cap, callF, takes, puts, selA, sel, aApp, par, gT, gsC, gs0, appF, opDivmod, frzL, plainL, noX, pb, pb', nb, axh, f3, sz, pR, h1, ib']
    refine wp_seq fun K k1 k2 k3 k4 => Wp.of s6 (k1 _ ?_)
    clear s6 k1 k2 k3 k4 K
    have s7 : rtn (orE (Pm.bin OT (idx (aCons (loc 5) (aCons (con (.int 1)) aNil))) (con .non)) (Pm.bin OI (idx (aCons (loc 6) (aCons (con (.int 1)) aNil))) (con .non))) [some R, some (.str TL), some (.int kk), some (.int mm), some (.int hI), some (.node false .tup [A, B]), some (.node false .tup [A', B'])] = .ok (.rt (.bl true)) [some R, some (.str TL), some (.int kk), some (.int mm), some (.int hI), some (.node false .tup [A, B]), some (.node false .tup [A', B'])] := by
      cases bb with
      | true => simp [mkF, reFrz, seq, Pm.ite, rtn, mov, asg, drp, sNx, bnd, Pm.bin, Pm.un, app, aCons, aNil, idx, loc, con, Pm.ret, peek1, peeks, itemOf, on2I, iAdd, iSub, iGt, iGe, iLt, iLe, iDiv, iMod, use1, useL, gI, gN, tst, andT, orT, notT, andE, orE, notE, ifE, ixN, D.frz, D.plain, plainL, argsBack, opLen, opAbs, opInt1, opNeg, disp, cap, callF, takes, puts, selA, sel, aApp, par, gT, gsC, gs0, appF, opDivmod, frzL, plainL, pb, pb', nb]
      | false =>
        have hb' := w4 rfl
        subst hb'
        simp [mkF, reFrz, seq, Pm.ite, rtn, mov, asg, drp, sNx, bnd, Pm.bin, Pm.un, app, aCons, aNil, idx, loc, con, Pm.ret, peek1, peeks, itemOf, on2I, iAdd, iSub, iGt, iGe, iLt, iLe, iDiv, iMod, use1, useL, gI, gN, tst, andT, orT, notT, andE, orE, notE, ifE, ixN, D.frz, D.plain, plainL, argsBack, opLen, opAbs, opInt1, opNeg, disp, cap, callF, takes, puts, selA, sel, aApp, par, gT, gsC, gs0, appF, opDivmod, frzL, plainL, pb, pb', nb, ib']
    refine Wp.of s7 ⟨[R, .str TL, .int kk, .int mm], by simp [argsBack, reFrz, pR], rfl, rfl⟩
  obtain ⟨d, as, e, rfl, rfl⟩ := hw
  exact e
end
theorem at4p {a b c d r : Int} (h0 : 0 ≤ r) (h1 : r < 4) : ∃ p, atI [D.int a, .int b, .int c, .int d] r = some (.int p) ∧ (p = a ∨ p = b ∨ p = c ∨ p = d) := Sc.at4i h0 h1
theorem min2 (x y : Int) : opMin2 [.int x, .int y] = some (.int (if y < x then y else x)) := rfl
theorem turn_ok {ns : List Int} {a : Int} {z : List D} {t : List RowT} {l : List Nat} {L : Int} {n : Nat} (hl : ns.length ≤ 63) (hp : Pen ns a (.node true .lst z)) (ha : a + 100 ≤ 1000000) (hE : EvB t l L) (n0 : 1 ≤ n) (n1 : n ≤ 10 ^ 30) {x0 x2 x8 x9 x10 x11 x12 : Option D} :
    ∃ z' y9 y10 y11 y12, b_olaw_1 [x0, some (.node true .lst z), x2, some (tabD t), some (.str (T l)), some (.int L), some (.int (n : Int)), some (repD true t l n), x8, x9, x10, x11, x12] = .ok .nx [x0, some (.node true .lst z'), x2, some (tabD t), some (.str (T l)), some (.int L), some (.int (n : Int)), some (repD true t l n), x8, y9, y10, y11, y12] ∧ Pen ns (a + 10) (.node true .lst z') := by
  have hb : (10 : Nat) ^ 30 = 1000000000000000000000000000000 := by decide
  have h2 : (2 : Nat) ^ 200 = 1606938044258990275541962092341162602522202993782792835301376 := by decide
  have dvn : ∀ m : Nat, m ≤ 100000000000000000000000000000000 → divOk (m : Int) = true := fun m hm => Sm.divOk (e := 200) (by unfold Sm; rw [Int.natAbs_natCast, h2]; omega) (by decide)
  obtain ⟨r1, z1, e1, r10, r11, p1⟩ := dr hS (m := (n : Int)) hl hp (by omega) (by omega) (dvn n (by omega))
  obtain ⟨r2, z2, e2, r20, r21, p2⟩ := dr hS (m := 4) hl p1 (by omega) (by decide) (by decide)
  obtain ⟨p, a4, hp4⟩ := at4p (a := 1) (b := r1) (c := (n : Int) - 1) (d := if (2 : Int) < (n : Int) - 1 then 2 else (n : Int) - 1) r20 r21
  have mA := min2 ((n : Int) - 1) 2
  obtain ⟨q, mB, hq⟩ : ∃ q : Nat, opMin2 [.int p, .int ((n : Int) - 1)] = some (.int (q : Int)) ∧ q < n := by
    have hp0 : 0 ≤ p := by
      rcases hp4 with h | h | h | h
      · omega
      · omega
      · omega
      · rw [h]; split <;> omega
    refine ⟨(if (n : Int) - 1 < p then (n : Int) - 1 else p).toNat, ?_, ?_⟩
    · rw [min2]
      congr 2
      split <;> omega
    · split <;> omega
  have w0 := hE.l1
  have w16 := hE.l16
  have ll : opLen [.str (T l)] = some (.int (l.length : Int)) := len_T (by show _ ≤ 1000000; omega)
  have mP : hMulT [.int (l.length : Int), .int ((n : Int) - (q : Int))] = some (.int ((l.length * (n - q) : Nat) : Int)) := by
    rw [hMulT_ii, mulL (by omega), Int.natCast_mul, Int.natCast_sub (by omega)]
  obtain ⟨r3, z3, e3, r30, r31, p3⟩ := dr hS (m := 2) hl p2 (by omega) (by decide) (by decide)
  have hprod : l.length ≤ l.length * (n - q) := Nat.le_mul_of_pos_right _ (by omega)
  have hprod2 : l.length * (n - q) + q * l.length = l.length * n := by
    rw [Nat.mul_comm q, ← Nat.mul_add]
    congr 1
    omega
  have hbig : l.length * n ≤ 16 * 10 ^ 30 := Nat.mul_le_mul w16 n1
  obtain ⟨pl, a2, hpl0, hpl⟩ : ∃ pl : Nat, atI [D.int (l.length : Int), .int ((l.length * (n - q) : Nat) : Int)] r3 = some (.int (pl : Int)) ∧ 0 < pl ∧ pl ≤ l.length * (n - q) := by
    have : r3 = 0 ∨ r3 = 1 := by omega
    rcases this with rfl | rfl
    · exact ⟨l.length, rfl, by omega, hprod⟩
    · exact ⟨l.length * (n - q), rfl, by omega, Nat.le_refl _⟩
  obtain ⟨r4, z4, e4, r40, r41, p4⟩ := dr hS (m := (pl : Int)) hl p3 (by omega) (by omega) (dvn pl (by omega))
  obtain ⟨k, rfl⟩ := Int.eq_ofNat_of_zero_le r40
  have hk : k + q * l.length < l.length * n := by omega
  have em := moves_ok (n := n) hE n1 hk
  have hl' : l.length ≤ 1000 := by omega
  have es1 := strength_ok (o := true) (n := n) hE.rw hl' hE.inn (k := k) (by omega)
  have es2 := strength_ok (o := true) (n := n) hE.rw hl' hE.inn (k := k + q * l.length) hk
  rw [strK_shift hE.l1 hE.los] at es2
  have mh : hMulT [.int (q : Int), .int (l.length : Int)] = some (.int ((q * l.length : Nat) : Int)) := by rw [hMulT_ii, mulR (by omega), Int.natCast_mul]
  have ak : hAdd [.int (k : Int), .int ((q * l.length : Nat) : Int)] = some (.int ((k + q * l.length : Nat) : Int)) := by rw [hAdd_ii]; rfl
  have mL : hMulT [.int (q : Int), .int L] = some (.int ((q : Int) * L)) := by rw [hMulT_ii, mulR (by have := hE.lo; have := hE.hi; omega)]
  have ne : opNe [.int (strK t l k - (strK t l k - (q : Int) * L)), .int ((q : Int) * L)] = some (.bl false) := by
    rw [Pm.ne_int]
    congr 2
    simp
    omega
  have f1 := fun m hm v0 v1 v2 v3 v4 v5 v6 ρ => c_rep (o := true) (t := t) (l := l) (n := n) (i := 7) (m := m) (ρ := v0 :: v1 :: v2 :: v3 :: v4 :: v5 :: v6 :: some (repD true t l n) :: ρ) hm rfl
  have f2 := f1 "strength_of" (by decide +kernel)
  clear f1
  rw [← e_strength] at es1 es2
  have pR : (repD true t l n).plain = false := rfl
  refine ⟨z4, some (.int (q : Int)), some (.int (pl : Int)), some (.int (k : Int)), some (.int ((k + q * l.length : Nat) : Int)), ?_, p4.mono (by omega)⟩
  unfold b_olaw_1
  clear hp4 hE hprod hprod2 hbig hpl hk hq
  generalize repD true t l n = R at *
  generalize tabD t = TT at *
  generalize T l = TL at *
  generalize strK t l k = S1 at *
  generalize hqL : (q : Int) * L = qL at *
  generalize S1 - qL = S2 at *
  generalize ((k + q * l.length : Nat) : Int) = kq at *
  generalize ((q * l.length : Nat) : Int) = qw at *
  generalize ((l.length * (n - q) : Nat) : Int) = pw at *
  generalize (if (2 : Int) < (n : Int) - 1 then 2 else (n : Int) - 1) = m2 at *
  generalize (n : Int) = nn at *
  generalize (q : Int) = qq at *
  generalize (pl : Int) = pp at *
  generalize (k : Int) = kk at *
  generalize (l.length : Int) = lw at *
  generalize S__law_draw = SD at *
  generalize S__law_moves_right = XM at *
  generalize S_Repeated__strength_of = XS at *
  generalize chk "Repeated" "strength_of" (loc 7) = F2 at *
  generalize hMulT = HM at *
  generalize hAdd = HA at *
  generalize opMin2 = OM at *
  generalize opLen = OL at *
  generalize opNe = ON at *
  simp [mkF, reFrz, seq, Pm.ite, rtn, mov, asg, drp, sNx, bnd, Pm.bin, Pm.un, app, aCons, aNil, idx, loc, con, Pm.ret, peek1, peeks, itemOf, on2I, iAdd, iSub, iGt, iGe, iLt, iLe, iDiv, iMod, use1, useL, gI, gN, tst, andT, orT, notT, andE, orE, notE, ifE, ixN, D.frz, D.plain, plainL, argsBack, opLen, opAbs, opInt1, opNeg, disp, cap, callF, takes, puts, selA, sel, aApp, par, gT, gsC, gs0, appF, opDivmod, frzL, plainL, e1, mA, e2, a4, mB, ll, mP, e3, a2, e4, em, mh, ak, es1, es2, mL, ne, f2, pR]
theorem lap_ok {ns : List Int} {a : Int} {z : List D} {j : Nat} {x0 x3 x4 x5 x6 x7 x8 x9 x10 x11 x12 : Option D} {Q : Fl → Pm.Env → Prop} (hl : ns.length ≤ 63) (hp : Pen ns a (.node true .lst z)) (ha : a + 5000 ≤ 1000000)
    (h : ∀ z' x3 x4 x5 x6 x7 x8 x9 x10 x11 x12, Pen ns (a + 2000) (.node true .lst z') → Q .nx [x0, some (.node true .lst z'), some (.int (j : Int)), x3, x4, x5, x6, x7, x8, x9, x10, x11, x12]) :
    Wp b_olaw_2 [x0, some (.node true .lst z), some (.int (j : Int)), x3, x4, x5, x6, x7, x8, x9, x10, x11, x12] Q := by
  obtain ⟨z1, t, l, L, e1, hE, p1⟩ := even_ok hl hp (by omega)
  obtain ⟨z2, n, e2, n0, n1, p2⟩ := great_ok hS hl p1 (by omega)
  have w0 := hE.l1
  have w16 := hE.l16
  have e3 := init_ok (t := t) (l := l) (n := n) hE.rw (by omega) hE.inn n0 n1
  rw [← e_great] at e2
  rw [← e_init] at e3
  have tt := tabD_plain t
  have tf := tabD_frz t
  have pR : (repD true t l n).plain = false := rfl
  have lp : ∀ (x8 x9 x10 x11 x12 : Option D) (Q' : Fl → Pm.Env → Prop), (∀ z' x8 x9 x10 x11 x12, Pen ns (a + 2000) (.node true .lst z') → Q' .nx [x0, some (.node true .lst z'), some (.int (j : Int)), some (tabD t), some (.str (T l)), some (.int L), some (.int (n : Int)), some (repD true t l n), x8, x9, x10, x11, x12]) →
      Wp (forS (srcR1 (aCons (con (.int 12)) aNil)) (gN 8) b_olaw_1) [x0, some (.node true .lst z2), some (.int (j : Int)), some (tabD t), some (.str (T l)), some (.int L), some (.int (n : Int)), some (repD true t l n), x8, x9, x10, x11, x12] Q' := fun x8 x9 x10 x11 x12 Q' hQ' => by
    have hsrc : srcR1 (aCons (con (.int 12)) aNil) [x0, some (.node true .lst z2), some (.int (j : Int)), some (tabD t), some (.str (T l)), some (.int L), some (.int (n : Int)), some (repD true t l n), x8, x9, x10, x11, x12] = .ok (rangeD 0 12) [x0, some (.node true .lst z2), some (.int (j : Int)), some (tabD t), some (.str (T l)), some (.int L), some (.int (n : Int)), some (repD true t l n), x8, x9, x10, x11, x12] := src_r1 (es := [.val (.int 12)]) (n := 12) rfl rfl (by decide)
    refine wp_for hsrc (fun i ρ => ∃ (z : List D) (x8 x9 x10 x11 x12 : Option D), ρ = [x0, some (.node true .lst z), some (.int (j : Int)), some (tabD t), some (.str (T l)), some (.int L), some (.int (n : Int)), some (repD true t l n), x8, x9, x10, x11, x12] ∧ Pen ns (a + 200 + 10 * i) (.node true .lst z)) ⟨z2, x8, x9, x10, x11, x12, rfl, p2.mono (by omega)⟩ ?_ ?_
    · rintro i d ρ hd ⟨z, x8, x9, x10, x11, x12, rfl, hp'⟩
      obtain ⟨hi, rfl⟩ := range_get hd
      obtain ⟨z', y9, y10, y11, y12, e, p'⟩ := turn_ok (x0 := x0) (x2 := some (.int (j : Int))) (x8 := some (.int (0 + (i : Int)))) (x9 := x9) (x10 := x10) (x11 := x11) (x12 := x12) hl hp' (by omega) hE n0 n1
      refine ⟨[x0, some (.node true .lst z), some (.int (j : Int)), some (tabD t), some (.str (T l)), some (.int L), some (.int (n : Int)), some (repD true t l n), some (.int (0 + (i : Int))), x9, x10, x11, x12], rfl, ?_⟩
      exact Wp.of e ⟨z', _, y9, y10, y11, y12, rfl, p'.mono (by omega)⟩
    · rintro ρ ⟨z, x8, x9, x10, x11, x12, rfl, hp'⟩
      exact hQ' z x8 x9 x10 x11 x12 (hp'.mono (by show a + 200 + 10 * ((12 : Nat) : Int) ≤ _; omega))
  unfold b_olaw_2
  clear hE p1 p2 hp
  generalize b_olaw_1 = B1 at *
  generalize repD true t l n = R at *
  generalize tabD t = TT at *
  generalize T l = TL at *
  generalize S__law_even_block = XE at *
  generalize S__law_great_number = XG at *
  generalize S_Repeated____init__ = XI at *
  refine wp_seq fun K k1 k2 k3 k4 => ?_
  simp [Wp, mkF, reFrz, seq, Pm.ite, rtn, mov, asg, drp, sNx, bnd, Pm.bin, Pm.un, app, aCons, aNil, idx, loc, con, Pm.ret, peek1, peeks, itemOf, on2I, iAdd, iSub, iGt, iGe, iLt, iLe, iDiv, iMod, use1, useL, gI, gN, tst, andT, orT, notT, andE, orE, notE, ifE, ixN, D.frz, D.plain, plainL, argsBack, opLen, opAbs, opInt1, opNeg, disp, cap, callF, takes, puts, selA, sel, aApp, par, gT, gsC, gs0, appF, opDivmod, frzL, plainL, e1, tt]
  refine k1 _ ?_
  clear k1 k2 k3 k4 K
  refine wp_seq fun K k1 k2 k3 k4 => ?_
  simp [Wp, mkF, reFrz, seq, Pm.ite, rtn, mov, asg, drp, sNx, bnd, Pm.bin, Pm.un, app, aCons, aNil, idx, loc, con, Pm.ret, peek1, peeks, itemOf, on2I, iAdd, iSub, iGt, iGe, iLt, iLe, iDiv, iMod, use1, useL, gI, gN, tst, andT, orT, notT, andE, orE, notE, ifE, ixN, D.frz, D.plain, plainL, argsBack, opLen, opAbs, opInt1, opNeg, disp, cap, callF, takes, puts, selA, sel, aApp, par, gT, gsC, gs0, appF, opDivmod, frzL, plainL, e2]
  refine k1 _ ?_
  clear k1 k2 k3 k4 K
  refine wp_seq fun K k1 k2 k3 k4 => ?_
  simp [Wp, mkF, reFrz, seq, Pm.ite, rtn, mov, asg, drp, sNx, bnd, Pm.bin, Pm.un, app, aCons, aNil, idx, loc, con, Pm.ret, peek1, peeks, itemOf, on2I, iAdd, iSub, iGt, iGe, iLt, iLe, iDiv, iMod, use1, useL, gI, gN, tst, andT, orT, notT, andE, orE, notE, ifE, ixN, D.frz, D.plain, plainL, argsBack, opLen, opAbs, opInt1, opNeg, disp, cap, callF, takes, puts, selA, sel, aApp, par, gT, gsC, gs0, appF, opDivmod, frzL, plainL, makeC, e3, tt]
  refine k1 _ ?_
  clear k1 k2 k3 k4 K
  exact lp _ _ _ _ _ _ fun z' x8 x9 x10 x11 x12 hp' => h z' _ _ _ _ _ x8 x9 x10 x11 x12 hp'
theorem law_ok (ns : List Int) (hl : ns.length ≤ 63) : ∃ as, S_law [.scr (ns.map D.int)] = .ret (.bl true) as := by
  obtain ⟨d0, ep, p0⟩ := pen_ok hl
  obtain ⟨z0, rfl⟩ := p0.owned
  have hw : Wf S_law [.scr (ns.map D.int)] fun d as => d = .bl true := by
    unfold S_law
    refine wf_mkF ?_
    rw [bq_law]
    show Wp _ [some (.scr (ns.map D.int)), none, none, none, none, none, none, none, none, none, none, none, none] _
    have pl := plain_ints ns
    refine wp_seq fun K k1 k2 k3 k4 => ?_
    simp [Wp, mkF, reFrz, seq, Pm.ite, rtn, mov, asg, drp, sNx, bnd, Pm.bin, Pm.un, app, aCons, aNil, idx, loc, con, Pm.ret, peek1, peeks, itemOf, on2I, iAdd, iSub, iGt, iGe, iLt, iLe, iDiv, iMod, use1, useL, gI, gN, tst, andT, orT, notT, andE, orE, notE, ifE, ixN, D.frz, D.plain, plainL, argsBack, opLen, opAbs, opInt1, opNeg, disp, cap, callF, takes, puts, selA, sel, aApp, par, gT, gsC, gs0, appF, opDivmod, frzL, plainL, e_pen, ep, pl]
    refine k1 _ ?_
    clear k1 k2 k3 k4 K
    refine wp_seq fun K0 j1 j2 j3 j4 => ?_
    have hsrc : srcR1 (aCons (con (.int 3)) aNil) [some (.scr (ns.map D.int)), some (.node true .lst z0), none, none, none, none, none, none, none, none, none, none, none] = .ok (rangeD 0 3) [some (.scr (ns.map D.int)), some (.node true .lst z0), none, none, none, none, none, none, none, none, none, none, none] := src_r1 (es := [.val (.int 3)]) (n := 3) rfl rfl (by decide)
    refine wp_for hsrc (fun j ρ => ∃ (z : List D) (x2 x3 x4 x5 x6 x7 x8 x9 x10 x11 x12 : Option D), ρ = [some (.scr (ns.map D.int)), some (.node true .lst z), x2, x3, x4, x5, x6, x7, x8, x9, x10, x11, x12] ∧ Pen ns (0 + 2000 * j) (.node true .lst z)) ⟨z0, none, none, none, none, none, none, none, none, none, none, none, rfl, p0.mono (by omega)⟩ ?_ ?_
    · rintro j d ρ hd ⟨z, x2, x3, x4, x5, x6, x7, x8, x9, x10, x11, x12, rfl, hp⟩
      obtain ⟨hj, rfl⟩ := range_get hd
      rw [Int.zero_add]
      refine ⟨_, rfl, ?_⟩
      exact lap_ok hl hp (by omega) fun z' x3 x4 x5 x6 x7 x8 x9 x10 x11 x12 hp' => ⟨z', _, x3, x4, x5, x6, x7, x8, x9, x10, x11, x12, rfl, hp'.mono (by omega)⟩
    · rintro ρ ⟨z, x2, x3, x4, x5, x6, x7, x8, x9, x10, x11, x12, rfl, -⟩
      refine j1 _ ?_
      clear j1 j2 j3 j4 K0 hsrc
      refine wp_end fun K k1 k2 k3 k4 => ?_
      simp [Wp, mkF, reFrz, seq, Pm.ite, rtn, mov, asg, drp, sNx, bnd, Pm.bin, Pm.un, app, aCons, aNil, idx, loc, con, Pm.ret, peek1, peeks, itemOf, on2I, iAdd, iSub, iGt, iGe, iLt, iLe, iDiv, iMod, use1, useL, gI, gN, tst, andT, orT, notT, andE, orE, notE, ifE, ixN, D.frz, D.plain, plainL, argsBack, opLen, opAbs, opInt1, opNeg, disp, cap, callF, takes, puts, selA, sel, aApp, par, gT, gsC, gs0, appF, opDivmod, frzL, plainL]
      exact k2 _ _ ⟨[.scr (ns.map D.int)], by simp [argsBack, reFrz, D.plain, pl], rfl⟩
  obtain ⟨d, as, e, rfl⟩ := hw
  exact ⟨as, e⟩
end Pk54
open PySem PySem.W PyProof.Rows
set_option maxHeartbeats 0 in
theorem PySem.Challenge.cw_wearbinds_k54_whole_blocks_that_lose_ali_holds : PySem.Challenge.rw_wearbinds_k54_whole_blocks_that_lose_ali.Holds := by
  w_on; o_law; k_head; (case hw => w_witness2)
  k_fill
  refine Pm.walkT (l := PySem.Challenge.rw_wearbinds_k54_whole_blocks_that_lose_ali) (n := 63) (k := 9) (x := "_law_script") (g := Pk54.S_law) rfl (by decide) rfl ⟨rfl, by decide, by decide⟩ (by intro w h Y; first | exact PySem.W.kIn_of Y | exact PySem.W.km_in_of Y) (fun w => by kernel_rfl) ?F Pk54.law_ok
  case F =>
    intro w mg fa h KX G hmg
    refine' Pk54.all_mk KX G hmg ?aK_Place ?pg_Place ?hd_Place ?po_Place ?sa_Place ?mk_Place ?kc_Place ?aK_Repeated ?pg_Repeated ?hd_Repeated ?po_Repeated ?sa_Repeated ?mk_Repeated ?kc_Repeated ?nf_Place_first_strength ?nf_Place_first_use ?nf_Place_loss ?nf_Place_mark ?nf_Place_uses ?nf_Repeated_origin ?nf_Repeated_pattern ?nf_Repeated_places ?nf_Repeated_repetitions ?ca_Repeated_MOST_TIMES ?cg_Repeated_MOST_TIMES ?a0 ?l0 ?c0 ?k0 ?a1 ?l1 ?c1 ?k1 ?a2 ?l2 ?c2 ?k2 ?a3 ?l3 ?c3 ?k3 ?a4 ?l4 ?c4 ?k4 ?a5 ?i5 ?l5 ?c5 ?k5 ?a6 ?l6 ?c6 ?k6 ?a7 ?r7 ?g7 ?w7 ?l7 ?c7 ?k7 ?a8 ?l8 ?c8 ?k8 ?a9 ?l9 ?c9 ?k9 ?a10 ?r10 ?g10 ?w10 ?l10 ?c10 ?k10 ?a11 ?i11 ?l11 ?c11 ?k11 ?a12 ?r12 ?g12 ?w12 ?l12 ?c12 ?k12 ?a13 ?i13 ?l13 ?c13 ?k13 ?a14 ?i14 ?l14 ?c14 ?k14 ?a15 ?i15 ?l15 ?c15 ?k15 ?a16 ?i16 ?l16 ?c16 ?k16 ?a17 ?l17 ?c17 ?k17 ?a18 ?i18 ?l18 ?c18 ?k18 ?a19 ?l19 ?c19 ?k19 ?a20 ?i20 ?l20 ?c20 ?k20 ?a21 ?i21 ?l21 ?n21_0 ?c21 ?k21 ?a22 ?l22 ?c22 ?k22 ?a23 ?l23 ?c23 ?k23 ?z_abs ?z_bool ?z_divmod ?z_enumerate ?z_int ?z_isinstance ?z_len ?z_list ?z_max ?z_min ?z_range ?z_sorted ?z_sum ?z_tuple ?z_zip ?aC_InvalidTimes ?ga_InvalidTimes ?gg_InvalidTimes ?eC_InvalidTimes ?hC_InvalidTimes ?ca_InvalidTimes ?mo_InvalidTimes ?tC_InvalidTimes ?aC_NoOperator ?ga_NoOperator ?gg_NoOperator ?eC_NoOperator ?hC_NoOperator ?ca_NoOperator ?mo_NoOperator ?tC_NoOperator ?aC_UnknownOperator ?ga_UnknownOperator ?gg_UnknownOperator ?eC_UnknownOperator ?hC_UnknownOperator ?ca_UnknownOperator ?mo_UnknownOperator ?tC_UnknownOperator ?aC_WearError ?ga_WearError ?gg_WearError ?eC_WearError ?hC_WearError ?ca_WearError ?mo_WearError ?tC_WearError ?spX ?tkX ?xL_InvalidTimes ?sa_InvalidTimes ?kC_InvalidTimes ?no_InvalidTimes ?iC_InvalidTimes ?tI_InvalidTimes ?il_InvalidTimes ?ic_InvalidTimes ?ik_InvalidTimes ?xL_NoOperator ?sa_NoOperator ?kC_NoOperator ?no_NoOperator ?iC_NoOperator ?tI_NoOperator ?il_NoOperator ?ic_NoOperator ?ik_NoOperator ?xL_UnknownOperator ?sa_UnknownOperator ?kC_UnknownOperator ?no_UnknownOperator ?iC_UnknownOperator ?tI_UnknownOperator ?il_UnknownOperator ?ic_UnknownOperator ?ik_UnknownOperator
    (case aK_Place => k_is); (case pg_Place => k_is); (case hd_Place => k_is); (case po_Place => k_is); (case sa_Place => k_is); (case mk_Place => k_is); (case kc_Place => k_is); (case aK_Repeated => k_is); (case pg_Repeated => k_is); (case hd_Repeated => k_is); (case po_Repeated => k_is); (case sa_Repeated => k_is); (case mk_Repeated => k_is); (case kc_Repeated => k_is); (case nf_Place_first_strength => k_is); (case nf_Place_first_use => k_is); (case nf_Place_loss => k_is); (case nf_Place_mark => k_is); (case nf_Place_uses => k_is); (case nf_Repeated_origin => k_is); (case nf_Repeated_pattern => k_is); (case nf_Repeated_places => k_is); (case nf_Repeated_repetitions => k_is); (case ca_Repeated_MOST_TIMES => k_is); (case cg_Repeated_MOST_TIMES => k_is); (case a0 => k_is); (case l0 => k_is); (case c0 => k_is); (case k0 => k_is); (case a1 => k_is); (case l1 => k_is); (case c1 => k_is); (case k1 => k_is); (case a2 => k_is); (case l2 => k_is); (case c2 => k_is); (case k2 => k_is); (case a3 => k_is); (case l3 => k_is); (case c3 => k_is); (case k3 => k_is); (case a4 => k_is); (case l4 => k_is); (case c4 => k_is); (case k4 => k_is); (case a5 => k_is); (case i5 => k_is); (case l5 => k_is); (case c5 => k_is); (case k5 => k_is); (case a6 => k_is); (case l6 => k_is); (case c6 => k_is); (case k6 => k_is); (case a7 => k_is); (case r7 => k_is); (case g7 => k_is); (case w7 => k_is); (case l7 => k_is); (case c7 => k_is); (case k7 => k_is); (case a8 => k_is); (case l8 => k_is); (case c8 => k_is); (case k8 => k_is); (case a9 => k_is); (case l9 => k_is); (case c9 => k_is); (case k9 => k_is); (case a10 => k_is); (case r10 => k_is); (case g10 => k_is); (case w10 => k_is); (case l10 => k_is); (case c10 => k_is); (case k10 => k_is); (case a11 => k_is); (case i11 => k_is); (case l11 => k_is); (case c11 => k_is); (case k11 => k_is); (case a12 => k_is); (case r12 => k_is); (case g12 => k_is); (case w12 => k_is); (case l12 => k_is); (case c12 => k_is); (case k12 => k_is); (case a13 => k_is); (case i13 => k_is); (case l13 => k_is); (case c13 => k_is); (case k13 => k_is); (case a14 => k_is); (case i14 => k_is); (case l14 => k_is); (case c14 => k_is); (case k14 => k_is); (case a15 => k_is); (case i15 => k_is); (case l15 => k_is); (case c15 => k_is); (case k15 => k_is); (case a16 => k_is); (case i16 => k_is); (case l16 => k_is); (case c16 => k_is); (case k16 => k_is); (case a17 => k_is); (case l17 => k_is); (case c17 => k_is); (case k17 => k_is); (case a18 => k_is); (case i18 => k_is); (case l18 => k_is); (case c18 => k_is); (case k18 => k_is); (case a19 => k_is); (case l19 => k_is); (case c19 => k_is); (case k19 => k_is); (case a20 => k_is); (case i20 => k_is); (case l20 => k_is); (case c20 => k_is); (case k20 => k_is); (case a21 => k_is); (case i21 => k_is); (case l21 => k_is); (case n21_0 => k_is); (case c21 => k_is); (case k21 => k_is); (case a22 => k_is); (case l22 => k_is); (case c22 => k_is); (case k22 => k_is); (case a23 => k_is); (case l23 => k_is); (case c23 => k_is); (case k23 => k_is); (case z_abs => k_is); (case z_bool => k_is); (case z_divmod => k_is); (case z_enumerate => k_is); (case z_int => k_is); (case z_isinstance => k_is); (case z_len => k_is); (case z_list => k_is); (case z_max => k_is); (case z_min => k_is); (case z_range => k_is); (case z_sorted => k_is); (case z_sum => k_is); (case z_tuple => k_is); (case z_zip => k_is); (case aC_InvalidTimes => first | k_is | rfl); (case ga_InvalidTimes => first | k_is | rfl); (case gg_InvalidTimes => first | k_is | rfl); (case eC_InvalidTimes => first | k_is | rfl); (case hC_InvalidTimes => first | k_is | rfl); (case ca_InvalidTimes => first | k_is | rfl); (case mo_InvalidTimes => first | k_is | rfl); (case tC_InvalidTimes => first | k_is | rfl); (case aC_NoOperator => first | k_is | rfl); (case ga_NoOperator => first | k_is | rfl); (case gg_NoOperator => first | k_is | rfl); (case eC_NoOperator => first | k_is | rfl); (case hC_NoOperator => first | k_is | rfl); (case ca_NoOperator => first | k_is | rfl); (case mo_NoOperator => first | k_is | rfl); (case tC_NoOperator => first | k_is | rfl); (case aC_UnknownOperator => first | k_is | rfl); (case ga_UnknownOperator => first | k_is | rfl); (case gg_UnknownOperator => first | k_is | rfl); (case eC_UnknownOperator => first | k_is | rfl); (case hC_UnknownOperator => first | k_is | rfl); (case ca_UnknownOperator => first | k_is | rfl); (case mo_UnknownOperator => first | k_is | rfl); (case tC_UnknownOperator => first | k_is | rfl); (case aC_WearError => first | k_is | rfl); (case ga_WearError => first | k_is | rfl); (case gg_WearError => first | k_is | rfl); (case eC_WearError => first | k_is | rfl); (case hC_WearError => first | k_is | rfl); (case ca_WearError => first | k_is | rfl); (case mo_WearError => first | k_is | rfl); (case tC_WearError => first | k_is | rfl); (case spX => first | k_is | rfl); (case tkX => first | k_is | rfl); (case xL_InvalidTimes => first | k_is | rfl); (case sa_InvalidTimes => first | k_is | rfl); (case kC_InvalidTimes => first | k_is | rfl); (case no_InvalidTimes => first | k_is | rfl); (case iC_InvalidTimes => first | k_is | rfl); (case tI_InvalidTimes => first | k_is | rfl); (case il_InvalidTimes => first | k_is | rfl); (case ic_InvalidTimes => first | k_is | rfl); (case ik_InvalidTimes => first | k_is | rfl); (case xL_NoOperator => first | k_is | rfl); (case sa_NoOperator => first | k_is | rfl); (case kC_NoOperator => first | k_is | rfl); (case no_NoOperator => first | k_is | rfl); (case iC_NoOperator => first | k_is | rfl); (case tI_NoOperator => first | k_is | rfl); (case il_NoOperator => first | k_is | rfl); (case ic_NoOperator => first | k_is | rfl); (case ik_NoOperator => first | k_is | rfl); (case xL_UnknownOperator => first | k_is | rfl); (case sa_UnknownOperator => first | k_is | rfl); (case kC_UnknownOperator => first | k_is | rfl); (case no_UnknownOperator => first | k_is | rfl); (case iC_UnknownOperator => first | k_is | rfl); (case tI_UnknownOperator => first | k_is | rfl); (case il_UnknownOperator => first | k_is | rfl); (case ic_UnknownOperator => first | k_is | rfl); (case ik_UnknownOperator => first | k_is | rfl)

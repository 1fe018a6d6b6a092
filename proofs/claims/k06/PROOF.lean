import PyProof.Rows.All
import Wide.All
import OpenK.AllK
import Wide.FinOn
import KE.KStateDown
import Lean
import HandS.ForMost
import HandS.Walk
import HandS.Wide
import HandS.Zip
import HandS.HeadHook1
import HandS.Defaults
import HandS.HeadEnd
import KE.KeyNested
import HandS.ExcField
import KE.KExcIs
import HandS.IsInst
import HandS.Deep
import HandS.TupAny
import HandS.Exc
import HandS.ExcOwn
import HandS.CallSlots
import HandS.TupMul
import PyProof.P3In
import PyProof.ReprRoads
import HandS.RaiseMore
import KE.GoesMore
import KE.GoesEnum
import HandS.FStr
import HandS.TryOnly
import HandS.Style
import HandS.Small
import KE.KUnpackStar
import HandS.ExcInit
import KE.KExcInit
import HandS.TryMany
import HandS.MakeKw
import HandS.DictComp
import HandS.Conv
import HandS.HeadHook2
import HandS.Words
import HandS.Head0
import HandS.Head1
import HandS.Head2
import PySem.Challenge.RW_slopeyard_k06_rows_written_and_read
set_option Elab.async false
set_option linter.all false
set_option maxRecDepth 100000
set_option maxHeartbeats 0
/-! S1: values with tuples and frozen lists as plain data, owned lists in slots; what they stand for on the layer's heap. -/
namespace SL
open PySem PySem.Spec L2

inductive SV where
  | non | bl (b : Bool) | int (i : Int) | str (x : Str)
  | tup (xs : List SV) | frz (xs : List SV) | own (xs : List SV) | ownD (kvs : List (Key × SV))
  | ref (a : Addr) | loc (i : Nat) | ty (n : String) | lkd (xs : List SV)

def SV.isOwn : SV → Bool
  | .own _ => true
  | .ownD _ => true
  | _ => false
/-- may be held in any place: no owned list, no place of one -/
def SV.plain : SV → Bool
  | .own _ => false
  | .ownD _ => false
  | .loc _ => false
  | _ => true

inductive Cell where
  | lst (xs : List SV)
  | dct (kvs : List (Key × SV))
  | ins (C : Str) (fs : List (Str × SV))

abbrev SHp := Addr → Option Cell
abbrev SSt := List (Option SV)
def SHp.set (h : SHp) (a : Addr) (c : Cell) : SHp := fun b => if b = a then some c else h b
def SHp.del (h : SHp) (a : Addr) : SHp := fun b => if b = a then none else h b
theorem SHp.set_same {h : SHp} {a : Addr} {c : Cell} : h.set a c a = some c := if_pos rfl
theorem SHp.set_ne {h : SHp} {a b : Addr} {c : Cell} (n : b ≠ a) : h.set a c b = h b := if_neg n
theorem SHp.del_same {h : SHp} {a : Addr} : h.del a a = none := if_pos rfl
theorem SHp.del_ne {h : SHp} {a b : Addr} (n : b ≠ a) : h.del a b = h b := if_neg n
theorem SHp.del_set {h : SHp} {a : Addr} {c : Cell} (n : h a = none) : (h.set a c).del a = h := by
  funext b
  by_cases e : b = a
  · subst e; rw [SHp.del_same, n]
  · rw [SHp.del_ne e, SHp.set_ne e]

abbrev ZS := Addr → Prop
/-- a list of the text, or a locked one -/
def LkdAt (K : PySem.W.Frag) (H : Hp) (a : Addr) (vs : List V) : Prop :=
  (∃ o, H a = some (.frz o (.lst vs))) ∨
    ∃ (o : Obj) (its : Array Value) (n : Nat), K.lookup a = some o ∧ o.cls = .type "list" ∧ o.dict = none ∧ o.data = .seq its n ∧ its.size ≤ sizeLine ∧ Vals vs its.toList
theorem LkdAt.sq {K : PySem.W.Frag} {H : Hp} {a : Addr} {vs : List V} (h : LkdAt K H a vs) : SqL K H a vs := by
  rcases h with ⟨o, h⟩ | h
  · exact .inl (.inr ⟨o, h⟩)
  · exact .inr h

mutual
def Rep (K : PySem.W.Frag) (Z : ZS) (H : Hp) : SV → V → Prop
  | .non, v => v = .non
  | .bl b, v => v = .bl b
  | .int i, v => v = .int i
  | .str x, v => v = .str x
  | .ty n, v => v = .ty n
  | .ref a, v => v = .ref a
  | .tup xs, v => ∃ a vs, v = .ref a ∧ SqT K H a vs ∧ Reps K Z H xs vs
  | .frz xs, v => ∃ a vs, v = .ref a ∧ (H a = some (.lst vs) ∧ Z a) ∧ Reps K Z H xs vs
  | .lkd xs, v => ∃ a vs, v = .ref a ∧ LkdAt K H a vs ∧ Reps K Z H xs vs
  | .own _, _ => False
  | .ownD _, _ => False
  | .loc _, _ => False
def Reps (K : PySem.W.Frag) (Z : ZS) (H : Hp) : List SV → List V → Prop
  | [], vs => vs = []
  | x :: xs, vs => ∃ v r, vs = v :: r ∧ Rep K Z H x v ∧ Reps K Z H xs r
end

/-- what stood and was plain stands -/
structure Keeps (Z : ZS) (H : Hp) (Z' : ZS) (H' : Hp) : Prop where
  z : ∀ a, Z a → Z' a
  hz : ∀ a o, Z a → H a = some o → H' a = some o
  tup : ∀ a xs, H a = some (.tup xs) → H' a = some (.tup xs)
  frz : ∀ a o u, H a = some (.frz o u) → H' a = some (.frz o u)
theorem Keeps.refl {Z : ZS} {H : Hp} : Keeps Z H Z H := ⟨fun _ h => h, fun _ _ _ h => h, fun _ _ h => h, fun _ _ _ h => h⟩
theorem Keeps.trans {Z Z1 Z2 : ZS} {H H1 H2 : Hp} (a : Keeps Z H Z1 H1) (b : Keeps Z1 H1 Z2 H2) : Keeps Z H Z2 H2 :=
  ⟨fun x h => b.z x (a.z x h), fun x o z h => b.hz x o (a.z x z) (a.hz x o z h), fun x xs h => b.tup x xs (a.tup x xs h), fun x o u h => b.frz x o u (a.frz x o u h)⟩
theorem LkdAt.keeps {K : PySem.W.Frag} {Z Z' : ZS} {H H' : Hp} {a : Addr} {vs : List V} (k : Keeps Z H Z' H') (h : LkdAt K H a vs) : LkdAt K H' a vs := by
  rcases h with ⟨o, h⟩ | h
  · exact .inl ⟨o, k.frz a o _ h⟩
  · exact .inr h
theorem sqT_keeps {K : PySem.W.Frag} {Z Z' : ZS} {H H' : Hp} {a : Addr} {vs : List V} (k : Keeps Z H Z' H') (h : SqT K H a vs) : SqT K H' a vs := by
  rcases h with (h | ⟨o, h⟩) | h
  · exact .inl (.inl (k.tup _ _ h))
  · exact .inl (.inr ⟨o, k.frz _ _ _ h⟩)
  · exact .inr h
mutual
theorem Rep.keeps {K : PySem.W.Frag} {Z Z' : ZS} {H H' : Hp} (k : Keeps Z H Z' H') : ∀ {d : SV} {v : V}, Rep K Z H d v → Rep K Z' H' d v
  | .non, _, h => by simpa [Rep] using h
  | .bl _, _, h => by simpa [Rep] using h
  | .int _, _, h => by simpa [Rep] using h
  | .str _, _, h => by simpa [Rep] using h
  | .ty _, _, h => by simpa [Rep] using h
  | .ref _, _, h => by simpa [Rep] using h
  | .tup xs, _, h => by
    obtain ⟨a, vs, e, s, r⟩ := (by simpa only [Rep] using h : ∃ a vs, _ ∧ _ ∧ _)
    simp only [Rep]
    exact ⟨a, vs, e, sqT_keeps k s, Reps.keeps k r⟩
  | .frz xs, _, h => by
    obtain ⟨a, vs, e, s, r⟩ := (by simpa only [Rep] using h : ∃ a vs, _ ∧ _ ∧ _)
    simp only [Rep]
    exact ⟨a, vs, e, ⟨k.hz a _ s.2 s.1, k.z a s.2⟩, Reps.keeps k r⟩
  | .lkd xs, _, h => by
    obtain ⟨a, vs, e, s, r⟩ := (by simpa only [Rep] using h : ∃ a vs, _ ∧ _ ∧ _)
    simp only [Rep]
    exact ⟨a, vs, e, s.keeps k, Reps.keeps k r⟩
  | .own _, _, h => by simp only [Rep] at h
  | .ownD _, _, h => by simp only [Rep] at h
  | .loc _, _, h => by simp only [Rep] at h
theorem Reps.keeps {K : PySem.W.Frag} {Z Z' : ZS} {H H' : Hp} (k : Keeps Z H Z' H') : ∀ {xs : List SV} {vs : List V}, Reps K Z H xs vs → Reps K Z' H' xs vs
  | [], _, h => by simpa [Reps] using h
  | x :: xs, _, h => by
    obtain ⟨v, r, e, h1, h2⟩ := (by simpa only [Reps] using h : ∃ v r, _ ∧ _ ∧ _)
    simp only [Reps]
    exact ⟨v, r, e, Rep.keeps k h1, Reps.keeps k h2⟩
end
section
variable {K : PySem.W.Frag} {Z : ZS} {H : Hp}
theorem Rep.plain {d : SV} {v : V} (h : Rep K Z H d v) : d.plain = true := by
  cases d <;> first | rfl | (simp only [Rep] at h)
theorem Rep.not_own {d : SV} {v : V} (h : Rep K Z H d v) : d.isOwn = false := by
  cases d <;> first | rfl | (simp only [Rep] at h)
theorem Reps.nil : Reps K Z H [] [] := by simp only [Reps]
theorem Reps.cons {x : SV} {xs : List SV} {v : V} {vs : List V} (a : Rep K Z H x v) (b : Reps K Z H xs vs) : Reps K Z H (x :: xs) (v :: vs) := by
  simp only [Reps]; exact ⟨v, vs, rfl, a, b⟩
theorem Reps.nil_inv {vs : List V} (h : Reps K Z H [] vs) : vs = [] := by simpa only [Reps] using h
theorem Reps.cons_inv {x : SV} {xs : List SV} {vs : List V} (h : Reps K Z H (x :: xs) vs) : ∃ v r, vs = v :: r ∧ Rep K Z H x v ∧ Reps K Z H xs r := by simpa only [Reps] using h
theorem Reps.length : ∀ {xs : List SV} {vs : List V}, Reps K Z H xs vs → vs.length = xs.length
  | [], _, h => by rw [h.nil_inv]; rfl
  | x :: xs, _, h => by
    obtain ⟨v, r, e, h1, h2⟩ := h.cons_inv
    subst e
    simp only [List.length_cons, Reps.length h2]
theorem Reps.get : ∀ {xs : List SV} {vs : List V} {i : Nat} {x : SV}, Reps K Z H xs vs → xs[i]? = some x → ∃ v, vs[i]? = some v ∧ Rep K Z H x v
  | [], _, _, _, _, e => by simp at e
  | y :: ys, _, 0, x, h, e => by
    obtain ⟨v, r, e1, h1, h2⟩ := h.cons_inv
    subst e1
    simp at e; subst e
    exact ⟨v, rfl, h1⟩
  | y :: ys, _, i + 1, x, h, e => by
    obtain ⟨v, r, e1, h1, h2⟩ := h.cons_inv
    subst e1
    obtain ⟨w, hw, rw'⟩ := Reps.get (i := i) h2 (by simpa using e)
    exact ⟨w, by simpa using hw, rw'⟩
theorem Reps.append : ∀ {xs ys : List SV} {vs ws : List V}, Reps K Z H xs vs → Reps K Z H ys ws → Reps K Z H (xs ++ ys) (vs ++ ws)
  | [], _, _, _, h, g => by rw [h.nil_inv]; exact g
  | x :: xs, ys, _, _, h, g => by
    obtain ⟨v, r, e, h1, h2⟩ := h.cons_inv
    subst e
    exact .cons h1 (Reps.append h2 g)
theorem Reps.set : ∀ {xs : List SV} {vs : List V} {x : SV} {v : V} (i : Nat), Reps K Z H xs vs → Rep K Z H x v → Reps K Z H (xs.set i x) (vs.set i v)
  | [], _, _, _, _, h, _ => by rw [h.nil_inv]; exact .nil
  | y :: ys, _, _, _, 0, h, g => by
    obtain ⟨w, r, e, h1, h2⟩ := h.cons_inv
    subst e
    exact .cons g h2
  | y :: ys, _, _, _, i + 1, h, g => by
    obtain ⟨w, r, e, h1, h2⟩ := h.cons_inv
    subst e
    exact .cons h1 (Reps.set i h2 g)
theorem Reps.take : ∀ {xs : List SV} {vs : List V} (n : Nat), Reps K Z H xs vs → Reps K Z H (xs.take n) (vs.take n)
  | _, _, 0, _ => by simpa using Reps.nil
  | [], _, n + 1, h => by rw [h.nil_inv]; exact .nil
  | x :: xs, _, n + 1, h => by
    obtain ⟨v, r, e, h1, h2⟩ := h.cons_inv
    subst e
    exact .cons h1 (Reps.take n h2)
theorem Reps.drop : ∀ {xs : List SV} {vs : List V} (n : Nat), Reps K Z H xs vs → Reps K Z H (xs.drop n) (vs.drop n)
  | _, _, 0, h => by simpa using h
  | [], _, n + 1, h => by rw [h.nil_inv]; exact .nil
  | x :: xs, _, n + 1, h => by
    obtain ⟨v, r, e, h1, h2⟩ := h.cons_inv
    subst e
    exact Reps.drop n h2
theorem Reps.replicate {x : SV} {v : V} (h : Rep K Z H x v) : ∀ n, Reps K Z H (List.replicate n x) (List.replicate n v)
  | 0 => .nil
  | n + 1 => .cons h (Reps.replicate h n)
theorem Reps.ints : ∀ (ns : List Int), Reps K Z H (ns.map SV.int) (ns.map V.int)
  | [] => .nil
  | _ :: r => .cons (by simp only [Rep]) (Reps.ints r)
end

/-- a tracked cell -/
def CRep (K : PySem.W.Frag) (Z : ZS) (H : Hp) (p : Addr) : Cell → Prop
  | .lst xs => ∃ vs, H p = some (.lst vs) ∧ Reps K Z H xs vs
  | .dct kvs => ∃ us, H p = some (.dK us) ∧ us.map (·.1) = kvs.map (·.1) ∧ Reps K Z H (kvs.map (·.2)) (us.map (·.2))
  | .ins C fs => ∃ dx us, H p = some (.ins (He.ga K C) dx us) ∧ us.map (·.1) = fs.map (·.1) ∧ Reps K Z H (fs.map (·.2)) (us.map (·.2))
theorem CRep.keeps {K : PySem.W.Frag} {Z Z' : ZS} {H H' : Hp} {p : Addr} {c : Cell} (k : Keeps Z H Z' H') (e : H' p = H p) (h : CRep K Z H p c) : CRep K Z' H' p c := by
  cases c with
  | lst xs => obtain ⟨vs, h1, h2⟩ := h; exact ⟨vs, e.trans h1, h2.keeps k⟩
  | dct kvs => obtain ⟨vs, h1, h2, h3⟩ := h; exact ⟨vs, e.trans h1, h2, h3.keeps k⟩
  | ins C fs => obtain ⟨dx, vs, h1, h2, h3⟩ := h; exact ⟨dx, vs, e.trans h1, h2, h3.keeps k⟩
theorem CRep.there {K : PySem.W.Frag} {Z : ZS} {H : Hp} {p : Addr} {c : Cell} (h : CRep K Z H p c) : ∃ o, H p = some o ∧ (∀ xs, o ≠ .tup xs) ∧ (∀ b u, o ≠ .frz b u) := by
  cases c with
  | lst xs => obtain ⟨vs, h1, h2⟩ := h; exact ⟨_, h1, (fun _ z => by cases z), (fun _ _ z => by cases z)⟩
  | dct kvs => obtain ⟨vs, h1, h2, h3⟩ := h; exact ⟨_, h1, (fun _ z => by cases z), (fun _ _ z => by cases z)⟩
  | ins C fs => obtain ⟨dx, vs, h1, h2, h3⟩ := h; exact ⟨_, h1, (fun _ z => by cases z), (fun _ _ z => by cases z)⟩

/-- the heap's cells are as told -/
structure HRel (K : PySem.W.Frag) (Z : ZS) (h : SHp) (H : Hp) : Prop where
  cell : ∀ p c, h p = some c → CRep K Z H p c
  frz : ∀ a, Z a → h a = none
  zin : ∀ a, Z a → H a ≠ none
theorem HRel.tup_un {K : PySem.W.Frag} {Z : ZS} {h : SHp} {H : Hp} (r : HRel K Z h H) {a : Addr} {xs : List V} (e : H a = some (.tup xs)) : h a = none := by
  cases q : h a with
  | none => rfl
  | some c =>
    obtain ⟨o, e1, n, _⟩ := (r.cell a c q).there
    rw [e] at e1
    exact absurd (Option.some.inj e1).symm (n xs)
theorem HRel.frz_un {K : PySem.W.Frag} {Z : ZS} {h : SHp} {H : Hp} (r : HRel K Z h H) {a : Addr} {o : Obj} {u : HO} (e : H a = some (.frz o u)) : h a = none := by
  cases q : h a with
  | none => rfl
  | some c =>
    obtain ⟨x, e1, _, n⟩ := (r.cell a c q).there
    rw [e] at e1
    exact absurd (Option.some.inj e1).symm (n o u)

/-- what a piece of code leaves as it was: O are the owned lists' places -/
structure Fr (O : Addr → Prop) (h : SHp) (H : Hp) (Z : ZS) (h' : SHp) (H' : Hp) (Z' : ZS) : Prop where
  keep : ∀ a o, H a = some o → h a = none → ¬ O a → H' a = some o
  untr : ∀ a, H a ≠ none → h a = none → ¬ O a → h' a = none
  track : ∀ a, H a ≠ none → H' a ≠ none
  zmono : ∀ a, Z a → Z' a
  znew : ∀ a, Z' a → Z a ∨ H a = none ∨ h a ≠ none ∨ O a
theorem Fr.refl {O : Addr → Prop} {h : SHp} {H : Hp} {Z : ZS} : Fr O h H Z h H Z :=
  ⟨fun _ _ e _ _ => e, fun _ _ e _ => e, fun _ e => e, fun _ e => e, fun _ e => .inl e⟩
theorem Fr.trans {O O' : Addr → Prop} {h h1 h2 : SHp} {H H1 H2 : Hp} {Z Z1 Z2 : ZS} (a : Fr O h H Z h1 H1 Z1) (b : Fr O' h1 H1 Z1 h2 H2 Z2) (s : ∀ x, O' x → H x ≠ none → O x) : Fr O h H Z h2 H2 Z2 where
  keep := fun x o e n no => b.keep x o (a.keep x o e n no) (a.untr x (by rw [e]; exact Option.some_ne_none _) n no) fun z => no (s x z (by rw [e]; exact Option.some_ne_none _))
  untr := fun x e n no => b.untr x (a.track x e) (a.untr x e n no) fun z => no (s x z e)
  track := fun x e => b.track x (a.track x e)
  zmono := fun x z => b.zmono x (a.zmono x z)
  znew := fun x z => by
    by_cases hx : H x = none
    · exact .inr (.inl hx)
    · by_cases hh : h x = none
      · by_cases ho : O x
        · exact .inr (.inr (.inr ho))
        · rcases b.znew x z with q | q | q | q
          · exact a.znew x q
          · exact absurd q (a.track x hx)
          · exact absurd (a.untr x hx hh ho) q
          · exact absurd (s x q hx) ho
      · exact .inr (.inr (.inl hh))
theorem Fr.keeps {K : PySem.W.Frag} {O : Addr → Prop} {h h' : SHp} {H H' : Hp} {Z Z' : ZS} (r : HRel K Z h H) (f : Fr O h H Z h' H' Z') (no : ∀ a, O a → ¬ Z a ∧ (∀ xs, H a ≠ some (.tup xs)) ∧ ∀ o u, H a ≠ some (.frz o u)) : Keeps Z H Z' H' where
  z := f.zmono
  hz := fun a o z e => f.keep a o e (r.frz a z) fun q => (no a q).1 z
  tup := fun a xs e => f.keep a _ e (r.tup_un e) fun q => (no a q).2.1 xs e
  frz := fun a o u e => f.keep a _ e (r.frz_un e) fun q => (no a q).2.2 o u e

/-- an owned list or dict at its place -/
def OwnAt (K : PySem.W.Frag) (Z : ZS) (H : Hp) (a : Addr) : SV → Prop
  | .own xs => ∃ vs, H a = some (.lst vs) ∧ Reps K Z H xs vs
  | .ownD kvs => ∃ us, H a = some (.dK us) ∧ us.map (·.1) = kvs.map (·.1) ∧ Reps K Z H (kvs.map (·.2)) (us.map (·.2))
  | _ => False
theorem OwnAt.keeps {K : PySem.W.Frag} {Z Z' : ZS} {H H' : Hp} {a : Addr} {d : SV} (k : Keeps Z H Z' H') (e : H' a = H a) (h : OwnAt K Z H a d) : OwnAt K Z' H' a d := by
  cases d with
  | own xs => obtain ⟨vs, h1, h2⟩ := h; exact ⟨vs, e.trans h1, h2.keeps k⟩
  | ownD kvs => obtain ⟨vs, h1, h2, h3⟩ := h; exact ⟨vs, e.trans h1, h2, h3.keeps k⟩
  | _ => exact h.elim
theorem OwnAt.is {K : PySem.W.Frag} {Z : ZS} {H : Hp} {a : Addr} {d : SV} (h : OwnAt K Z H a d) : d.isOwn = true := by
  cases d <;> first | rfl | exact h.elim
theorem OwnAt.there {K : PySem.W.Frag} {Z : ZS} {H : Hp} {a : Addr} {d : SV} (h : OwnAt K Z H a d) : ∃ o, H a = some o ∧ (∀ xs, o ≠ .tup xs) ∧ (∀ b u, o ≠ .frz b u) := by
  cases d with
  | own xs => obtain ⟨vs, h1, h2⟩ := h; exact ⟨_, h1, (fun _ z => by cases z), (fun _ _ z => by cases z)⟩
  | ownD kvs => obtain ⟨vs, h1, h2, h3⟩ := h; exact ⟨_, h1, (fun _ z => by cases z), (fun _ _ z => by cases z)⟩
  | _ => exact h.elim

/-- the entry of the def -/
structure Ey where
  h : SHp
  H : Hp
  Z : ZS
  Ha : Hp
  Za : ZS
/-- what stands behind the entry, and behind the last try -/
structure FrA (Y : Ey) (h : SHp) (H : Hp) (Z : ZS) : Prop extends Fr (fun _ => False) Y.h Y.H Y.Z h H Z where
  anc : Keeps Y.Za Y.Ha Z H
/-- a slot's value -/
def SRep (K : PySem.W.Frag) (H0 : Hp) (Z : ZS) (h : SHp) (H : Hp) (d : SV) (v : V) : Prop :=
  (d.isOwn = true ∧ ∃ a, v = .ref a ∧ OwnAt K Z H a d ∧ h a = none ∧ ¬ Z a ∧ H0 a = none) ∨ (d.isOwn = false ∧ Rep K Z H d v)
/-- the places of the owned lists -/
def Owns (δ : SSt) (σ : St) (a : Addr) : Prop := ∃ (i : Nat) (d : SV), δ[i]? = some (some d) ∧ d.isOwn = true ∧ σ[i]? = some (some (.ref a))
structure Rel (K : PySem.W.Frag) (Y : Ey) (Z : ZS) (δ : SSt) (h : SHp) (σ : St) (H : Hp) : Prop where
  hr : HRel K Z h H
  ent : FrA Y h H Z
  len : δ.length = σ.length
  slot : ∀ (i : Nat) (d : SV), δ[i]? = some (some d) → ∃ v, σ[i]? = some (some v) ∧ SRep K Y.H Z h H d v
  dist : ∀ (i j : Nat) (d e : SV) (v : V), δ[i]? = some (some d) → δ[j]? = some (some e) → d.isOwn = true → e.isOwn = true → σ[i]? = some (some v) → σ[j]? = some (some v) → i = j
section
variable {K : PySem.W.Frag} {Y : Ey} {Z : ZS} {δ : SSt} {h : SHp} {σ : St} {H : Hp}
theorem Rel.own (R : Rel K Y Z δ h σ H) {a : Addr} (o : Owns δ σ a) : ∃ (i : Nat) (d : SV), δ[i]? = some (some d) ∧ σ[i]? = some (some (V.ref a)) ∧ OwnAt K Z H a d ∧ h a = none ∧ ¬ Z a ∧ Y.H a = none := by
  obtain ⟨i, d, e, n, s⟩ := o
  obtain ⟨v, ev, r⟩ := R.slot i d e
  rw [s] at ev
  cases ev
  rcases r with ⟨_, b, eb, r⟩ | ⟨q, _⟩
  · cases eb
    exact ⟨i, d, e, s, r⟩
  · rw [n] at q; cases q
theorem Rel.noO (R : Rel K Y Z δ h σ H) : ∀ a, Owns δ σ a → ¬ Z a ∧ (∀ xs, H a ≠ Option.some (.tup xs)) ∧ ∀ o u, H a ≠ Option.some (.frz o u) := fun a o => by
  obtain ⟨i, d, _, _, oa, _, nz, _⟩ := R.own o
  obtain ⟨ob, e, n1, n2⟩ := oa.there
  exact ⟨nz, fun xs q => n1 xs (Option.some.inj (e.symm.trans q)), fun b u q => n2 b u (Option.some.inj (e.symm.trans q))⟩
/-- the code between: plain things stand -/
theorem Rel.keeps (R : Rel K Y Z δ h σ H) {h' : SHp} {H' : Hp} {Z' : ZS} (f : Fr (Owns δ σ) h H Z h' H' Z') : Keeps Z H Z' H' := f.keeps R.hr R.noO
end
end SL
/-! G0: what a def promises where nothing is being shown. -/
namespace SL
open PySem PySem.Spec PyProof.Rows L2
/-- a def's promise in a place that bears no guards -/
structure FnG (P : Program) (w : World) (K : PySem.W.Frag) (mg : Str → Option Value) (base : Heap) (CX : CXT) (k : Nat) (f : Addr) (fd : FuncData) (ps : List Str) (sp : Sp) : Prop where
  len : ∀ xs G Q E, sp xs G Q E → xs.length = ps.length
  run : ∀ (A : Around) (out : List Env) (s : Shared) (G : Hp) (ar : Args) (us : List Value) (xs : List V) (Q : VK) (E : XK), Room k A → A.guards = some [] → Env0 P w K mg base A out s G → BindsTo s fd ar (ps.zip us) → Vals xs us → sp xs G Q E → codeAny (model P w) A (.call (.ref f) ar) (CR CX out P w G s Q E) s
section
variable {P : Program} {w : World} {K : PySem.W.Frag} {mg : Str → Option Value} {base : Heap} {CX : CXT} {k : Nat} {f : Addr} {fd : FuncData} {ps N : List Str} {sp : Sp}
theorem FnG.of (F : FnOk P w K mg base CX k f fd ps sp) : FnG P w K mg base CX k f fd ps sp := ⟨F.len, fun A out s G ar us xs Q E r _ e b v h => F.run A out s G ar us xs Q E r e b v h⟩
theorem FnG.mono {j : Nat} (F : FnG P w K mg base CX j f fd ps sp) (h : j ≤ k) : FnG P w K mg base CX k f fd ps sp := ⟨F.len, fun A out s G ar us xs Q E r => F.run A out s G ar us xs Q E (r.mono h)⟩
theorem deeper_guards {A : Around} {env : Env} (h : A.guards = some []) : (A.deeper env).guards = some [] := by
  first | exact h | (simp [Around.deeper, h])
theorem make_guards {A : Around} {C : Addr} {us : List Value} {kw : List (Str × Value)} (h : A.guards = some []) : (A.under (.builtin "type.__call__" ⟨.ref C :: us, kw⟩)).guards = some [] := by
  have q : guardIds.contains "type.__call__" = false := by decide
  have e : (Code.builtin "type.__call__" ⟨.ref C :: us, kw⟩).guards = [] := by
    unfold Code.guards
    exact if_neg (by show ¬ guardIds.contains "type.__call__" = true; rw [q]; decide)
  unfold Around.under
  show pushGuards (Code.guards (Code.builtin "type.__call__" ⟨.ref C :: us, kw⟩)) A.guards = some []
  rw [e, h]
  rfl
/-- a def by its body -/
theorem fnG_of {x qual : Str} {params : Arguments} {body : List Stmt} {scope : Scope} {dvs : List V} {kws : List (Str × V)} (F : FunD K x qual params body scope dvs kws f fd) (S : FnScope N ps scope) (len : ∀ xs G Q E, sp xs G Q E → xs.length = ps.length)
    (hb : ∀ (cd : Value) (A : Around) (out : List Env) (s : Shared) (G : Hp) (xs : List V) (Q : VK) (E : XK), Room k (A.deeper (envOfC qual scope s.heap.objs.size f cd)) → A.guards = some [] → sp xs G Q E →
      ∃ t, PSs (cxOf CX P w K mg base N qual scope f cd A out s G E) body t ∧ t { nx := fun _ H' => Q .non H', rt := Q } (start N xs) G) : FnG P w K mg base CX (k + 1) f fd ps sp := by
  obtain ⟨oc, od, dV, kV, doc, pm, an, cd, ct, osl, rfl, look, code, _, _⟩ := F.ex
  refine ⟨len, fun A out s G ar us xs Q E room gd e0 bound vals want => ?_⟩
  have many := len _ _ _ _ want
  have kin : K.In s.heap := e0.mod.kin.keeps fun b o e => (e0.bs b o e).1
  have nolim : s.heap.NoLimit := e0.mod.nolimit.keeps fun b o e => (e0.bs b o e).1
  refine codeAny_call_function room.depth (kin _ _ look) rfl S.co S.gen rfl (PySem.W.codeRec_of kin code) (bound _ _ _ _ ?_)
  refine wpAny_newFunctionEnv_cells S.kind ?_ ?_
  · rintro ⟨n, v⟩ m
    rcases S.par n (List.of_mem_zip m).1 with q | q
    · exact .inl q
    · exact .inr ⟨q, PySem.W.cellsFrom_some _ _ _ (.inl q)⟩
  rintro env rfl s1 inn
  refine ⟨nolim.keeps inn.toInCall.keep, codeAny_func ?_⟩
  obtain ⟨t, ps', w'⟩ := hb cd A out s G xs Q E (room.deeper _) gd want
  have I0 := inv_start (CX := CX) (E := E) S room.hd e0 many vals inn
  refine wpAny_mono (ps'.run [] s1 (start N xs) G _ I0 w') ?_ fun _ _ z => z
  intro fl s2 z
  match fl, z with
  | .ret u, ⟨v, _, G', J, rv, q⟩ => exact ⟨v, G', J.os, J.bare, J.base, J.hok, rv, q⟩
  | .next, ⟨_, G', J, q⟩ => exact ⟨.non, G', J.os, J.bare, J.base, J.hok, rfl, q⟩
  | .brk, ⟨_, _, _, q⟩ => exact q.elim
  | .cont, ⟨_, _, _, q⟩ => exact q.elim
end
/-- the law's call -/
theorem lawG {P : Program} {w : World} {K : PySem.W.Frag} {mg mb : Str → Option Value} {CX : CXT} {k : Nat} {f a : Addr} {fd : FuncData} {x : Str} {sp : Sp} {t : Shared} {vs : List Value} {ns : List Int}
    (kin : K.In t.heap) (gl : t.heap.Ns mainGlobals mg) (bl : t.heap.Ns builtinsNs mb) (boot : ∀ x : Str, x ≠ "__name__" → mb x = bootBuiltins x) (lim : t.heap.NoLimit) (here : t.gens = #[])
    (obj : t.heap.get? a = some { cls := .type "list", data := .seq vs.toArray }) (nums : IntsAre vs ns) (small : ns.length ≤ sizeLine) (room : Room k callerA)
    (F : ∀ base : Heap, K.In base → base.Ns mainGlobals mg → FnG P w K mg base CX k f fd [x] sp) (bound : ∀ (s : Shared) (u : Value), BindsTo s fd ⟨[u], []⟩ [(x, u)])
    (want : ∀ G : Hp, Only G → SqL K G a (ns.map V.int) → sp [.ref a] G (fun v _ => v = .bl true) fun _ _ _ => False) (none_out : ∀ G e s', CX [] G t (fun _ _ _ => False) e s' → False) :
    codeAny (model P w) callerA (.call (.ref f) ⟨[.ref a], []⟩) (fun r s' => r = .ok (.ret (.bool true)) ∧ OldK t.heap s'.heap ∧ s'.os = t.os ∧ AllBare s'.gens) t := by
  have vals := vals_ints nums
  have many := nums.length
  have key : ∀ G : Hp, Only G → SqL K G a (ns.map V.int) → HOk P w G t.heap → (∀ b u, G b = some u → b = a) → (∀ u, G a = some u → K.lookup a = none) →
      codeAny (model P w) callerA (.call (.ref f) ⟨[.ref a], []⟩) (fun r s' => r = .ok (.ret (.bool true)) ∧ OldK t.heap s'.heap ∧ s'.os = t.os ∧ AllBare s'.gens) t := by
    intro G only sq hok one apart
    have ns_of : ∀ {b : Addr} {m : Str → Option Value}, t.heap.Ns b m → (hidT t.heap G).Ns b m := by
      rintro b m ⟨o, es, ep, e, d, r⟩
      refine ⟨o, es, ep, hidT_get e ?_, d, r⟩
      rcases q : G b with _ | u
      · rfl
      · obtain rfl := one b u q
        rw [obj] at e
        cases e
        exact absurd d (by intro z; cases z)
    have kb : K.In (hidT t.heap G) := by
      intro b o e
      refine hidT_get (kin b o e) ?_
      rcases q : G b with _ | u
      · rfl
      · obtain rfl := one b u q
        rw [apart u q] at e
        cases e
    obtain ⟨mc, lm1, lm2⟩ := lim
    have env : Env0 P w K mg (hidT t.heap G) callerA [] t G := ⟨rfl, ⟨kb, ns_of gl, ⟨mb, ns_of bl, boot⟩, ⟨mc, ns_of lm1, lm2⟩⟩, fun b o e => of_hidT e, Nat.le_of_eq (hidT_size _ _), trivial, fun b m => absurd m List.not_mem_nil, hok, .of_eq here⟩
    have go := (F _ kb (ns_of gl)).run callerA [] t G ⟨[.ref a], []⟩ [.ref a] [.ref a] _ _ room rfl env (bound t (.ref a)) (.cons rfl .nil) (want G only sq)
    refine codeAny_mono go ?_
    intro r s' z
    match r, z with
    | .error e, z => exact (none_out G e s' z).elim
    | .ok .next, z => exact z.elim
    | .ok .brk, z => exact z.elim
    | .ok .cont, z => exact z.elim
    | .ok (.ret u), ⟨v, G', os, bare, un, hok', rv, q⟩ =>
      obtain rfl : v = .bl true := q
      obtain rfl : u = Value.bool true := rv
      refine ⟨rfl, OldK.of_keep ?_, os, bare⟩
      intro b o e
      rcases q : G b with _ | u
      · exact un.keep b o e q (fun m => absurd m List.not_mem_nil) (fun m => absurd m List.not_mem_nil)
      · rcases only b with y | ⟨ob, ys, y⟩
        · rw [q] at y
          cases y
        · obtain ⟨e1, _⟩ := hok b _ y
          obtain ⟨e2, _⟩ := hok' b _ (un.frzs b ob _ y)
          rw [e] at e1
          cases e1
          exact e2
  rcases kl : K.lookup a with _ | o
  · let G : Hp := fun b => if b = a then some (.frz { cls := .type "list", data := .seq vs.toArray } (.lst (ns.map V.int))) else none
    have g0 : G a = some (.frz { cls := .type "list", data := .seq vs.toArray } (.lst (ns.map V.int))) := if_pos rfl
    have g1 : ∀ b u, G b = some u → b = a ∧ u = .frz { cls := .type "list", data := .seq vs.toArray } (.lst (ns.map V.int)) := by
      intro b u z
      by_cases e : b = a
      · subst e
        rw [g0] at z
        cases z
        exact ⟨rfl, rfl⟩
      · have z2 : (none : Option HO) = some u := (if_neg e).symm.trans z
        cases z2
    refine key G (fun b => ?_) (.inl (.inr ⟨_, g0⟩)) (fun b u z => ?_) (fun b u z => (g1 b u z).1) fun _ _ => kl
    · by_cases e : b = a
      · subst e
        exact .inr ⟨_, _, g0⟩
      · exact .inl (if_neg e)
    · obtain ⟨rfl, rfl⟩ := g1 b u z
      exact ⟨obj, by rw [List.length_map]; exact small, vs, _, vals, obj⟩
  · have e := kin a o kl
    rw [obj] at e
    cases e
    refine key (fun _ => none) (fun _ => .inl rfl) ?_ (fun b u z => nomatch z) (fun b u z => nomatch z) fun u z => nomatch z
    exact .inr ⟨_, vs.toArray, _, kl, rfl, rfl, rfl, by rw [List.size_toArray, many]; exact small, by simpa using vals⟩
end SL
/-! S2: a small text of statements and expressions, and what must hold ahead of it. -/
namespace SL
open PySem PySem.Spec L2

inductive Bi where
  | len | abs | tuple | list | all | any | sum | int | str | max | min | sorted | dict | repr
  deriving DecidableEq
inductive Mt where
  | append | extend | pop | popAt | index | insert | clear | reverse | count | get | split | join | startswith
  deriving DecidableEq
/-- methods of texts; two operands of which one is a text -/
inductive TM where
  | split | join | starts
  deriving DecidableEq
inductive T2 where
  | ix | inn | notin | mul
  deriving DecidableEq
inductive STg where
  | nm (i : Nat) | tup (ts : List STg)
/-- a module's constant -/
inductive GC where
  | i (n : Int) | s (z : Str)
  deriving DecidableEq
def GC.sv : GC → SV
  | .i n => .int n
  | .s z => .str z
mutual
inductive SE where
  | cst (v : SV) | var (i : Nat) | glob (x : Str) (v : GC)
  | once (own : List (Str × Nat)) (i : Nat) (a : SE)
  | lrng (a : SE) | rev (a : SE) | dnew
  | neg (a : SE) | not (a : SE)
  | bin (op : Operator) (a b : SE)
  | cmp (op : CmpOp) (a b : SE)
  | cmp2 (op op' : CmpOp) (a b c : SE)
  | bool (isAnd : Bool) (es : List SE)
  | ife (c a b : SE)
  | tup (es : List SE) | lst (es : List SE)
  | ix (a i : SE)
  | slc (a : SE) (lo hi : Option SE)
  | call (f : Str) (es : List SE)
  | callP (pn : Str) (ks : List Str) (es kes : List SE)
  | bi (f : Bi) (es : List SE)
  | isi (a : SE) (ty : String)
  | lc (own : List (Str × Nat)) (t : STg) (it : SIt) (ifs : List SE) (elt : SE)
  | mth (m : Mt) (o : SE) (es : List SE)
  | box (e : SE) | fz (e : SE) | drp (i : Nat) (e : SE)
  | fld (C : Str) (o : SE) (f : Str)
  | meth (pn C m : Str) (ks : List Str) (o : SE) (es kes : List SE)
  | make (pn C : Str) (ks : List Str) (es kes : List SE)
  | tm (m : TM) (o e : SE) | t2 (o : T2) (a b : SE) | sslc (a : SE) (lo hi : Option SE) | fs (es : List SE) | fmt (e : SE)
inductive SIt where
  | txt (e : SE) | of (e : SE) | rng (a : SE) | rng2 (a b : SE) | zip (es : List SE) | enum (es : List SE)
end
/-- an expression of an except suite; e is the caught one -/
inductive HE where
  | cst (v : SV) | fld (f : Str) | pair (a b : HE)
  | isi (A B : Str) (t f : SV)
inductive HS where
  | ret (e : HE) | asg (i : Nat) (e : HE) | app (i : Nat) (v : SV)
/-- a clause: the class, the slot of its name, the suite -/
structure Hd where
  c : Str
  i : Option Nat
  s : HS
inductive SS where
  | asg (t : STg) (e : SE)
  | par (i j : Nat) (a b : SE)
  | par3 (i j l : Nat) (a b c : SE)
  | asub (o i e : SE)
  | exp (e : SE)
  | ret (e : SE) | ret0
  | ife (c : SE) (a b : List SS)
  | for (t : STg) (it : SIt) (body : List SS)
  | whl (c : SE) (body : List SS)
  | aug (i : Nat) (op : Operator) (e : SE)
  | brk | cont | pass
  | rais (C : Str) (f : Option (Str × SE))
  | aset (C : Str) (o : SE) (f : Str) (e : SE)
  | try (body : List SS) (hs : List Hd)
  | ust (ts : List Nat) (i : Nat) (e : SE)

mutual
/-- the keys of a dict: nested tuples of numbers, texts, None -/
def nk : SV → Option NestedKey
  | .non => some .none
  | .int i => some (.num i)
  | .str z => some (.text z)
  | .tup xs => (match nks xs with
    | some ks => some (.tup ks)
    | none => none)
  | _ => none
def nks : List SV → Option (List NestedKey)
  | [] => some []
  | x :: xs => (match nk x, nks xs with
    | some k, some ks => some (k :: ks)
    | _, _ => none)
end
def onceOk (x : SV) : Bool := match x with
  | .tup _ => (match nk x with
    | some k => decide (k.depth ≤ 8)
    | none => false)
  | _ => false
/-- each once, by its first place -/
def onceL (seen : List NestedKey) : List SV → List SV
  | [] => []
  | x :: xs => (match nk x with
    | some k => if k ∈ seen then onceL seen xs else x :: onceL (seen ++ [k]) xs
    | none => [])
structure SX where
  cls : Str
  fs : List (Str × SV)
abbrev SSp := List SV → SHp → (SV → SHp → Prop) → (SX → SHp → Prop) → Prop
structure Gm where
  call : Str → SSp
  glob : Str → Option SV
  xp : SX → SSt → SHp → Prop
def Gm.nox (G : Gm) : Gm := { G with xp := fun _ _ _ => False }
abbrev Post := SV → SSt → SHp → Prop
/-- the program's exceptions: is one of the class c one of the class d -/
def subX (c d : Str) : Bool := c == d || (if (["NoLevel", "NoRoom", "NoDoor", "NoBeginning", "NoMachine", "Nothing", "Absent"] : List Str).contains c then d == ("Absent" : Str) || d == ("LookupError" : Str) else d == ("SlopeError" : Str) || d == ("ValueError" : Str))
def hv (x : SX) : HE → Option SV
  | .cst v => some v
  | .fld f => x.fs.lookup f
  | .pair a b => (match hv x a, hv x b with
    | some u, some v => some (.tup [u, v])
    | _, _ => none)
  | .isi A B t f => some (if subX x.cls A && subX x.cls B then t else f)
structure SEnds where
  nx : SSt → SHp → Prop
  rt : SV → SHp → Prop
  bk : SSt → SHp → Prop := fun _ _ => False
  ct : SSt → SHp → Prop := fun _ _ => False

def vw (h : SHp) : SV → Option (Bool × List SV)
  | .tup xs => some (true, xs)
  | .frz xs => some (false, xs)
  | .lkd xs => some (false, xs)
  | .own xs => some (false, xs)
  | .ref a => match h a with
    | some (.lst xs) => some (false, xs)
    | _ => none
  | _ => none
def view (δ : SSt) (h : SHp) : SV → Option (Bool × List SV)
  | .loc i => match δ[i]? with
    | some (some d) => vw h d
    | _ => none
  | d => vw h d

mutual
/-- plain data -/
def SV.pd : SV → Option PyData
  | .non => some .none
  | .bl b => some (.bool b)
  | .int i => some (.int i)
  | .str x => some (.str x)
  | .tup xs => match pds xs with
    | some ds => some (.tuple ds)
    | none => none
  | .frz xs => match pds xs with
    | some ds => some (.list ds)
    | none => none
  | .lkd xs => match pds xs with
    | some ds => some (.list ds)
    | none => none
  | _ => none
def pds : List SV → Option (List PyData)
  | [] => some []
  | x :: xs => match SV.pd x, pds xs with
    | some d, some ds => some (d :: ds)
    | _, _ => none
end
def pdV (δ : SSt) (h : SHp) (d : SV) : Option PyData := match view δ h d with
  | some (true, xs) => (pds xs).map .tuple
  | some (false, xs) => (pds xs).map .list
  | none => d.pd

def SV.nolk (δ : SSt) : SV → Bool
  | .lkd _ => false
  | .loc i => (match δ[i]? with
    | some (some (.lkd _)) => false
    | _ => true)
  | _ => true
def DivOk (i j : Int) : Prop := 0 < j ∧ Builtin.divisionGoesByPylong i j = false
def binS (op : Operator) (x y : SV) (δ : SSt) (h : SHp) (Q : SV → Prop) : Prop :=
  match x, y with
  | .int i, .int j => (match op with
    | .Add => Q (.int (i + j))
    | .Sub => Q (.int (i - j))
    | .Mult => IntMulOk i j ∧ Q (.int (i * j))
    | .FloorDiv => DivOk i j ∧ Q (.int (i / j))
    | .Mod => 0 < j ∧ Q (.int (i % j))
    | .Pow => CPow i j ∧ Q (.int (i ^ j.toNat))
    | .LShift => CPow i j ∧ Q (.int (i * 2 ^ j.toNat))
    | .BitAnd => Q (.int (Builtin.bitAnd i j))
    | .BitOr => Q (.int (Builtin.bitOr i j))
    | _ => False)
  | .str a, .str b => (match op with
    | .Add => a.length + b.length ≤ sizeLine ∧ Q (.str (a ++ b))
    | _ => False)
  | x, .int k => (match op with
    | .Mult => ∃ b xs, view δ h x = some (b, xs) ∧ x.nolk δ = true ∧ -(2 ^ 63) ≤ k ∧ k < 2 ^ 63 ∧ xs.length * k.toNat ≤ sizeLine ∧ (match b with
      | true => k ≤ 1000 ∧ xs.length ≤ 1000 ∧ Q (.tup (List.replicate k.toNat xs).flatten)
      | false => Q (.own (List.replicate k.toNat xs).flatten))
    | _ => False)
  | x, y => (match op with
    | .Add => ∃ b xs ys, view δ h x = some (b, xs) ∧ view δ h y = some (b, ys) ∧ x.nolk δ = true ∧ y.nolk δ = true ∧ xs.length + ys.length ≤ sizeLine ∧ (match b with
      | true => Q (.tup (xs ++ ys))
      | false => Q (.own (xs ++ ys)))
    | _ => False)
def noneS (δ : SSt) : SV → Option Bool
  | .non => some true
  | .loc i => (match δ[i]? with
    | some (some d) => if d.isOwn = true then some false else none
    | _ => none)
  | _ => some false
def keyS : SV → Option Key
  | .int i => some (.inl i)
  | .str z => some (.inr z)
  | _ => none
/-- the dict that a value is -/
def dctV (δ : SSt) (h : SHp) : SV → Option (List (Key × SV))
  | .loc i => (match δ[i]? with
    | some (some (.ownD kvs)) => some kvs
    | _ => none)
  | .ref p => (match h p with
    | some (.dct kvs) => some kvs
    | _ => none)
  | _ => none
def hasK (kvs : List (Key × SV)) (k : Key) : Bool := kvs.any fun kv => decide (kv.1 = k)
/-- in its place, or at the end -/
def putD (kvs : List (Key × SV)) (k : Key) (v : SV) : List (Key × SV) :=
  if hasK kvs k = true then kvs.map (fun kv => if kv.1 = k then (kv.1, v) else kv) else kvs ++ [(k, v)]
/-- a list's data, a tuple's -/
def dSeq (ds : List PyData) : Bool → PyData
  | true => .tuple ds
  | false => .list ds
def cmpS (op : CmpOp) (x y : SV) (δ : SSt) (h : SHp) (Q : Bool → Prop) : Prop :=
  match op with
  | .Eq => ∃ d e, pdV δ h x = some d ∧ pdV δ h y = some e ∧ SeqAt.shaped d = true ∧ SeqAt.shaped e = true ∧ Q (PyData.eqv d e)
  | .NotEq => ∃ d e, pdV δ h x = some d ∧ pdV δ h y = some e ∧ SeqAt.shaped d = true ∧ SeqAt.shaped e = true ∧ Q (!PyData.eqv d e)
  | .Lt => ∃ i j, x = .int i ∧ y = .int j ∧ Q (decide (i < j))
  | .LtE => ∃ i j, x = .int i ∧ y = .int j ∧ Q (decide (i ≤ j))
  | .Gt => ∃ i j, x = .int i ∧ y = .int j ∧ Q (decide (j < i))
  | .GtE => ∃ i j, x = .int i ∧ y = .int j ∧ Q (decide (j ≤ i))
  | .Is => (y = .non ∧ ∃ b, noneS δ x = some b ∧ Q b) ∨ ∃ b c, x = .bl b ∧ y = .bl c ∧ Q (b == c)
  | .IsNot => y = .non ∧ ∃ b, noneS δ x = some b ∧ Q (!b)
  | .In => (∃ d ds b, pdV δ h x = some d ∧ pdV δ h y = some (dSeq ds b) ∧ SeqAt.shaped d = true ∧ SeqAt.shaped (.list ds) = true ∧ Q (ds.any fun e => PyData.eqv e d)) ∨ ∃ kvs k, dctV δ h y = some kvs ∧ keyS x = some k ∧ Q (hasK kvs k)
  | .NotIn => (∃ d ds b, pdV δ h x = some d ∧ pdV δ h y = some (dSeq ds b) ∧ SeqAt.shaped d = true ∧ SeqAt.shaped (.list ds) = true ∧ Q (!ds.any fun e => PyData.eqv e d)) ∨ ∃ kvs k, dctV δ h y = some kvs ∧ keyS x = some k ∧ Q (!hasK kvs k)

def cut {α : Type} (xs : List α) (lo hi : Option Int) : List α := (xs.drop (HT.sIx xs.length 0 lo)).take (HT.sIx xs.length xs.length hi - HT.sIx xs.length 0 lo)
def asInts : List SV → Option (List Int)
  | [] => some []
  | .int i :: r => (asInts r).map (i :: ·)
  | _ => none
def asBls : List SV → Option (List Bool)
  | [] => some []
  | .bl i :: r => (asBls r).map (i :: ·)
  | _ => none
def asStrs : List SV → Option (List Str)
  | [] => some []
  | .str i :: r => (asStrs r).map (i :: ·)
  | _ => none
/-- a text's signs as texts -/
def signsS (z : Str) : List SV := z.cps.toList.map fun c => .str ⟨#[c]⟩
def tmS (m : TM) (z : Str) (x : SV) (δ : SSt) (h : SHp) (Q : SV → Prop) : Prop := match m with
  | .split => ∃ b, x = .str b ∧ (b.length == 0) = false ∧ z.length + 2 ≤ sizeLine ∧ Q (.own ((Txt.split z b).map SV.str))
  | .join => ∃ k ys zs, view δ h x = some (k, ys) ∧ asStrs ys = some zs ∧ (zs.map (·.length)).sum + zs.length * z.length ≤ 16777216 ∧ Q (.str (Txt.join z zs))
  | .starts => ∃ b, x = .str b ∧ Q (.bl (Txt.startswith z b))
def repS (k : Nat) (z : Str) : Str := ⟨(List.replicate k z.cps).foldl (· ++ ·) #[]⟩
def t2S (o : T2) (x y : SV) (Q : SV → Prop) : Prop := match o with
  | .ix => ∃ z k c, x = .str z ∧ y = .int k ∧ z.length ≤ sizeLine ∧ atI z.cps.toList k = some c ∧ Q (.str ⟨#[c]⟩)
  | .inn => ∃ c z, x = .str ⟨#[c]⟩ ∧ y = .str z ∧ Q (.bl (decide (c ∈ z.cps.toList)))
  | .notin => ∃ c z, x = .str ⟨#[c]⟩ ∧ y = .str z ∧ Q (.bl (!decide (c ∈ z.cps.toList)))
  | .mul => ∃ z k, x = .str z ∧ y = .int k ∧ 2 ≤ k ∧ k ≤ 1000 ∧ 1 ≤ z.length ∧ z.length ≤ 1000 ∧ Q (.str (repS k.toNat z))
def fmtS (x : SV) (Q : SV → Prop) : Prop := match x with
  | .str y => y.length ≤ sizeLine ∧ Q (.str y)
  | .int i => i.natAbs.log2 < 1920 ∧ Q (.str (toString i))
  | _ => False
def biS (f : Bi) (xs : List SV) (δ : SSt) (h : SHp) (Q : SV → Prop) : Prop :=
  match f with
  | .len => (match xs with
    | [.str z] => z.length ≤ sizeLine ∧ Q (.int z.length)
    | [x] => ∃ b ys, view δ h x = some (b, ys) ∧ Q (.int ys.length)
    | _ => False)
  | .abs => ∃ i, xs = [.int i] ∧ Q (.int (if i < 0 then -i else i))
  | .tuple => ∃ x b ys, xs = [x] ∧ view δ h x = some (b, ys) ∧ Q (.tup ys)
  | .list => ∃ x b ys, xs = [x] ∧ view δ h x = some (b, ys) ∧ Q (.own ys)
  | .all => ∃ x ys bs, xs = [x] ∧ view δ h x = some (false, ys) ∧ asBls ys = some bs ∧ Q (.bl (bs.all id))
  | .any => ∃ x ys bs, xs = [x] ∧ view δ h x = some (false, ys) ∧ asBls ys = some bs ∧ Q (.bl (bs.any id))
  | .int => (match xs with
    | [.str z] => ∃ n, PySem.intText? z = some n ∧ z.length ≤ 640 ∧ Q (.int n)
    | xs => (∃ i, xs = [.int i] ∧ Q (.int i)) ∨ ∃ k, xs = [.bl k] ∧ Q (.int (if k then 1 else 0)))
  | .str => (match xs with
    | [.int i] => i.natAbs.log2 < 1920 ∧ Q (.str (toString i))
    | [.str z] => Q (.str z)
    | _ => False)
  | .repr => ∃ x b ys ds, xs = [x] ∧ view δ h x = some (b, ys) ∧ pds ys = some ds ∧ (dSeq ds b).showable = true ∧ (dSeq ds b).hasDict = false ∧ (dSeq ds b).depth ≤ 60 ∧ (dSeq ds b).shown.length ≤ sizeLine ∧ Q (.str (dSeq ds b).shown)
  | .sum => ∃ x ys ns, xs = [x] ∧ view δ h x = some (false, ys) ∧ asInts ys = some ns ∧ Q (.int ns.sum)
  | .max => ∃ i j, xs = [.int i, .int j] ∧ Q (.int (if j > i then j else i))
  | .min => (∃ i j, xs = [.int i, .int j] ∧ Q (.int (if j < i then j else i))) ∨ ∃ x ys ns, xs = [x] ∧ view δ h x = some (false, ys) ∧ asInts ys = some ns ∧ 0 < ns.length ∧ ∀ m ∈ ns, (∀ y ∈ ns, m ≤ y) → Q (.int m)
  | _ => False
def isiS (x : SV) (δ : SSt) (h : SHp) : Option String := match x with
  | .non => some "NoneType"
  | .bl _ => some "bool"
  | .int _ => some "int"
  | .str _ => some "str"
  | x => match view δ h x with
    | some (true, _) => some "tuple"
    | some (false, _) => some "list"
    | none => none
/-- is a value of type t one of type ty -/
def isT (t ty : String) : Bool := t == ty || (t == "bool" && ty == "int")

/-- a value that goes into another one: an owned list is frozen -/
def stow (d : SV) (δ : SSt) (h : SHp) (Q : Post) : Prop :=
  match d with
  | .own xs => Q (.frz xs) δ h
  | .ownD _ => False
  | .loc i => (match δ[i]? with
    | some (some (.own xs)) => Q (.frz xs) (δ.set i (some (.frz xs))) h
    | some (some (.ownD _)) => False
    | some (some (.loc _)) => False
    | some (some d) => Q d δ h
    | _ => False)
  | d => Q d δ h
/-- an operand: an owned list made just now is frozen -/
def SV.opd : SV → SV
  | .own xs => .frz xs
  | d => d
/-- an argument: an owned list gets a place, for the call's time or for good -/
def boxS (d : SV) (δ : SSt) (h : SHp) (Q : SV → Option (Option Nat × Addr) → SSt → SHp → Prop) : Prop :=
  match d with
  | .own xs => ∀ p, h p = none → Q (.ref p) (some (none, p)) δ (h.set p (.lst xs))
  | .ownD kvs => ∀ p, h p = none → Q (.ref p) (some (none, p)) δ (h.set p (.dct kvs))
  | .loc i => (match δ[i]? with
    | some (some (.own xs)) => ∀ p, h p = none → Q (.ref p) (some (some i, p)) (δ.set i (some (.ref p))) (h.set p (.lst xs))
    | some (some (.ownD kvs)) => ∀ p, h p = none → Q (.ref p) (some (some i, p)) (δ.set i (some (.ref p))) (h.set p (.dct kvs))
    | some (some (.loc _)) => False
    | some (some d) => Q d none δ h
    | _ => False)
  | d => Q d none δ h
/-- behind the call -/
def unbox : List (Option (Option Nat × Addr)) → SSt → SHp → (SSt → SHp → Prop) → Prop
  | [], δ, h, Q => Q δ h
  | none :: r, δ, h, Q => unbox r δ h Q
  | some (none, p) :: r, δ, h, Q => unbox r δ (h.del p) Q
  | some (some i, p) :: r, δ, h, Q => match h p with
    | some (.lst xs) => unbox r (δ.set i (some (.own xs))) (h.del p) Q
    | some (.dct kvs) => unbox r (δ.set i (some (.ownD kvs))) (h.del p) Q
    | _ => False

mutual
def tgS : STg → SV → SSt → SHp → (SSt → SHp → Prop) → Prop
  | .nm i, d, δ, h, Q => i < δ.length ∧ Q (δ.set i (some d)) h
  | .tup ts, d, δ, h, Q => ∃ b xs, vw h d = some (b, xs) ∧ xs.length = ts.length ∧ tgsS ts xs δ h Q
def tgsS : List STg → List SV → SSt → SHp → (SSt → SHp → Prop) → Prop
  | [], _, δ, h, Q => Q δ h
  | t :: ts, x :: xs, δ, h, Q => tgS t x δ h fun δ' h' => tgsS ts xs δ' h' Q
  | _ :: _, [], _, _, _ => False
end
def wipeS (δ : SSt) : List Nat → SSt
  | [] => δ
  | v :: vs => (wipeS δ vs).set v none
/-- the slots of a comprehension's own names as they were -/
def backS (δ0 δ : SSt) : List Nat → SSt
  | [] => δ
  | v :: vs => (backS δ0 δ vs).set v (match δ0[v]? with
    | some (some d) => if d.plain then some d else none
    | _ => none)
/-- a source's list, as long as it is not changed -/
abbrev Gd := SHp → Prop
def lcLoop (G : Gd) (vs : List Nat) (tg : SV → SSt → SHp → (SSt → SHp → Prop) → Prop) (test : SSt → SHp → (Bool → SSt → SHp → Prop) → Prop) (elt : SSt → SHp → Post → Prop) :
    List SV → List SV → SSt → SHp → (List SV → SSt → SHp → Prop) → Prop
  | [], acc, δ, h, Q => G h ∧ Q acc δ h
  | x :: xs, acc, δ, h, Q => G h ∧ tg x δ h fun δ1 h1 => test δ1 h1 fun b δ2 h2 => match b with
    | true => elt δ2 h2 fun d δ3 h3 => stow d δ3 h3 fun e δ4 h4 => acc.length < sizeLine ∧ lcLoop G vs tg test elt xs (acc ++ [e]) (wipeS δ4 vs) h4 Q
    | false => lcLoop G vs tg test elt xs acc (wipeS δ2 vs) h2 Q
def enumS : Nat → List SV → List SV
  | _, [] => []
  | k, x :: xs => .tup [.int k, x] :: enumS (k + 1) xs
def zipS : List SV → List SV → List SV
  | x :: xs, y :: ys => .tup [x, y] :: zipS xs ys
  | _, _ => []
def rangeS (lo : Int) : Nat → List SV
  | 0 => []
  | n + 1 => .int lo :: rangeS (lo + 1) n

/-- the fields of an object -/
def putS (f : Str) (v : SV) : List (Str × SV) → List (Str × SV)
  | [] => [(f, v)]
  | (g, x) :: r => if g = f then (g, v) :: r else (g, x) :: putS f v r
def lenIs (ds : List SV) (n : Nat) : Prop := ds.length = n
mutual
def wpE (G : Gm) : SE → SSt → SHp → Post → Prop
  | .cst v, δ, h, Q => Q v δ h
  | .var i, δ, h, Q => (match δ[i]? with
    | some (some d) => (match d.isOwn with
      | true => Q (.loc i) δ h
      | false => Q d δ h)
    | _ => False)
  | .glob _ v, δ, h, Q => Q v.sv δ h
  | .lrng a, δ, h, Q => wpE G a δ h fun r δ1 h1 => ∃ n : Nat, r = .int n ∧ n ≤ 10000 ∧ Q (.own (rangeS 0 n)) δ1 h1
  | .rev a, δ, h, Q => wpE G a δ h fun r δ1 h1 => ∃ xs, view δ1 h1 r.opd = some (false, xs) ∧ Q (.own xs.reverse) δ1 h1
  | .dnew, δ, h, Q => Q (.ownD []) δ h
  | .once own i a, δ, h, Q => wpE G a δ h fun d δ1 h1 => stow d δ1 h1 fun x δ2 h2 => ∃ b xs, vw h2 x = some (b, xs) ∧ (∀ y ∈ xs, onceOk y = true) ∧ xs.length ≤ sizeLine ∧ i < δ2.length ∧ Q (.own (onceL [] xs)) δ2 h2
  | .neg a, δ, h, Q => wpE G a δ h fun r δ1 h1 => ∃ i, r = .int i ∧ Q (.int (-i)) δ1 h1
  | .not a, δ, h, Q => wpE G a δ h fun r δ1 h1 => ∃ b, r = .bl b ∧ Q (.bl (!b)) δ1 h1
  | .bin op a b, δ, h, Q => wpE G a δ h fun r δ1 h1 => wpE G b δ1 h1 fun s δ2 h2 => binS op r.opd s.opd δ2 h2 fun d => Q d δ2 h2
  | .cmp op a b, δ, h, Q => wpE G a δ h fun r δ1 h1 => wpE G b δ1 h1 fun s δ2 h2 => cmpS op r.opd s.opd δ2 h2 fun c => Q (.bl c) δ2 h2
  | .cmp2 op op' a b c, δ, h, Q => wpE G a δ h fun r δ1 h1 => wpE G b δ1 h1 fun s δ2 h2 => cmpS op r.opd s.opd δ2 h2 fun k => match k with
    | true => wpE G c δ2 h2 fun t δ3 h3 => cmpS op' s.opd t.opd δ3 h3 fun k' => Q (.bl k') δ3 h3
    | false => Q (.bl false) δ2 h2
  | .bool an es, δ, h, Q => wpB G an es δ h Q
  | .ife c a b, δ, h, Q => wpE G c δ h fun r δ1 h1 => ∃ k, r = .bl k ∧ match k with
    | true => wpE G a δ1 h1 Q
    | false => wpE G b δ1 h1 Q
  | .tup es, δ, h, Q => wpSt G es δ h fun ds δ1 h1 => ds.length ≤ sizeLine ∧ Q (.tup ds) δ1 h1
  | .lst es, δ, h, Q => wpSt G es δ h fun ds δ1 h1 => ds.length ≤ sizeLine ∧ Q (.own ds) δ1 h1
  | .ix a i, δ, h, Q => wpE G a δ h fun r δ1 h1 => wpE G i δ1 h1 fun s δ2 h2 => ∃ b xs k d, view δ2 h2 r.opd = some (b, xs) ∧ s = .int k ∧ atI xs k = some d ∧ Q d δ2 h2
  | .slc a lo hi, δ, h, Q => wpE G a δ h fun r δ1 h1 => wpO G lo δ1 h1 fun l δ2 h2 => wpO G hi δ2 h2 fun u δ3 h3 => ∃ b xs, view δ3 h3 r.opd = some (b, xs) ∧ (match b with
    | true => Q (.tup (cut xs l u)) δ3 h3
    | false => Q (.own (cut xs l u)) δ3 h3)
  | .call f es, δ, h, Q => wpAr G es δ h fun ds bs δ1 h1 => G.call f ds h1 (fun d h2 => unbox bs δ1 h2 fun δ3 h3 => Q d δ3 h3) (fun x h2 => unbox bs δ1 h2 fun δ3 h3 => G.xp x δ3 h3)
  | .callP pn ks es kes, δ, h, Q => wpAr G es δ h fun ds bs δ1 h1 => wpAr G kes δ1 h1 fun ds2 bs2 δ2 h2 => lenIs ds es.length ∧ lenIs ds2 kes.length ∧ G.call pn (ds ++ ds2) h2 (fun d h3 => unbox (bs ++ bs2) δ2 h3 fun δ3 h3 => Q d δ3 h3) (fun x h3 => unbox (bs ++ bs2) δ2 h3 fun δ3 h3 => G.xp x δ3 h3)
  | .bi f es, δ, h, Q => wpOp G es δ h fun ds δ1 h1 => biS f ds δ1 h1 fun d => Q d δ1 h1
  | .isi a ty, δ, h, Q => wpE G a δ h fun r δ1 h1 => ∃ t, isiS r.opd δ1 h1 = some t ∧ Q (.bl (isT t ty)) δ1 h1
  | .lc own t it ifs elt, δ, h, Q => wpI G it δ h fun gd items δ1 h1 =>
      lcLoop gd (own.map (·.2)) (tgS t) (fun δ h R => wpIf G.nox ifs δ h R) (fun δ h R => wpE G.nox elt δ h R) items [] (wipeS δ1 (own.map (·.2))) h1 fun acc δ2 h2 => Q (.own acc) (backS δ1 δ2 (own.map (·.2))) h2
  | .mth m o es, δ, h, Q => (match m with
    | .append => wpE G o δ h fun r δ1 h1 => (match r with
      | .loc i => (∃ ys, δ1[i]? = some (some (.own ys))) ∧ wpSt G es δ1 h1 fun ds δ2 h2 => ∃ d xs, ds = [d] ∧ δ2[i]? = some (some (.own xs)) ∧ xs.length < sizeLine ∧ Q .non (δ2.set i (some (.own (xs ++ [d])))) h2
      | .ref p => (∃ ys, h1 p = some (.lst ys)) ∧ wpSt G es δ1 h1 fun ds δ2 h2 => ∃ d xs, ds = [d] ∧ h2 p = some (.lst xs) ∧ xs.length < sizeLine ∧ Q .non δ2 (h2.set p (.lst (xs ++ [d])))
      | _ => False)
    | .extend => wpE G o δ h fun r δ1 h1 => (match r with
      | .loc i => (∃ ys, δ1[i]? = some (some (.own ys))) ∧ wpSt G es δ1 h1 fun ds δ2 h2 => ∃ xs zs, ds = [.frz zs] ∧ δ2[i]? = some (some (.own xs)) ∧ xs.length + zs.length ≤ sizeLine ∧ Q .non (δ2.set i (some (.own (xs ++ zs)))) h2
      | _ => False)
    | .pop => wpE G o δ h fun r δ1 h1 => (match r with
      | .loc i => es = [] ∧ ∃ xs d, δ1[i]? = some (some (.own xs)) ∧ xs[xs.length - 1]? = some d ∧ Q d (δ1.set i (some (.own xs.dropLast))) h1
      | _ => False)
    | .popAt => wpE G o δ h fun r δ1 h1 => (match r with
      | .loc i => (∃ ys, δ1[i]? = some (some (.own ys))) ∧ wpOp G es δ1 h1 fun ds δ2 h2 => ∃ xs k j d, δ2[i]? = some (some (.own xs)) ∧ ds = [.int k] ∧ -(2 ^ 63) ≤ k ∧ k < 2 ^ 63 ∧ seqIndex? k xs.length = some j ∧ xs[j]? = some d ∧ Q d (δ2.set i (some (.own (xs.eraseIdx j)))) h2
      | .ref p => (∃ ys, h1 p = some (.lst ys)) ∧ wpOp G es δ1 h1 fun ds δ2 h2 => ∃ xs k j d, h2 p = some (.lst xs) ∧ ds = [.int k] ∧ -(2 ^ 63) ≤ k ∧ k < 2 ^ 63 ∧ seqIndex? k xs.length = some j ∧ xs[j]? = some d ∧ Q d δ2 (h2.set p (.lst (xs.eraseIdx j)))
      | _ => False)
    | .index => wpE G o δ h fun r δ1 h1 => (match r with
      | .loc i => (∃ ys, δ1[i]? = some (some (.own ys))) ∧ wpOp G es δ1 h1 fun ds δ2 h2 => ∃ xs ns n j, δ2[i]? = some (some (.own xs)) ∧ ds = [.int n] ∧ asInts xs = some ns ∧ ns[j]? = some n ∧ (∀ m < j, ns[m]? ≠ some n) ∧ Q (.int (j : Nat)) δ2 h2
      | _ => False)
    | .clear => wpE G o δ h fun r δ1 h1 => (match r with
      | .loc i => (∃ ys, δ1[i]? = some (some (.own ys))) ∧ es = [] ∧ Q .non (δ1.set i (some (.own []))) h1
      | .ref p => (∃ ys, h1 p = some (.lst ys)) ∧ es = [] ∧ Q .non δ1 (h1.set p (.lst []))
      | _ => False)
    | _ => False)
  | .drp i e, δ, h, Q => wpE G e δ h fun d δ1 h1 => ∃ p, δ1[i]? = some (some (.ref p)) ∧ Q d δ1 (h1.del p)
  | .fz e, δ, h, Q => wpE G e δ h fun d δ1 h1 => stow d δ1 h1 Q
  | .box e, δ, h, Q => wpE G e δ h fun d δ1 h1 => boxS d δ1 h1 fun r _ δ2 h2 => Q r δ2 h2
  | .fld C o f, δ, h, Q => wpE G o δ h fun r δ1 h1 => ∃ p fs v, r = .ref p ∧ h1 p = some (.ins C fs) ∧ fs.lookup f = some v ∧ Q v δ1 h1
  | .meth pn C m ks o es kes, δ, h, Q => wpE G o δ h fun r δ0 h0 => ∃ p fs, r = .ref p ∧ h0 p = some (.ins C fs) ∧ fs.lookup m = none ∧ wpAr G es δ0 h0 fun ds bs δ1 h1 => wpAr G kes δ1 h1 fun ds2 bs2 δ2 h2 => lenIs ds es.length ∧ lenIs ds2 kes.length ∧
      G.call pn (.ref p :: (ds ++ ds2)) h2 (fun d h3 => unbox (bs ++ bs2) δ2 h3 fun δ3 h3 => Q d δ3 h3) (fun x h3 => unbox (bs ++ bs2) δ2 h3 fun δ3 h3 => G.xp x δ3 h3)
  | .make pn C ks es kes, δ, h, Q => wpAr G es δ h fun ds bs δ1 h1 => wpAr G kes δ1 h1 fun ds2 bs2 δ2 h2 => lenIs ds es.length ∧ lenIs ds2 kes.length ∧ ∀ p, h2 p = none →
      G.call pn (.ref p :: (ds ++ ds2)) (h2.set p (.ins C [])) (fun d h3 => d = .non ∧ unbox (bs ++ bs2) δ2 h3 fun δ3 h3 => Q (.ref p) δ3 h3) (fun x h3 => unbox (some (none, p) :: (bs ++ bs2)) δ2 h3 fun δ3 h3 => G.xp x δ3 h3)
  | .tm m o e, δ, h, Q => wpE G o δ h fun r δ1 h1 => ∃ z, r = .str z ∧ wpE G e δ1 h1 fun s δ2 h2 => tmS m z s.opd δ2 h2 fun d => Q d δ2 h2
  | .t2 o a b, δ, h, Q => wpE G a δ h fun r δ1 h1 => wpE G b δ1 h1 fun s δ2 h2 => t2S o r.opd s.opd fun d => Q d δ2 h2
  | .sslc a lo hi, δ, h, Q => wpE G a δ h fun r δ1 h1 => wpO G lo δ1 h1 fun l δ2 h2 => wpO G hi δ2 h2 fun u δ3 h3 => ∃ z, r = .str z ∧ z.length ≤ sizeLine ∧ Q (.str (cutS z l u)) δ3 h3
  | .fmt e, δ, h, Q => wpE G e δ h fun r δ1 h1 => fmtS r fun d => Q d δ1 h1
  | .fs es, δ, h, Q => wpFs G es Str.empty δ h Q
def wpFs (G : Gm) : List SE → Str → SSt → SHp → Post → Prop
  | [], acc, δ, h, Q => Q (.str acc) δ h
  | e :: es, acc, δ, h, Q => wpE G e δ h fun r δ1 h1 => ∃ y, r = .str y ∧ (acc ++ y).length ≤ sizeLine ∧ wpFs G es (acc ++ y) δ1 h1 Q
def wpB (G : Gm) (an : Bool) : List SE → SSt → SHp → Post → Prop
  | [], _, _, _ => False
  | e :: es, δ, h, Q => match es with
    | [] => wpE G e δ h Q
    | _ :: _ => wpE G e δ h fun r δ1 h1 => ∃ k, r = .bl k ∧ match k == an with
      | true => wpB G an es δ1 h1 Q
      | false => Q (.bl k) δ1 h1
def wpSt (G : Gm) : List SE → SSt → SHp → (List SV → SSt → SHp → Prop) → Prop
  | [], δ, h, Q => Q [] δ h
  | e :: es, δ, h, Q => wpE G e δ h fun d δ1 h1 => stow d δ1 h1 fun r δ2 h2 => wpSt G es δ2 h2 fun rs δ3 h3 => Q (r :: rs) δ3 h3
def wpOp (G : Gm) : List SE → SSt → SHp → (List SV → SSt → SHp → Prop) → Prop
  | [], δ, h, Q => Q [] δ h
  | e :: es, δ, h, Q => wpE G e δ h fun d δ1 h1 => wpOp G es δ1 h1 fun rs δ2 h2 => Q (d.opd :: rs) δ2 h2
def wpAr (G : Gm) : List SE → SSt → SHp → (List SV → List (Option (Option Nat × Addr)) → SSt → SHp → Prop) → Prop
  | [], δ, h, Q => Q [] [] δ h
  | e :: es, δ, h, Q => wpE G e δ h fun d δ1 h1 => boxS d δ1 h1 fun r b δ2 h2 => wpAr G es δ2 h2 fun rs bs δ3 h3 => Q (r :: rs) (b :: bs) δ3 h3
def wpO (G : Gm) : Option SE → SSt → SHp → (Option Int → SSt → SHp → Prop) → Prop
  | none, δ, h, Q => Q none δ h
  | some e, δ, h, Q => wpE G e δ h fun d δ1 h1 => ∃ i, d = .int i ∧ Q (some i) δ1 h1
def wpIf (G : Gm) : List SE → SSt → SHp → (Bool → SSt → SHp → Prop) → Prop
  | [], δ, h, Q => Q true δ h
  | e :: es, δ, h, Q => match es with
    | [] => wpE G e δ h fun d δ1 h1 => ∃ b, d = .bl b ∧ Q b δ1 h1
    | _ :: _ => False
/-- what a for or a comprehension walks -/
def wpI (G : Gm) : SIt → SSt → SHp → (Gd → List SV → SSt → SHp → Prop) → Prop
  | .rng a, δ, h, Q => wpE G a δ h fun r δ1 h1 => ∃ j, r = .int j ∧ -(2 ^ 62) ≤ j ∧ j < 2 ^ 62 ∧ Q (fun _ => True) (rangeS 0 j.toNat) δ1 h1
  | .rng2 a b, δ, h, Q => wpE G a δ h fun r δ1 h1 => wpE G b δ1 h1 fun s δ2 h2 => ∃ i j, r.opd = .int i ∧ s.opd = .int j ∧ (-(2 ^ 62) ≤ i ∧ i < 2 ^ 62 ∧ -(2 ^ 62) ≤ j ∧ j < 2 ^ 62) ∧ Q (fun _ => True) (rangeS i (j - i).toNat) δ2 h2
  | .zip es, δ, h, Q => wpSt G es δ h fun ds δ1 h1 => ∃ x y b b2 xs ys, ds = [x, y] ∧ vw h1 x = some (b, xs) ∧ vw h1 y = some (b2, ys) ∧
      Q (fun h => vw h x = some (b, xs) ∧ vw h y = some (b2, ys)) (zipS xs ys) δ1 h1
  | .enum es, δ, h, Q => wpSt G es δ h fun ds δ1 h1 => ∃ x b xs, ds = [x] ∧ vw h1 x = some (b, xs) ∧ Q (fun h => vw h x = some (b, xs)) (enumS 0 xs) δ1 h1
  | .txt e, δ, h, Q => wpE G e δ h fun d δ1 h1 => ∃ z, d = .str z ∧ Q (fun _ => True) (signsS z) δ1 h1
  | .of e, δ, h, Q => wpE G e δ h fun d δ1 h1 => stow d δ1 h1 fun x δ2 h2 => ∃ b xs, vw h2 x = some (b, xs) ∧ Q (fun h => vw h x = some (b, xs)) xs δ2 h2
end

def asgS (t : STg) (d : SV) (δ : SSt) (h : SHp) (Q : SSt → SHp → Prop) : Prop :=
  match t with
  | .nm i => (match d with
    | .own xs => i < δ.length ∧ Q (δ.set i (some (.own xs))) h
    | .ownD kvs => i < δ.length ∧ Q (δ.set i (some (.ownD kvs))) h
    | d => stow d δ h fun d' δ' h' => i < δ'.length ∧ Q (δ'.set i (some d')) h')
  | .tup ts => stow d δ h fun d' δ' h' => tgS (.tup ts) d' δ' h' Q
def retS (d : SV) (δ : SSt) (h : SHp) (Q : SV → SHp → Prop) : Prop :=
  match d with
  | .loc i => (match δ[i]? with
    | some (some (.own xs)) => Q (.own xs) h
    | some (some (.ownD kvs)) => Q (.ownD kvs) h
    | _ => False)
  | d => Q d h
def setAtS (r : SV) (k : SV) (d : SV) (δ : SSt) (h : SHp) (Q : SSt → SHp → Prop) : Prop :=
  match r with
  | .loc i => (match δ[i]? with
    | some (some (.own xs)) => ∃ n j, k = .int n ∧ ixN xs.length n = some j ∧ Q (δ.set i (some (.own (xs.set j d)))) h
    | some (some (.ownD kvs)) => ∃ k', keyS k = some k' ∧ kvs.length < sizeLine ∧ Q (δ.set i (some (.ownD (putD kvs k' d)))) h
    | _ => False)
  | .ref p => (match h p with
    | some (.lst xs) => ∃ n j, k = .int n ∧ ixN xs.length n = some j ∧ Q δ (h.set p (.lst (xs.set j d)))
    | some (.dct kvs) => ∃ k', keyS k = some k' ∧ kvs.length < sizeLine ∧ Q δ (h.set p (.dct (putD kvs k' d)))
    | _ => False)
  | _ => False
def forLoop (G : Gd) (tg : SV → SSt → SHp → (SSt → SHp → Prop) → Prop) (body : SSt → SHp → SEnds → Prop) : List SV → SSt → SHp → SEnds → Prop
  | [], δ, h, D => G h ∧ D.nx δ h
  | x :: xs, δ, h, D => G h ∧ tg x δ h fun δ1 h1 => body δ1 h1 { nx := fun δ h => forLoop G tg body xs δ h D, ct := fun δ h => forLoop G tg body xs δ h D, bk := D.nx, rt := D.rt }
def whileN (c : SSt → SHp → Post → Prop) (body : SSt → SHp → SEnds → Prop) : Nat → SSt → SHp → SEnds → Prop
  | 0, _, _, _ => False
  | n + 1, δ, h, D => c δ h fun r δ1 h1 => ∃ k, r = .bl k ∧ match k with
    | true => body δ1 h1 { nx := fun δ h => whileN c body n δ h D, ct := fun δ h => whileN c body n δ h D, bk := D.nx, rt := D.rt }
    | false => D.nx δ1 h1
def wipeO (δ : SSt) : Option Nat → SSt
  | some i => δ.set i none
  | none => δ
def goneS (i : Option Nat) (D : SEnds) : SEnds := { nx := fun δ h => D.nx (wipeO δ i) h, rt := D.rt, bk := fun δ h => D.bk (wipeO δ i) h, ct := fun δ h => D.ct (wipeO δ i) h }
def hsS (x : SX) (s : HS) (δ : SSt) (h : SHp) (D : SEnds) : Prop := match s with
  | .ret e => ∃ r, hv x e = some r ∧ D.rt r h
  | .asg j e => ∃ r, hv x e = some r ∧ j < δ.length ∧ D.nx (δ.set j (some r)) h
  | .app j v => ∃ xs, δ[j]? = some (some (.own xs)) ∧ xs.length < sizeLine ∧ D.nx (δ.set j (some (.own (xs ++ [v])))) h
/-- what becomes of an exception of a try's body -/
def catchS (xp : SX → SSt → SHp → Prop) (D : SEnds) : List Hd → SX → SSt → SHp → Prop
  | [], x, δ, h => xp x δ h
  | c :: r, x, δ, h => match subX x.cls c.c with
    | true => hsS x c.s (wipeO δ c.i) h (goneS c.i D)
    | false => catchS xp D r x δ h
mutual
def wpS (G : Gm) : SS → SSt → SHp → SEnds → Prop
  | .asg t e, δ, h, D => wpE G e δ h fun d δ1 h1 => asgS t d δ1 h1 D.nx
  | .par i j a b, δ, h, D => wpSt G [a, b] δ h fun ds δ1 h1 => ∃ v w, ds = [v, w] ∧ i < δ1.length ∧ j < δ1.length ∧ D.nx ((δ1.set i (some v)).set j (some w)) h1
  | .par3 i j l a b c, δ, h, D => wpSt G [a, b, c] δ h fun ds δ1 h1 => ∃ u v w, ds = [u, v, w] ∧ i < δ1.length ∧ j < δ1.length ∧ l < δ1.length ∧ D.nx (((δ1.set i (some u)).set j (some v)).set l (some w)) h1
  | .asub o i e, δ, h, D => wpE G e δ h fun d δ1 h1 => stow d δ1 h1 fun v δ2 h2 => wpE G o δ2 h2 fun r δ3 h3 => wpE G i δ3 h3 fun k δ4 h4 => setAtS r k v δ4 h4 D.nx
  | .exp e, δ, h, D => wpE G e δ h fun _ δ1 h1 => D.nx δ1 h1
  | .ret e, δ, h, D => wpE G e δ h fun d δ1 h1 => retS d δ1 h1 D.rt
  | .ret0, _, h, D => D.rt .non h
  | .ife c a b, δ, h, D => wpE G c δ h fun r δ1 h1 => ∃ k, r = .bl k ∧ match k with
    | true => wpSs G a δ1 h1 D
    | false => wpSs G b δ1 h1 D
  | .for t it body, δ, h, D => wpI G it δ h fun gd items δ1 h1 => forLoop gd (tgS t) (fun δ h D => wpSs G body δ h D) items δ1 h1 D
  | .whl c body, δ, h, D => ∃ n, whileN (fun δ h Q => wpE G c δ h Q) (fun δ h D => wpSs G body δ h D) n δ h D
  | .aug i op e, δ, h, D => ∃ x, δ[i]? = some (some x) ∧ wpE G e δ h fun r δ1 h1 => ∃ m n, x = .int m ∧ r = .int n ∧ (match op with
    | .Add => D.nx (δ1.set i (some (.int (m + n)))) h1
    | .Sub => D.nx (δ1.set i (some (.int (m - n)))) h1
    | .BitOr => D.nx (δ1.set i (some (.int (Builtin.bitOr m n)))) h1
    | _ => False)
  | .brk, δ, h, D => D.bk δ h
  | .cont, δ, h, D => D.ct δ h
  | .pass, δ, h, D => D.nx δ h
  | .rais C f, δ, h, D => (match f with
    | none => G.xp ⟨C, [("called", .str C)]⟩ δ h
    | some (g, e) => wpSt G [e] δ h fun ds δ1 h1 => ∃ d, ds = [d] ∧ G.xp ⟨C, [(g, d), ("called", .str C)]⟩ δ1 h1)
  | .aset C o f e, δ, h, D => wpE G e δ h fun d δ1 h1 => stow d δ1 h1 fun v δ2 h2 => wpE G o δ2 h2 fun r δ3 h3 => ∃ p fs, r = .ref p ∧ h3 p = some (.ins C fs) ∧ fs.length < 1000 ∧ D.nx δ3 (h3.set p (.ins C (putS f v fs)))
  | .ust ts i e, δ, h, D => wpE G e δ h fun d δ1 h1 => stow d δ1 h1 fun x δ2 h2 => ∃ xs, vw h2 x = some (false, xs) ∧ i < ts.length ∧ ts.length ≤ xs.length + 1 ∧ xs.length ≤ 16384 ∧
      tgsS (ts.map .nm) (xs.take i ++ (.frz ((xs.drop i).take (xs.length + 1 - ts.length)) :: (xs.drop i).drop (xs.length + 1 - ts.length))) δ2 h2 D.nx
  | .try body hs, δ, h, D => wpSs { G with xp := catchS G.xp D hs } body δ h D
def wpSs (G : Gm) : List SS → SSt → SHp → SEnds → Prop
  | [], δ, h, D => D.nx δ h
  | s :: ss, δ, h, D => wpS G s δ h { D with nx := fun δ h => wpSs G ss δ h D }
end
end SL
/-! S3: from one state to the next: what an expression leaves, freezing, boxing, calls. -/
namespace SL
open PySem PySem.Spec L2

structure Aft (K : PySem.W.Frag) (Y : Ey) (σ : L2.St) (δ : SSt) (h : SHp) (H : Hp) (Z : ZS) (δ' : SSt) (h' : SHp) (H' : Hp) (Z' : ZS) : Prop where
  rel : Rel K Y Z' δ' h' σ H'
  fr : Fr (Owns δ σ) h H Z h' H' Z'
  own : ∀ a, Owns δ' σ a → Owns δ σ a
section
variable {K : PySem.W.Frag} {Y : Ey} {σ : L2.St} {δ δ1 δ2 : SSt} {h h1 h2 : SHp} {H H1 H2 : Hp} {Z Z1 Z2 : ZS}
theorem Aft.refl (R : Rel K Y Z δ h σ H) : Aft K Y σ δ h H Z δ h H Z := ⟨R, Fr.refl, fun _ o => o⟩
theorem Aft.trans (a : Aft K Y σ δ h H Z δ1 h1 H1 Z1) (b : Aft K Y σ δ1 h1 H1 Z1 δ2 h2 H2 Z2) : Aft K Y σ δ h H Z δ2 h2 H2 Z2 :=
  ⟨b.rel, a.fr.trans b.fr fun x o _ => a.own x o, fun x o => a.own x (b.own x o)⟩
theorem Aft.keeps (R : Rel K Y Z δ h σ H) (a : Aft K Y σ δ h H Z δ1 h1 H1 Z1) : Keeps Z H Z1 H1 := R.keeps a.fr

/-- an expression's value; Hs: the heap ahead of it -/
def RRep (K : PySem.W.Frag) (Y : Ey) (σ : L2.St) (Hs : Hp) (δ : SSt) (h : SHp) (Z : ZS) (H : Hp) (r : SV) (v : V) : Prop :=
  (r.isOwn = true ∧ ∃ a, v = .ref a ∧ OwnAt K Z H a r ∧ h a = none ∧ ¬ Z a ∧ Y.H a = none ∧ ¬ Owns δ σ a ∧ Hs a = none) ∨ (∃ i, r = .loc i ∧ σ[i]? = some (some v)) ∨ (r.plain = true ∧ Rep K Z H r v)
theorem RRep.of {Hs : Hp} {r : SV} {v : V} (q : Rep K Z H r v) : RRep K Y σ Hs δ h Z H r v := .inr (.inr ⟨q.plain, q⟩)
/-- an operand's -/
def PRep (K : PySem.W.Frag) (σ : L2.St) (Z : ZS) (H : Hp) (r : SV) (v : V) : Prop :=
  (∃ i, r = .loc i ∧ σ[i]? = some (some v)) ∨ (∃ kvs a, r = .ownD kvs ∧ v = .ref a) ∨ (r.plain = true ∧ Rep K Z H r v)
theorem PRep.keeps {r : SV} {v : V} (k : Keeps Z H Z1 H1) (q : PRep K σ Z H r v) : PRep K σ Z1 H1 r v := by
  rcases q with q | q | q
  · exact .inl q
  · exact .inr (.inl q)
  · exact .inr (.inr ⟨q.1, q.2.keeps k⟩)

/-- a further place is frozen: one that was new behind the start -/
theorem Rel.freeze (R : Rel K Y Z δ h σ H) {a : Addr} (hn : h a = none) (he : Y.H a = none) (ho : ¬ Owns δ σ a) (hs : H a ≠ none) : Rel K Y (fun b => Z b ∨ b = a) δ h σ H := by
  have k : Keeps Z H (fun b => Z b ∨ b = a) H := ⟨fun _ z => .inl z, fun _ _ _ e => e, fun _ _ e => e, fun _ _ _ e => e⟩
  refine ⟨⟨fun p c e => (R.hr.cell p c e).keeps k rfl, fun b z => ?_, fun b z => ?_⟩, ⟨⟨R.ent.keep, R.ent.untr, R.ent.track, fun b z => .inl (R.ent.zmono b z), fun b z => ?_⟩, R.ent.anc.trans k⟩, R.len, fun i d e => ?_, R.dist⟩
  · rcases z with z | rfl
    · exact R.hr.frz b z
    · exact hn
  · rcases z with z | rfl
    · exact R.hr.zin b z
    · exact hs
  · rcases z with z | rfl
    · exact R.ent.znew b z
    · exact .inr (.inl he)
  · obtain ⟨v, ev, r⟩ := R.slot i d e
    refine ⟨v, ev, ?_⟩
    rcases r with ⟨o, b, eb, oa, q1, q2, q3⟩ | ⟨o, r⟩
    · refine .inl ⟨o, b, eb, oa.keeps k rfl, q1, ?_, q3⟩
      rintro (z | rfl)
      · exact q2 z
      · subst eb
        exact ho ⟨i, d, e, o, ev⟩
    · exact .inr ⟨o, r.keeps k⟩
theorem Aft.freeze (A : Aft K Y σ δ h H Z δ1 h1 H1 Z1) {a : Addr} (hn : h1 a = none) (he : Y.H a = none) (ho : ¬ Owns δ1 σ a) (hs : H1 a ≠ none) (hf : H a = none ∨ Owns δ σ a) : Aft K Y σ δ h H Z δ1 h1 H1 (fun b => Z1 b ∨ b = a) := by
  refine ⟨A.rel.freeze hn he ho hs, ⟨A.fr.keep, A.fr.untr, A.fr.track, fun b z => .inl (A.fr.zmono b z), fun b z => ?_⟩, A.own⟩
  rcases z with z | rfl
  · exact A.fr.znew b z
  · rcases hf with hf | hf
    · exact .inr (.inl hf)
    · exact .inr (.inr (.inr hf))
theorem OwnAt.frz {a : Addr} {xs : List SV} (o : OwnAt K Z H a (.own xs)) : Rep K (fun b => Z b ∨ b = a) H (.frz xs) (.ref a) := by
  obtain ⟨vs, e, r⟩ := o
  simp only [Rep]
  exact ⟨a, vs, rfl, ⟨e, .inr rfl⟩, r.keeps ⟨fun _ z => .inl z, fun _ _ _ e => e, fun _ _ e => e, fun _ _ _ e => e⟩⟩
/-- an operand -/
theorem Aft.opd {r : SV} {v : V} (A : Aft K Y σ δ h H Z δ1 h1 H1 Z1) (q : RRep K Y σ H δ1 h1 Z1 H1 r v) : ∃ Z1', Aft K Y σ δ h H Z δ1 h1 H1 Z1' ∧ PRep K σ Z1' H1 r.opd v := by
  rcases q with ⟨o, a, ev, oa, q1, q2, q3, q4, q5⟩ | ⟨i, e, s⟩ | ⟨p, q⟩
  · cases r with
    | own xs =>
      obtain ⟨ob, eo, _⟩ := oa.there
      refine ⟨_, A.freeze q1 q3 q4 (by rw [eo]; exact Option.some_ne_none _) (.inl q5), .inr (.inr ⟨rfl, ?_⟩)⟩
      subst ev
      exact oa.frz
    | ownD kvs => exact ⟨Z1, A, .inr (.inl ⟨kvs, a, rfl, ev⟩)⟩
    | _ => cases o
  · subst e
    exact ⟨Z1, A, .inl ⟨i, rfl, s⟩⟩
  · refine ⟨Z1, A, .inr (.inr ?_)⟩
    cases r <;> first | exact ⟨rfl, q⟩ | cases p
/-- what a value shows -/
theorem vw_ok (R : HRel K Z h H) {r : SV} {v : V} {b : Bool} {xs : List SV} (q : Rep K Z H r v) (e : vw h r = some (b, xs)) :
    ∃ a vs, v = .ref a ∧ Reps K Z H xs vs ∧ ((b = true ∧ SqT K H a vs) ∨ (b = false ∧ SqL K H a vs ∧ ((∀ ys, r ≠ .lkd ys) → H a = some (.lst vs)))) := by
  cases r with
  | tup ys =>
    simp only [vw, Option.some.injEq, Prod.mk.injEq] at e
    obtain ⟨rfl, rfl⟩ := e
    obtain ⟨a, vs, ev, s, r⟩ := (by simpa only [Rep] using q : ∃ a vs, _ ∧ _ ∧ _)
    exact ⟨a, vs, ev, r, .inl ⟨rfl, s⟩⟩
  | frz ys =>
    simp only [vw, Option.some.injEq, Prod.mk.injEq] at e
    obtain ⟨rfl, rfl⟩ := e
    obtain ⟨a, vs, ev, s, r⟩ := (by simpa only [Rep] using q : ∃ a vs, _ ∧ _ ∧ _)
    exact ⟨a, vs, ev, r, .inr ⟨rfl, .inl (.inl s.1), fun _ => s.1⟩⟩
  | lkd ys =>
    simp only [vw, Option.some.injEq, Prod.mk.injEq] at e
    obtain ⟨rfl, rfl⟩ := e
    obtain ⟨a, vs, ev, s, r⟩ := (by simpa only [Rep] using q : ∃ a vs, _ ∧ _ ∧ _)
    exact ⟨a, vs, ev, r, .inr ⟨rfl, s.sq, fun n => absurd rfl (n ys)⟩⟩
  | own ys => simp only [Rep] at q
  | ref a =>
    have ev : v = .ref a := by simpa only [Rep] using q
    cases c : h a with
    | none => simp only [vw, c] at e; cases e
    | some cell =>
      cases cell with
      | lst ys =>
        simp only [vw, c, Option.some.injEq, Prod.mk.injEq] at e
        obtain ⟨rfl, rfl⟩ := e
        obtain ⟨vs, e1, r⟩ := R.cell a _ c
        exact ⟨a, vs, ev, r, .inr ⟨rfl, .inl (.inl e1), fun _ => e1⟩⟩
      | _ => simp only [vw, c] at e; cases e
  | _ => simp only [vw] at e; cases e
theorem view_ok (R : Rel K Y Z δ h σ H) {r : SV} {v : V} {b : Bool} {xs : List SV} (q : PRep K σ Z H r v) (e : view δ h r = some (b, xs)) :
    ∃ a vs, v = .ref a ∧ Reps K Z H xs vs ∧ ((b = true ∧ SqT K H a vs) ∨ (b = false ∧ SqL K H a vs ∧ ((∀ ys, r ≠ .lkd ys) → (∀ i ys, r = .loc i → δ[i]? ≠ some (some (.lkd ys))) → H a = some (.lst vs)))) := by
  rcases q with ⟨i, rfl, s⟩ | ⟨kvs, a, rfl, _⟩ | ⟨p, q⟩
  · simp only [view] at e
    cases d : δ[i]? with
    | none => rw [d] at e; cases e
    | some o =>
      cases o with
      | none => rw [d] at e; cases e
      | some d' =>
        rw [d] at e
        obtain ⟨w, ew, r⟩ := R.slot i d' d
        rw [s] at ew
        cases ew
        rcases r with ⟨o, a, ea, oa, _⟩ | ⟨o, r⟩
        · cases d' with
          | own ys =>
            simp only [vw, Option.some.injEq, Prod.mk.injEq] at e
            obtain ⟨rfl, rfl⟩ := e
            obtain ⟨vs, e1, r⟩ := oa
            exact ⟨a, vs, ea, r, .inr ⟨rfl, .inl (.inl e1), fun _ _ => e1⟩⟩
          | ownD ys => simp only [vw] at e; cases e
          | _ => cases o
        · obtain ⟨a, vs, ea, rr, q⟩ := vw_ok R.hr r e
          refine ⟨a, vs, ea, rr, ?_⟩
          rcases q with q | ⟨q1, q2, q3⟩
          · exact .inl q
          · refine .inr ⟨q1, q2, fun _ n => q3 fun ys hy => ?_⟩
            subst hy
            exact n i ys rfl d
  · simp only [view, vw] at e
    cases e
  · have e' : vw h r = some (b, xs) := by
      cases r <;> first | exact e | cases p
    obtain ⟨a, vs, ea, rr, q⟩ := vw_ok R.hr q e'
    refine ⟨a, vs, ea, rr, ?_⟩
    rcases q with q | ⟨q1, q2, q3⟩
    · exact .inl q
    · exact .inr ⟨q1, q2, fun n _ => q3 n⟩

/-- a slot that held an owned list holds something plain of the same place -/
theorem Rel.plainSlot (R : Rel K Y Z δ h σ H) {i : Nat} {d : SV} {v : V} (s : σ[i]? = some (some v)) (r : Rep K Z H d v) : Rel K Y Z (δ.set i (some d)) h σ H := by
  refine ⟨R.hr, R.ent, by rw [List.length_set]; exact R.len, fun j e q => ?_, fun j k d1 d2 w q1 q2 o1 o2 => ?_⟩
  · by_cases ij : i = j
    · subst ij
      by_cases hl : i < δ.length
      · rw [List.getElem?_set_self hl] at q
        cases q
        exact ⟨v, s, .inr ⟨r.not_own, r⟩⟩
      · rw [List.getElem?_eq_none (by rw [List.length_set]; omega)] at q; cases q
    · rw [List.getElem?_set_ne ij] at q
      exact R.slot j e q
  · have no : ∀ {m : Nat} {d' : SV}, (δ.set i (some d))[m]? = some (some d') → d'.isOwn = true → m ≠ i ∧ δ[m]? = some (some d') := fun {m d'} q o => by
      by_cases im : i = m
      · subst im
        by_cases hl : i < δ.length
        · rw [List.getElem?_set_self hl] at q
          cases q
          rw [r.not_own] at o; cases o
        · rw [List.getElem?_eq_none (by rw [List.length_set]; omega)] at q; cases q
      · rw [List.getElem?_set_ne im] at q
        exact ⟨fun z => im z.symm, q⟩
    exact R.dist j k d1 d2 w (no q1 o1).2 (no q2 o2).2 o1 o2
theorem owns_set {i : Nat} {d : SV} (hd : d.isOwn = false) : ∀ a, Owns (δ.set i (some d)) σ a → Owns δ σ a := fun a ⟨j, e, q, o, s⟩ => by
  by_cases ij : i = j
  · subst ij
    by_cases hl : i < δ.length
    · rw [List.getElem?_set_self hl] at q
      cases q
      rw [hd] at o; cases o
    · rw [List.getElem?_eq_none (by rw [List.length_set]; omega)] at q; cases q
  · rw [List.getElem?_set_ne ij] at q
    exact ⟨j, e, q, o, s⟩
/-- the slot's own place is no more an owned one -/
theorem Rel.not_owns_set (R : Rel K Y Z δ h σ H) {i : Nat} {d d' : SV} {a : Addr} (e : δ[i]? = some (some d')) (o : d'.isOwn = true) (s : σ[i]? = some (some (.ref a))) (hd : d.isOwn = false) : ¬ Owns (δ.set i (some d)) σ a := fun ⟨j, x, q, ox, sx⟩ => by
  by_cases ij : i = j
  · subst ij
    by_cases hl : i < δ.length
    · rw [List.getElem?_set_self hl] at q
      cases q
      rw [hd] at ox; cases ox
    · rw [List.getElem?_eq_none (by rw [List.length_set]; omega)] at q; cases q
  · rw [List.getElem?_set_ne ij] at q
    exact ij (R.dist i j d' x (.ref a) e q o ox s sx)
theorem Rel.ownSlot (R : Rel K Y Z δ h σ H) {i : Nat} {d : SV} (e : δ[i]? = some (some d)) (o : d.isOwn = true) : ∃ a, σ[i]? = some (some (.ref a)) ∧ OwnAt K Z H a d ∧ h a = none ∧ ¬ Z a ∧ Y.H a = none ∧ Owns δ σ a := by
  obtain ⟨v, ev, r⟩ := R.slot i d e
  rcases r with ⟨_, a, ea, q⟩ | ⟨n, _⟩
  · subst ea
    exact ⟨a, ev, q.1, q.2.1, q.2.2.1, q.2.2.2, ⟨i, d, e, o, ev⟩⟩
  · rw [o] at n; cases n

/-- into another value -/
theorem Aft.stow {r : SV} {v : V} {C : SV → SSt → SHp → Prop} (A : Aft K Y σ δ h H Z δ1 h1 H1 Z1) (q : RRep K Y σ H δ1 h1 Z1 H1 r v) (s : stow r δ1 h1 C) :
    ∃ r' δ2 Z2, C r' δ2 h1 ∧ Aft K Y σ δ h H Z δ2 h1 H1 Z2 ∧ Rep K Z2 H1 r' v := by
  rcases q with ⟨o, a, ev, oa, q1, q2, q3, q4, q5⟩ | ⟨i, e, sv⟩ | ⟨p, q⟩
  · cases r with
    | own xs =>
      obtain ⟨ob, eo, _⟩ := oa.there
      subst ev
      exact ⟨_, δ1, _, s, A.freeze q1 q3 q4 (by rw [eo]; exact Option.some_ne_none _) (.inl q5), oa.frz⟩
    | ownD kvs => exact s.elim
    | _ => cases o
  · subst e
    simp only [SL.stow] at s
    cases d : δ1[i]? with
    | none => rw [d] at s; exact s.elim
    | some od =>
      cases od with
      | none => rw [d] at s; exact s.elim
      | some d' =>
        rw [d] at s
        cases hown : d'.isOwn with
        | true =>
          obtain ⟨a, sa, oa, n1, n2, n3, n4⟩ := A.rel.ownSlot d hown
          rw [sv] at sa
          cases sa
          cases d' with
          | own xs =>
            obtain ⟨ob, eo, _⟩ := oa.there
            have fz := oa.frz
            -- first the slot, then the place
            have k : Keeps Z1 H1 (fun b => Z1 b ∨ b = a) H1 := ⟨fun _ z => .inl z, fun _ _ _ e => e, fun _ _ e => e, fun _ _ _ e => e⟩
            have no := A.rel.not_owns_set (d := .frz xs) d hown sv rfl
            -- the relation with the slot emptied, then frozen, then filled
            have R1 : Rel K Y Z1 (δ1.set i none) h1 σ H1 := by
              have nn : ∀ {m : Nat} {e : SV}, (δ1.set i none)[m]? = some (some e) → m ≠ i ∧ δ1[m]? = some (some e) := fun {m e} q => by
                by_cases im : i = m
                · subst im
                  by_cases hl : i < δ1.length
                  · rw [List.getElem?_set_self hl] at q; cases q
                  · rw [List.getElem?_eq_none (by rw [List.length_set]; omega)] at q; cases q
                · rw [List.getElem?_set_ne im] at q
                  exact ⟨fun z => im z.symm, q⟩
              exact ⟨A.rel.hr, A.rel.ent, by rw [List.length_set]; exact A.rel.len, fun m e q => A.rel.slot m e (nn q).2, fun j m d1 d2 w e1 e2 => A.rel.dist j m d1 d2 w (nn e1).2 (nn e2).2⟩
            have no1 : ¬ Owns (δ1.set i none) σ a := fun ⟨m, e, q, oe, se⟩ => by
              by_cases im : i = m
              · subst im
                by_cases hl : i < δ1.length
                · rw [List.getElem?_set_self hl] at q; cases q
                · rw [List.getElem?_eq_none (by rw [List.length_set]; omega)] at q; cases q
              · rw [List.getElem?_set_ne im] at q
                exact im (A.rel.dist i m _ e (.ref a) d q hown oe sv se)
            have R2 := R1.freeze n1 n3 no1 (by rw [eo]; exact Option.some_ne_none _)
            have R3 := R2.plainSlot (i := i) (d := .frz xs) sv fz
            rw [List.set_set] at R3
            refine ⟨_, _, _, s, ⟨R3, ⟨A.fr.keep, A.fr.untr, A.fr.track, fun b z => .inl (A.fr.zmono b z), fun b z => ?_⟩, fun b ob => A.own b (owns_set rfl b ob)⟩, fz⟩
            rcases z with z | rfl
            · exact A.fr.znew b z
            · exact .inr (.inr (.inr (A.own _ n4)))
          | ownD kvs => exact s.elim
          | _ => cases hown
        | false =>
          obtain ⟨w, ew, rr⟩ := A.rel.slot i d' d
          rw [sv] at ew
          cases ew
          rcases rr with ⟨z, _⟩ | ⟨_, rr⟩
          · rw [hown] at z; cases z
          · refine ⟨d', δ1, Z1, ?_, A, rr⟩
            cases d' <;> first | exact s | (simp only [Rep] at rr) | cases hown
  · refine ⟨r, δ1, Z1, ?_, A, q⟩
    cases r <;> first | exact s | cases p
end
end SL
/-! S4: boxing for a call, the call, what stands behind it. -/
namespace SL
open PySem PySem.Spec L2
section
variable {K : PySem.W.Frag} {Y : Ey} {σ : L2.St} {δ δ1 δ2 : SSt} {h h1 h2 : SHp} {H H1 H2 : Hp} {Z Z1 Z2 : ZS}

/-- an owned thing as a cell -/
def SV.cell? : SV → Option Cell
  | .own xs => some (.lst xs)
  | .ownD kvs => some (.dct kvs)
  | _ => none
theorem OwnAt.cell {a : Addr} {d : SV} (o : OwnAt K Z H a d) : ∃ c, d.cell? = some c ∧ CRep K Z H a c := by
  cases d with
  | own xs => exact ⟨_, rfl, o⟩
  | ownD kvs => exact ⟨_, rfl, o⟩
  | _ => exact o.elim
/-- a new cell is tracked -/
theorem HRel.put (R : HRel K Z h H) {a : Addr} {c : Cell} (nz : ¬ Z a) (cr : CRep K Z H a c) : HRel K Z (h.set a c) H := by
  refine ⟨fun p d e => ?_, fun b z => ?_, R.zin⟩
  · by_cases pa : p = a
    · subst pa
      rw [SHp.set_same] at e
      cases e
      exact cr
    · rw [SHp.set_ne pa] at e
      exact R.cell p d e
  · rw [SHp.set_ne (fun e => nz (by rw [← e]; exact z))]
    exact R.frz b z
theorem HRel.drop (R : HRel K Z h H) (a : Addr) : HRel K Z (h.del a) H := by
  refine ⟨fun p d e => ?_, fun b z => ?_, R.zin⟩
  · by_cases pa : p = a
    · subst pa
      rw [SHp.del_same] at e; cases e
    · rw [SHp.del_ne pa] at e
      exact R.cell p d e
  · by_cases pa : b = a
    · subst pa
      exact SHp.del_same
    · rw [SHp.del_ne pa]
      exact R.frz b z
theorem Rel.put (R : Rel K Y Z δ h σ H) {a : Addr} {c : Cell} (nz : ¬ Z a) (ny : Y.H a = none) (no : ¬ Owns δ σ a) (cr : CRep K Z H a c) : Rel K Y Z δ (h.set a c) σ H := by
  refine ⟨R.hr.put nz cr, ⟨⟨R.ent.keep, fun b e n f => ?_, R.ent.track, R.ent.zmono, R.ent.znew⟩, R.ent.anc⟩, R.len, fun i d e => ?_, R.dist⟩
  · rw [SHp.set_ne (fun z => e (by rw [z]; exact ny))]
    exact R.ent.untr b e n f
  · obtain ⟨v, ev, r⟩ := R.slot i d e
    refine ⟨v, ev, ?_⟩
    rcases r with ⟨o, b, eb, oa, q1, q2, q3⟩ | r
    · refine .inl ⟨o, b, eb, oa, ?_, q2, q3⟩
      rw [SHp.set_ne (fun z => ?_)]
      · exact q1
      · subst z eb
        exact no ⟨i, d, e, o, ev⟩
    · exact .inr r
theorem Rel.drop (R : Rel K Y Z δ h σ H) (a : Addr) : Rel K Y Z δ (h.del a) σ H := by
  refine ⟨R.hr.drop a, ⟨⟨R.ent.keep, fun b e n f => ?_, R.ent.track, R.ent.zmono, R.ent.znew⟩, R.ent.anc⟩, R.len, fun i d e => ?_, R.dist⟩
  · by_cases ba : b = a
    · subst ba; exact SHp.del_same
    · rw [SHp.del_ne ba]; exact R.ent.untr b e n f
  · obtain ⟨v, ev, r⟩ := R.slot i d e
    refine ⟨v, ev, ?_⟩
    rcases r with ⟨o, b, eb, oa, q1, q2, q3⟩ | r
    · refine .inl ⟨o, b, eb, oa, ?_, q2, q3⟩
      by_cases ba : b = a
      · subst ba; exact SHp.del_same
      · rw [SHp.del_ne ba]; exact q1
    · exact .inr r
theorem Aft.put (A : Aft K Y σ δ h H Z δ1 h1 H1 Z1) {a : Addr} {c : Cell} (nz : ¬ Z1 a) (ny : Y.H a = none) (no : ¬ Owns δ1 σ a) (cr : CRep K Z1 H1 a c) (hf : H a = none ∨ Owns δ σ a) : Aft K Y σ δ h H Z δ1 (h1.set a c) H1 Z1 := by
  refine ⟨A.rel.put nz ny no cr, ⟨A.fr.keep, fun b e n f => ?_, A.fr.track, A.fr.zmono, A.fr.znew⟩, A.own⟩
  rw [SHp.set_ne (fun z => ?_)]
  · exact A.fr.untr b e n f
  · subst z
    rcases hf with q | q
    · exact e q
    · exact f q
theorem Aft.drop (A : Aft K Y σ δ h H Z δ1 h1 H1 Z1) (a : Addr) : Aft K Y σ δ h H Z δ1 (h1.del a) H1 Z1 := by
  refine ⟨A.rel.drop a, ⟨A.fr.keep, fun b e n f => ?_, A.fr.track, A.fr.zmono, A.fr.znew⟩, A.own⟩
  by_cases ba : b = a
  · subst ba; exact SHp.del_same
  · rw [SHp.del_ne ba]; exact A.fr.untr b e n f
/-- a slot emptied -/
theorem Rel.empty (R : Rel K Y Z δ h σ H) (i : Nat) : Rel K Y Z (δ.set i none) h σ H := by
  have nn : ∀ {m : Nat} {e : SV}, (δ.set i none)[m]? = some (some e) → m ≠ i ∧ δ[m]? = some (some e) := fun {m e} q => by
    by_cases im : i = m
    · subst im
      by_cases hl : i < δ.length
      · rw [List.getElem?_set_self hl] at q; cases q
      · rw [List.getElem?_eq_none (by rw [List.length_set]; omega)] at q; cases q
    · rw [List.getElem?_set_ne im] at q
      exact ⟨fun z => im z.symm, q⟩
  exact ⟨R.hr, R.ent, by rw [List.length_set]; exact R.len, fun m e q => R.slot m e (nn q).2, fun j m d1 d2 w e1 e2 => R.dist j m d1 d2 w (nn e1).2 (nn e2).2⟩
theorem owns_empty {i : Nat} : ∀ a, Owns (δ.set i none) σ a → Owns δ σ a := fun a ⟨m, e, q, o, s⟩ => by
  by_cases im : i = m
  · subst im
    by_cases hl : i < δ.length
    · rw [List.getElem?_set_self hl] at q; cases q
    · rw [List.getElem?_eq_none (by rw [List.length_set]; omega)] at q; cases q
  · rw [List.getElem?_set_ne im] at q
    exact ⟨m, e, q, o, s⟩
theorem Rel.not_owns_empty (R : Rel K Y Z δ h σ H) {i : Nat} {d : SV} {a : Addr} (e : δ[i]? = some (some d)) (o : d.isOwn = true) (s : σ[i]? = some (some (.ref a))) : ¬ Owns (δ.set i none) σ a := fun ⟨m, x, q, oe, se⟩ => by
  by_cases im : i = m
  · subst im
    by_cases hl : i < δ.length
    · rw [List.getElem?_set_self hl] at q; cases q
    · rw [List.getElem?_eq_none (by rw [List.length_set]; omega)] at q; cases q
  · rw [List.getElem?_set_ne im] at q
    exact im (R.dist i m d x (.ref a) e q o oe s se)

/-- what a boxed argument was: H0, δ0: ahead of all arguments -/
def BoxOk (Y : Ey) (σ : L2.St) (δ0 : SSt) (n : Nat) : Option (Option Nat × Addr) → Prop
  | none => True
  | some (none, _) => True
  | some (some i, p) => σ[i]? = some (some (.ref p)) ∧ Y.H p = none ∧ Owns δ0 σ p ∧ i < n
theorem Aft.boxS {r : SV} {v : V} {C : SV → Option (Option Nat × Addr) → SSt → SHp → Prop} (A : Aft K Y σ δ h H Z δ1 h1 H1 Z1) (q : RRep K Y σ H δ1 h1 Z1 H1 r v) (s : boxS r δ1 h1 C) :
    ∃ r' b δ2 h2, C r' b δ2 h2 ∧ Aft K Y σ δ h H Z δ2 h2 H1 Z1 ∧ Rep K Z1 H1 r' v ∧ BoxOk Y σ δ δ1.length b ∧ δ2.length = δ1.length := by
  rcases q with ⟨o, a, ev, oa, q1, q2, q3, q4, q5⟩ | ⟨i, e, sv⟩ | ⟨p, q⟩
  · obtain ⟨c, ec, cr⟩ := oa.cell
    have P := A.put q2 q3 q4 cr (.inl q5)
    subst ev
    cases r with
    | own xs =>
      cases ec
      exact ⟨_, _, _, _, s a q1, P, by simp only [Rep], trivial, rfl⟩
    | ownD kvs =>
      cases ec
      exact ⟨_, _, _, _, s a q1, P, by simp only [Rep], trivial, rfl⟩
    | _ => cases o
  · subst e
    simp only [SL.boxS] at s
    cases d : δ1[i]? with
    | none => rw [d] at s; exact s.elim
    | some od =>
      cases od with
      | none => rw [d] at s; exact s.elim
      | some d' =>
        rw [d] at s
        cases hown : d'.isOwn with
        | true =>
          obtain ⟨a, sa, oa, n1, n2, n3, n4⟩ := A.rel.ownSlot d hown
          rw [sv] at sa
          cases sa
          obtain ⟨c, ec, cr⟩ := oa.cell
          have il : i < δ1.length := (List.getElem?_eq_some_iff.mp d).1
          have R1 := (A.rel.empty i).put n2 n3 (A.rel.not_owns_empty d hown sv) cr
          have R2 := R1.plainSlot (i := i) (d := .ref a) sv (by simp only [Rep])
          rw [List.set_set] at R2
          have P : Aft K Y σ δ h H Z (δ1.set i (some (.ref a))) (h1.set a c) H1 Z1 := by
            refine ⟨R2, ⟨A.fr.keep, fun b e n f => ?_, A.fr.track, A.fr.zmono, A.fr.znew⟩, fun b ob => A.own b (owns_set rfl b ob)⟩
            rw [SHp.set_ne (fun z => f (by rw [z]; exact A.own _ n4))]
            exact A.fr.untr b e n f
          have B : BoxOk Y σ δ δ1.length (some (some i, a)) := ⟨sv, n3, A.own _ n4, il⟩
          cases d' with
          | own xs =>
            cases ec
            exact ⟨_, _, _, _, s a n1, P, by simp only [Rep], B, List.length_set⟩
          | ownD kvs =>
            cases ec
            exact ⟨_, _, _, _, s a n1, P, by simp only [Rep], B, List.length_set⟩
          | _ => cases hown
        | false =>
          obtain ⟨w, ew, rr⟩ := A.rel.slot i d' d
          rw [sv] at ew
          cases ew
          rcases rr with ⟨z, _⟩ | ⟨_, rr⟩
          · rw [hown] at z; cases z
          · refine ⟨d', none, δ1, h1, ?_, A, rr, trivial, rfl⟩
            cases d' <;> first | exact s | (simp only [Rep] at rr) | cases hown
  · refine ⟨r, none, δ1, h1, ?_, A, q, trivial, rfl⟩
    cases r <;> first | exact s | cases p
/-- a tracked place of a slot's becomes the slot's own again -/
theorem Aft.unbox1 (A : Aft K Y σ δ h H Z δ1 h1 H1 Z1) {i : Nat} {p : Addr} {c : Cell} {d : SV} (e : h1 p = some c) (ec : d.cell? = some c) (s : σ[i]? = some (some (.ref p))) (ny : Y.H p = none) (o : Owns δ σ p) (il : i < δ1.length) :
    Aft K Y σ δ h H Z (δ1.set i (some d)) (h1.del p) H1 Z1 := by
  have cr := A.rel.hr.cell p c e
  have nz : ¬ Z1 p := fun z => by
    rw [A.rel.hr.frz p z] at e; cases e
  have hown : d.isOwn = true := by cases d <;> first | rfl | cases ec
  have oa : OwnAt K Z1 H1 p d := by
    cases d with
    | own xs => cases ec; exact cr
    | ownD kvs => cases ec; exact cr
    | _ => cases ec
  have B := A.drop p
  have sl : ∀ {j : Nat} {d' : SV}, (δ1.set i (some d))[j]? = some (some d') → (j = i ∧ d' = d) ∨ (j ≠ i ∧ δ1[j]? = some (some d')) := fun {j d'} q => by
    by_cases ij : i = j
    · subst ij
      rw [List.getElem?_set_self il] at q
      cases q
      exact .inl ⟨rfl, rfl⟩
    · rw [List.getElem?_set_ne ij] at q
      exact .inr ⟨fun z => ij z.symm, q⟩
  have nop : ∀ {j : Nat} {d' : SV}, δ1[j]? = some (some d') → d'.isOwn = true → σ[j]? ≠ some (some (.ref p)) := fun {j d'} q o' z => by
    obtain ⟨a, sa, _, n1, _⟩ := A.rel.ownSlot q o'
    rw [z] at sa
    cases sa
    rw [n1] at e; cases e
  refine ⟨⟨B.rel.hr, B.rel.ent, by rw [List.length_set]; exact B.rel.len, fun j d' q => ?_, fun j k d1 d2 w q1 q2 o1 o2 s1 s2 => ?_⟩, B.fr, fun a ⟨j, d', q, o', s'⟩ => ?_⟩
  · rcases sl q with ⟨rfl, rfl⟩ | ⟨_, q⟩
    · exact ⟨_, s, .inl ⟨hown, p, rfl, oa, SHp.del_same, nz, ny⟩⟩
    · exact B.rel.slot j d' q
  · rcases sl q1 with ⟨rfl, rfl⟩ | ⟨n1, q1⟩
    · rcases sl q2 with ⟨rfl, rfl⟩ | ⟨n2, q2⟩
      · rfl
      · rw [s] at s1
        cases s1
        exact absurd s2 (nop q2 o2)
    · rcases sl q2 with ⟨ek, _⟩ | ⟨n2, q2⟩
      · rw [ek, s] at s2
        cases s2
        exact absurd s1 (nop q1 o1)
      · exact A.rel.dist j k d1 d2 w q1 q2 o1 o2 s1 s2
  · rcases sl q with ⟨rfl, rfl⟩ | ⟨_, q⟩
    · rw [s] at s'
      cases s'
      exact o
    · exact A.own a ⟨j, d', q, o', s'⟩
theorem Aft.unbox : ∀ {bs : List (Option (Option Nat × Addr))} {δ1 : SSt} {h1 : SHp} {C : SSt → SHp → Prop}, Aft K Y σ δ h H Z δ1 h1 H1 Z1 → (∀ b ∈ bs, BoxOk Y σ δ δ1.length b) → unbox bs δ1 h1 C →
    ∃ δ2 h2, C δ2 h2 ∧ Aft K Y σ δ h H Z δ2 h2 H1 Z1 ∧ (∀ a, h2 a ≠ none → h1 a ≠ none) ∧ ∀ a, Owns δ2 σ a → Owns δ1 σ a ∨ h1 a ≠ none
  | [], δ1, h1, C, A, _, u => ⟨δ1, h1, u, A, fun _ q => q, fun _ o => .inl o⟩
  | none :: r, δ1, h1, C, A, hb, u => Aft.unbox A (fun b m => hb b (List.mem_cons_of_mem _ m)) u
  | some (none, p) :: r, δ1, h1, C, A, hb, u => by
    obtain ⟨δ2, h2, c, B, n, n2⟩ := Aft.unbox (A.drop p) (fun b m => hb b (List.mem_cons_of_mem _ m)) u
    have dn : ∀ a, (h1.del p) a ≠ none → h1 a ≠ none := fun a q z => q (by
      by_cases ap : a = p
      · subst ap; exact SHp.del_same
      · rw [SHp.del_ne ap]; exact z)
    exact ⟨δ2, h2, c, B, fun a q => dn a (n a q), fun a o => (n2 a o).imp id (dn a)⟩
  | some (some i, p) :: r, δ1, h1, C, A, hb, u => by
    obtain ⟨s, ny, o, il⟩ : σ[i]? = some (some (.ref p)) ∧ Y.H p = none ∧ Owns δ σ p ∧ i < δ1.length := hb _ List.mem_cons_self
    have dn : ∀ a, (h1.del p) a ≠ none → h1 a ≠ none := fun a q z => q (by
      by_cases ap : a = p
      · subst ap; exact SHp.del_same
      · rw [SHp.del_ne ap]; exact z)
    have fin : ∀ {d : SV} {c : Cell}, h1 p = some c → d.cell? = some c → SL.unbox r (δ1.set i (some d)) (h1.del p) C → ∃ δ2 h2, C δ2 h2 ∧ Aft K Y σ δ h H Z δ2 h2 H1 Z1 ∧ (∀ a, h2 a ≠ none → h1 a ≠ none) ∧ ∀ a, Owns δ2 σ a → Owns δ1 σ a ∨ h1 a ≠ none := fun {d c} e ec u => by
      obtain ⟨δ2, h2, cc, B, n, n2⟩ := Aft.unbox (A.unbox1 e ec s ny o il) (fun b m => by rw [List.length_set]; exact hb b (List.mem_cons_of_mem _ m)) u
      refine ⟨δ2, h2, cc, B, fun a q => dn a (n a q), fun a o => ?_⟩
      rcases n2 a o with ⟨j, d', q, o', s'⟩ | q
      · by_cases ij : i = j
        · subst ij
          rw [s] at s'
          cases s'
          exact .inr (by rw [e]; exact Option.some_ne_none _)
        · rw [List.getElem?_set_ne ij] at q
          exact .inl ⟨j, d', q, o', s'⟩
      · exact .inr (dn a q)
    simp only [SL.unbox] at u
    cases e : h1 p with
    | none => rw [e] at u; exact u.elim
    | some c =>
      rw [e] at u
      cases c with
      | lst xs => exact fin e rfl u
      | dct kvs => exact fin e rfl u
      | ins C fs => exact u.elim
/-- behind a call -/
theorem Rel.called (R : Rel K Y Z δ h σ H) (hr : HRel K Z1 h1 H1) (f : Fr (fun _ => False) h H Z h1 H1 Z1) : Aft K Y σ δ h H Z δ h1 H1 Z1 := by
  have k : Keeps Z H Z1 H1 := f.keeps R.hr fun _ z => z.elim
  refine ⟨⟨hr, ⟨R.ent.toFr.trans f fun _ z _ => z, R.ent.anc.trans k⟩, R.len, fun i d e => ?_, R.dist⟩, ⟨fun a o e n _ => f.keep a o e n id, fun a e n _ => f.untr a e n id, f.track, f.zmono, fun a z => ?_⟩, fun _ o => o⟩
  · obtain ⟨v, ev, r⟩ := R.slot i d e
    refine ⟨v, ev, ?_⟩
    rcases r with ⟨o, b, eb, oa, q1, q2, q3⟩ | ⟨o, r⟩
    · obtain ⟨ob, eo, _⟩ := oa.there
      have e1 := f.keep b ob eo q1 id
      refine .inl ⟨o, b, eb, oa.keeps k (e1.trans eo.symm), f.untr b (by rw [eo]; exact Option.some_ne_none _) q1 id, fun z => ?_, q3⟩
      rcases f.znew b z with q | q | q | q
      · exact q2 q
      · rw [eo] at q; cases q
      · exact q q1
      · exact q
    · exact .inr ⟨o, r.keeps k⟩
  · rcases f.znew a z with q | q | q | q
    · exact .inl q
    · exact .inr (.inl q)
    · exact .inr (.inr (.inl q))
    · exact q.elim
end

/-- what a def hands back -/
def RetRep (K : PySem.W.Frag) (HY : Hp) (h : SHp) (Z : ZS) (H : Hp) (d : SV) (v : V) : Prop :=
  (d.isOwn = true ∧ ∃ a, v = .ref a ∧ OwnAt K Z H a d ∧ h a = none ∧ ¬ Z a ∧ HY a = none) ∨ (d.plain = true ∧ Rep K Z H d v)
/-- the program's exceptions, by their names -/
def xNames : List Str := ["SlopeError", "Absent", "BadCount", "BadRow", "BadState", "BadSums", "BadSlope", "BadTimes", "BadName", "Taken", "Full", "InUse", "Derived", "Whirling", "Stuck", "Wandering", "Broken", "BadText", "NoLevel", "NoRoom", "NoDoor", "NoBeginning", "NoMachine", "Nothing"]
/-- a class of the text -/
def hdB (K : PySem.W.Frag) (d : Str) : Bool := He.eqO (PySem.W.nsIn K mainGlobals d) (some (some (.ref (He.ga K d))))
/-- what is read of an exception's class: except clauses, isinstance, fields -/
structure XcF (K : PySem.W.Frag) (C : Addr) (n : Str) : Prop where
  ex : ∀ d ∈ xNames, hdB K d = true → PySem.W.exmOne K (.ref C) (.ref (He.ga K d)) = some (subX n d)
  kt : ∀ d ∈ xNames, hdB K d = true → PySem.W.kitOne K (.ref C) (.ref (He.ga K d)) = some (subX n d)
  kb : ∀ d ∈ ["ValueError", "LookupError"], PySem.W.kitOne K (.ref C) (.type d) = some (subX n (Str.ofString d))
  xf : XfC K C
  na : ∀ f ∈ (["called", "at", "row"] : List Str), PySem.W.findIn K (.ref C) f = some none
  cl : (PySem.W.clsIn K C).isSome = true
  ha : PySem.W.findIn K (.ref C) "__class__" = some (some (.builtin "object.__class__"))
  hn : PySem.W.specialIn K (.builtin "object.__class__") "__get__" = some (some (.builtin "getset_descriptor.__get__"))
  ht : PySem.W.takesIn K (.builtin "object.__class__") = some true
  hm : PySem.W.mroIn K C (.type "object") = some true
def xcfB (K : PySem.W.Frag) (C : Addr) (n : Str) : Bool := (xNames.all fun d => !(hdB K d) || (decide (PySem.W.exmOne K (.ref C) (.ref (He.ga K d)) = some (subX n d)) && decide (PySem.W.kitOne K (.ref C) (.ref (He.ga K d)) = some (subX n d)))) &&
  ((["ValueError", "LookupError"].all fun d => decide (PySem.W.kitOne K (.ref C) (.type d) = some (subX n (Str.ofString d)))) && (xfB K C && (((["called", "at", "row"] : List Str).all fun f => He.eqO (PySem.W.findIn K (.ref C) f) (some none)) &&
    ((PySem.W.clsIn K C).isSome && (He.eqO (PySem.W.findIn K (.ref C) "__class__") (some (some (.builtin "object.__class__"))) && (He.eqO (PySem.W.specialIn K (.builtin "object.__class__") "__get__") (some (some (.builtin "getset_descriptor.__get__"))) &&
      (decide (PySem.W.takesIn K (.builtin "object.__class__") = some true) && decide (PySem.W.mroIn K C (.type "object") = some true))))))))
theorem xcfB_ok {K : PySem.W.Frag} {C : Addr} {n : Str} (h : xcfB K C n = true) : XcF K C n := by
  have sp : ∀ {a b : Bool}, (a && b) = true → a = true ∧ b = true := fun h => Bool.and_eq_true_iff.mp h
  obtain ⟨h1, h⟩ := sp h
  obtain ⟨h2, h⟩ := sp h
  obtain ⟨h3, h⟩ := sp h
  obtain ⟨h4, h⟩ := sp h
  obtain ⟨h5, h⟩ := sp h
  obtain ⟨h6, h⟩ := sp h
  obtain ⟨h7, h⟩ := sp h
  obtain ⟨h8, h9⟩ := sp h
  have two : ∀ d ∈ xNames, hdB K d = true → PySem.W.exmOne K (.ref C) (.ref (He.ga K d)) = some (subX n d) ∧ PySem.W.kitOne K (.ref C) (.ref (He.ga K d)) = some (subX n d) := fun d hd hb => by
    have q := List.all_eq_true.mp h1 d hd
    rw [hb] at q
    obtain ⟨q1, q2⟩ := sp q
    exact ⟨of_decide_eq_true q1, of_decide_eq_true q2⟩
  exact ⟨fun d hd hb => (two d hd hb).1, fun d hd hb => (two d hd hb).2, fun d hd => of_decide_eq_true (List.all_eq_true.mp h2 d hd), xfB_ok h3, fun f hf => He.eqO_ok (List.all_eq_true.mp h4 f hf), h5, He.eqO_ok h6, He.eqO_ok h7, of_decide_eq_true h8, of_decide_eq_true h9⟩
/-- an exception: its class's place, its fields -/
structure XRep (K : PySem.W.Frag) (ca : Str → Addr) (Z : ZS) (H : Hp) (x : SX) (c : Value) (d : Option Addr) : Prop where
  cls : c = .ref (ca x.cls)
  ok : XcF K (ca x.cls) x.cls
  fs : ∃ e us, d = some e ∧ H e = some (.xd us) ∧ us.map (·.1) = x.fs.map (·.1) ∧ Reps K Z H (x.fs.map (·.2)) (us.map (·.2))
/-- a promise over the layer's heap -/
def liftSp (K : PySem.W.Frag) (ca : Str → Addr) (sp : SSp) : Sp := fun vs H Q E => ∃ ds h Z R X, HRel K Z h H ∧ Reps K Z H ds vs ∧ sp ds h R X ∧
  (∀ d h' v H' Z', R d h' → HRel K Z' h' H' → Fr (fun _ => False) h H Z h' H' Z' → RetRep K H h' Z' H' d v → Q v H') ∧
  (∀ x h' c e H' Z', X x h' → HRel K Z' h' H' → Fr (fun _ => False) h H Z h' H' Z' → XRep K ca Z' H' x c e → E c e H')
end SL
/-! S5: each form of expression keeps its reading. -/
namespace SL
open PySem PySem.Spec L2

def tE (K : PySem.W.Frag) (Y : Ey) (G : Gm) (s : SE) : TE := fun σ H Q => ∃ δ h Z R, Rel K Y Z δ h σ H ∧ wpE G s δ h R ∧
  ∀ r δ' h' v H' Z', R r δ' h' → Aft K Y σ δ h H Z δ' h' H' Z' → RRep K Y σ H δ' h' Z' H' r v → Q v H'
def tOpL (K : PySem.W.Frag) (Y : Ey) (G : Gm) (es : List SE) : TA := fun σ H Q => ∃ δ h Z R, Rel K Y Z δ h σ H ∧ wpOp G es δ h R ∧
  ∀ rs δ' h' vs H' Z', R rs δ' h' → Aft K Y σ δ h H Z δ' h' H' Z' → Paired (PRep K σ Z' H') rs vs → Q vs H'
def tStL (K : PySem.W.Frag) (Y : Ey) (G : Gm) (es : List SE) : TA := fun σ H Q => ∃ δ h Z R, Rel K Y Z δ h σ H ∧ wpSt G es δ h R ∧
  ∀ rs δ' h' vs H' Z', R rs δ' h' → Aft K Y σ δ h H Z δ' h' H' Z' → Reps K Z' H' rs vs → Q vs H'
def tArL (K : PySem.W.Frag) (Y : Ey) (G : Gm) (es : List SE) : TA := fun σ H Q => ∃ δ h Z R, Rel K Y Z δ h σ H ∧ wpAr G es δ h R ∧
  ∀ rs bs δ' h' vs H' Z', R rs bs δ' h' → Aft K Y σ δ h H Z δ' h' H' Z' → Reps K Z' H' rs vs → (∀ b ∈ bs, BoxOk Y σ δ δ'.length b) → Q vs H'
def tOO (K : PySem.W.Frag) (Y : Ey) (G : Gm) (e : Option SE) : TO := fun σ H Q => ∃ δ h Z R, Rel K Y Z δ h σ H ∧ wpO G e δ h R ∧
  ∀ o δ' h' H' Z', R o δ' h' → Aft K Y σ δ h H Z δ' h' H' Z' → Q o H'
theorem PE.imp {X : Cx} {e : Expr} {t t' : TE} (p : PE X e t) (f : ∀ σ H Q, t' σ H Q → t σ H Q) : PE X e t' := ⟨fun pins s σ H Q I h => p.run pins s σ H Q I (f σ H Q h)⟩
theorem PT.imp {X : Cx} {e : Expr} {t t' : TT} (p : PT X e t) (f : ∀ σ H Q, t' σ H Q → t σ H Q) : PT X e t' := ⟨fun pins s σ H Q I h => p.run pins s σ H Q I (f σ H Q h)⟩
theorem PA.imp {X : Cx} {e : List Expr} {t t' : TA} (p : PA X e t) (f : ∀ σ H Q, t' σ H Q → t σ H Q) : PA X e t' := ⟨fun pos pins s σ H Q I h => p.run pos pins s σ H Q I (f σ H Q h)⟩
theorem PO.imp {X : Cx} {e : Option Expr} {t t' : TO} (p : PO X e t) (f : ∀ σ H Q, t' σ H Q → t σ H Q) : PO X e t' := ⟨fun pins s σ H Q I h => p.run pins s σ H Q I (f σ H Q h)⟩
abbrev tT (t : TE) : TT := fun σ H Q => t σ H fun x H1 => ∃ c, x = .bl c ∧ Q c H1

section
variable {K : PySem.W.Frag} {Y : Ey} {σ : L2.St} {δ δ1 δ2 : SSt} {h h1 h2 : SHp} {H H1 H2 : Hp} {Z Z1 Z2 : ZS}
theorem RRep.bl {Hs : Hp} {b : Bool} {v : V} (q : RRep K Y σ Hs δ h Z H (.bl b) v) : v = .bl b := by
  rcases q with ⟨o, _⟩ | ⟨i, e, _⟩ | ⟨_, q⟩
  · cases o
  · cases e
  · simpa only [Rep] using q
theorem RRep.int {Hs : Hp} {b : Int} {v : V} (q : RRep K Y σ Hs δ h Z H (.int b) v) : v = .int b := by
  rcases q with ⟨o, _⟩ | ⟨i, e, _⟩ | ⟨_, q⟩
  · cases o
  · cases e
  · simpa only [Rep] using q
theorem PRep.int {b : Int} {v : V} (q : PRep K σ Z H (.int b) v) : v = .int b := by
  rcases q with ⟨i, e, _⟩ | ⟨_, _, e, _⟩ | ⟨_, q⟩
  · cases e
  · cases e
  · simpa only [Rep] using q
theorem PRep.bl {b : Bool} {v : V} (q : PRep K σ Z H (.bl b) v) : v = .bl b := by
  rcases q with ⟨i, e, _⟩ | ⟨_, _, e, _⟩ | ⟨_, q⟩
  · cases e
  · cases e
  · simpa only [Rep] using q
theorem PRep.str {b : Str} {v : V} (q : PRep K σ Z H (.str b) v) : v = .str b := by
  rcases q with ⟨i, e, _⟩ | ⟨_, _, e, _⟩ | ⟨_, q⟩
  · cases e
  · cases e
  · simpa only [Rep] using q
theorem PRep.non {v : V} (q : PRep K σ Z H .non v) : v = .non := by
  rcases q with ⟨i, e, _⟩ | ⟨_, _, e, _⟩ | ⟨_, q⟩
  · cases e
  · cases e
  · simpa only [Rep] using q
theorem paired_keeps {rs : List SV} {vs : List V} (k : Keeps Z H Z1 H1) (p : Paired (PRep K σ Z H) rs vs) : Paired (PRep K σ Z1 H1) rs vs := Paired.mapP p fun _ _ q => q.keeps k
/-- a new object: a tuple -/
theorem keeps_upd {a : Addr} {o : HO} (n : H a = none) : Keeps Z H Z (upd H a o) :=
  ⟨fun _ z => z, fun b _ _ e => by rw [upd_ne (ne_of_none e n)]; exact e, fun b _ e => by rw [upd_ne (ne_of_none e n)]; exact e, fun b _ _ e => by rw [upd_ne (ne_of_none e n)]; exact e⟩
theorem HRel.un (R : HRel K Z h H) {a : Addr} (n : H a = none) : h a = none := by
  cases q : h a with
  | none => rfl
  | some c =>
    obtain ⟨o, e, _⟩ := (R.cell a c q).there
    rw [n] at e; cases e
/-- an untracked new object is laid -/
theorem Rel.new (R : Rel K Y Z δ h σ H) {a : Addr} {o : HO} (n : H a = none) : Rel K Y Z δ h σ (upd H a o) := by
  have k : Keeps Z H Z (upd H a o) := keeps_upd n
  have up : ∀ b u, H b = some u → upd H a o b = some u := fun b u e => by rw [upd_ne (ne_of_none e n)]; exact e
  refine ⟨⟨fun p c e => ?_, R.hr.frz, fun b z q => ?_⟩, ⟨⟨fun b u e x f => up b u (R.ent.keep b u e x f), R.ent.untr, fun b e => ?_, R.ent.zmono, R.ent.znew⟩, R.ent.anc.trans k⟩, R.len, fun i d e => ?_, R.dist⟩
  · have cr := R.hr.cell p c e
    obtain ⟨u, eu, _⟩ := cr.there
    exact cr.keeps k ((up p u eu).trans eu.symm)
  · cases q2 : H b with
    | none => exact R.hr.zin b z q2
    | some u => rw [up b u q2] at q; cases q
  · intro z
    have := R.ent.track b e
    cases q : H b with
    | none => exact this q
    | some u => rw [up b u q] at z; cases z
  · obtain ⟨v, ev, r⟩ := R.slot i d e
    refine ⟨v, ev, ?_⟩
    rcases r with ⟨o', b, eb, oa, q⟩ | ⟨o', r⟩
    · obtain ⟨u, eu, _⟩ := oa.there
      exact .inl ⟨o', b, eb, oa.keeps k ((up b u eu).trans eu.symm), q⟩
    · exact .inr ⟨o', r.keeps k⟩
theorem Rel.aft_new (R : Rel K Y Z δ h σ H) {a : Addr} {o : HO} (n : H a = none) : Aft K Y σ δ h H Z δ h (upd H a o) Z :=
  ⟨R.new n, ⟨fun b u e _ _ => by rw [upd_ne (ne_of_none e n)]; exact e, fun _ _ e _ => e, fun b e z => (by
    cases q : H b with
    | none => exact e q
    | some u => rw [upd_ne (ne_of_none q n), q] at z; cases z), fun _ z => z, fun _ z => .inl z⟩, fun _ o => o⟩
/-- no owned place, no frozen one, none of the entry is a new place (given: frozen and entry's places are tracked) -/
theorem Rel.fresh (R : Rel K Y Z δ h σ H) {a : Addr} (n : H a = none) : Y.H a = none ∧ ¬ Owns δ σ a := by
  refine ⟨?_, fun o => ?_⟩
  · cases q : Y.H a with
    | none => rfl
    | some u => exact absurd n (R.ent.track a (by rw [q]; exact Option.some_ne_none _))
  · obtain ⟨i, d, _, _, oa, _⟩ := R.own o
    obtain ⟨u, eu, _⟩ := oa.there
    rw [n] at eu; cases eu
mutual
theorem Rep.dp : ∀ {x : SV} {d : PyData} {v : V}, x.pd = some d → Rep K Z H x v → Dp K H v d
  | .non, _, _, e, q => by simp only [SV.pd] at e; cases e; simp only [Rep] at q; subst q; exact .non
  | .bl b, _, _, e, q => by simp only [SV.pd] at e; cases e; simp only [Rep] at q; subst q; exact .bl b
  | .int b, _, _, e, q => by simp only [SV.pd] at e; cases e; simp only [Rep] at q; subst q; exact .int b
  | .str b, _, _, e, q => by simp only [SV.pd] at e; cases e; simp only [Rep] at q; subst q; exact .str b
  | .tup xs, d, _, e, q => by
    obtain ⟨a, vs, ev, s, r⟩ := (by simpa only [Rep] using q : ∃ a vs, _ ∧ _ ∧ _)
    simp only [SV.pd] at e
    cases p : pds xs with
    | none => rw [p] at e; cases e
    | some ds => rw [p] at e; cases e; subst ev; exact .tup s (Reps.dp p r)
  | .frz xs, d, _, e, q => by
    obtain ⟨a, vs, ev, s, r⟩ := (by simpa only [Rep] using q : ∃ a vs, _ ∧ _ ∧ _)
    simp only [SV.pd] at e
    cases p : pds xs with
    | none => rw [p] at e; cases e
    | some ds => rw [p] at e; cases e; subst ev; exact .lst (.inl (.inl s.1)) (Reps.dp p r)
  | .lkd xs, d, _, e, q => by
    obtain ⟨a, vs, ev, s, r⟩ := (by simpa only [Rep] using q : ∃ a vs, _ ∧ _ ∧ _)
    simp only [SV.pd] at e
    cases p : pds xs with
    | none => rw [p] at e; cases e
    | some ds => rw [p] at e; cases e; subst ev; exact .lst s.sq (Reps.dp p r)
  | .own _, _, _, e, _ => by simp only [SV.pd] at e; cases e
  | .ownD _, _, _, e, _ => by simp only [SV.pd] at e; cases e
  | .ref _, _, _, e, _ => by simp only [SV.pd] at e; cases e
  | .loc _, _, _, e, _ => by simp only [SV.pd] at e; cases e
  | .ty _, _, _, e, _ => by simp only [SV.pd] at e; cases e
theorem Reps.dp : ∀ {xs : List SV} {ds : List PyData} {vs : List V}, pds xs = some ds → Reps K Z H xs vs → DpAll K H vs ds
  | [], _, _, e, q => by simp only [pds] at e; cases e; rw [q.nil_inv]; exact .nil
  | x :: xs, _, _, e, q => by
    obtain ⟨v, r, ev, h1, h2⟩ := q.cons_inv
    simp only [pds] at e
    cases p : x.pd with
    | none => rw [p] at e; cases e
    | some d =>
      rw [p] at e
      cases p2 : pds xs with
      | none => rw [p2] at e; cases e
      | some ds => rw [p2] at e; cases e; subst ev; exact .cons (Rep.dp p h1) (Reps.dp p2 h2)
end
theorem pdV_ok (R : Rel K Y Z δ h σ H) {x : SV} {v : V} {d : PyData} (q : PRep K σ Z H x v) (e : pdV δ h x = some d) : Dp K H v d := by
  unfold pdV at e
  cases p : view δ h x with
  | none =>
    rw [p] at e
    rcases q with ⟨i, rfl, _⟩ | ⟨_, _, rfl, _⟩ | ⟨_, q⟩
    · simp only [SV.pd] at e; cases e
    · simp only [SV.pd] at e; cases e
    · exact q.dp e
  | some bx =>
    obtain ⟨b, xs⟩ := bx
    rw [p] at e
    obtain ⟨a, vs, ev, r, z⟩ := view_ok R q p
    subst ev
    cases b with
    | true =>
      obtain ⟨ds, p2, e2⟩ := Option.map_eq_some_iff.mp e
      subst e2
      rcases z with ⟨_, z⟩ | ⟨z, _⟩
      · exact .tup z (r.dp p2)
      · cases z
    | false =>
      obtain ⟨ds, p2, e2⟩ := Option.map_eq_some_iff.mp e
      subst e2
      rcases z with ⟨z, _⟩ | ⟨_, z, _⟩
      · cases z
      · exact .lst z (r.dp p2)
/-- a new list is owned -/
theorem Aft.own_new (A : Aft K Y σ δ h H Z δ1 h1 H1 Z1) {xs : List SV} {vs : List V} (r : Reps K Z1 H1 xs vs) {p : Addr} (n : H1 p = none) :
    Aft K Y σ δ h H Z δ1 h1 (upd H1 p (.lst vs)) Z1 ∧ RRep K Y σ H δ1 h1 Z1 (upd H1 p (.lst vs)) (.own xs) (.ref p) := by
  have B := A.rel.aft_new (o := .lst vs) n
  refine ⟨A.trans B, .inl ⟨rfl, p, rfl, ⟨vs, upd_same, r.keeps (keeps_upd n)⟩, A.rel.hr.un n, fun z => A.rel.hr.zin p z n, (A.rel.fresh n).1, (A.rel.fresh n).2, ?_⟩⟩
  cases q : H p with
  | none => rfl
  | some u => exact absurd n (A.fr.track p (by rw [q]; exact Option.some_ne_none _))
theorem Aft.tup_new (A : Aft K Y σ δ h H Z δ1 h1 H1 Z1) {xs : List SV} {vs : List V} (r : Reps K Z1 H1 xs vs) {p : Addr} (n : H1 p = none) :
    Aft K Y σ δ h H Z δ1 h1 (upd H1 p (.tup vs)) Z1 ∧ RRep K Y σ H δ1 h1 Z1 (upd H1 p (.tup vs)) (.tup xs) (.ref p) := by
  refine ⟨A.trans (A.rel.aft_new n), .of ?_⟩
  simp only [Rep]
  exact ⟨p, vs, rfl, .inl (.inl upd_same), r.keeps (keeps_upd n)⟩
end
end SL
/-! S5t: a tuple once, or not at all; in a tuple. -/
namespace SL
open PySem PySem.Spec PyProof.Rows L2
open AutoSeq1 (wpAny_loadPart')
/-- once: the very tuple -/
theorem mulOnce (l : Addr) (items : Array Value) (n : Nat) (dd : Option Addr) (sl : Array (Option Value)) (u : Tok) :
    Meets (Builtin.«tuple.__mul__» ⟨[.ref l, .int 1 u], []⟩) (fun _ R s => s.heap.get? l = some { cls := .type "tuple", dict := dd, data := .seq items n, slots := sl } ∧ R (.ok (.ret (Value.ref l))) s) := by
  refine .of_wp fun prog w A R s h => ?_
  obtain ⟨hp, gn, dr, tk, os⟩ := s
  obtain ⟨hl, h⟩ := h
  have f1 := AutoSeq1.idx_int
  wp_walk using wpAny_loadPart' hl
  exact ⟨_, rfl, h⟩
/-- never: an empty one -/
theorem mulNone (l : Addr) (items : Array Value) (n : Nat) (dd : Option Addr) (sl : Array (Option Value)) (x : Int) (u : Tok) (c0 : (decide (x < -(2 ^ 63)) || decide (x ≥ 2 ^ 63)) = false) (c1 : (items.isEmpty || x == 1) = false) (c2 : (decide (x ≤ 0) || items.isEmpty) = true) :
    Meets (Builtin.«tuple.__mul__» ⟨[.ref l, .int x u], []⟩) (fun _ R s => s.heap.get? l = some { cls := .type "tuple", dict := dd, data := .seq items n, slots := sl } ∧ R (.ok (.ret (Value.ref s.heap.objs.size))) { s with heap := s.heap.push { cls := Value.type "tuple", data := Data.seq #[] }, toks := s.toks }) := by
  refine .of_wp fun prog w A R s h => ?_
  obtain ⟨hp, gn, dr, tk, os⟩ := s
  obtain ⟨hl, h⟩ := h
  have f1 := AutoSeq1.idx_int
  wp_walk using wpAny_loadPart' hl
  repeat (first
    | (refine wpAny_ite_false (decide_eq_false (Bool.eq_false_iff.mp c0)) ?_; wp_walk using wpAny_loadPart' hl)
    | (refine wpAny_ite_false (decide_eq_false (Bool.eq_false_iff.mp c1)) ?_; wp_walk using wpAny_loadPart' hl)
    | (refine wpAny_ite_true (decide_eq_true c2) ?_; wp_walk using wpAny_loadPart' hl))
  exact ⟨_, rfl, h⟩
/-- empty: the very tuple -/
theorem mulEmpty (l : Addr) (n : Nat) (dd : Option Addr) (sl : Array (Option Value)) (x : Int) (u : Tok) (c0 : (decide (x < -(2 ^ 63)) || decide (x ≥ 2 ^ 63)) = false) :
    Meets (Builtin.«tuple.__mul__» ⟨[.ref l, .int x u], []⟩) (fun _ R s => s.heap.get? l = some { cls := .type "tuple", dict := dd, data := .seq #[] n, slots := sl } ∧ R (.ok (.ret (Value.ref l))) s) := by
  refine .of_wp fun prog w A R s h => ?_
  obtain ⟨hp, gn, dr, tk, os⟩ := s
  obtain ⟨hl, h⟩ := h
  have f1 := AutoSeq1.idx_int
  wp_walk using wpAny_loadPart' hl
  repeat (refine wpAny_ite_false (decide_eq_false (Bool.eq_false_iff.mp c0)) ?_; wp_walk using wpAny_loadPart' hl)
  exact ⟨_, rfl, h⟩
section
variable {X : Cx}
/-- tuple * number, whatever the number -/
def rTimes (K : PySem.W.Frag) : R2 := fun x y H Q => ∃ l k xs, x = .ref l ∧ y = .int k ∧ SqT K H l xs ∧ -(2 ^ 63) ≤ k ∧ k ≤ 1000 ∧ xs.length ≤ 1000 ∧ ((xs = [] ∨ k = 1) → Q (.ref l) H) ∧ (xs ≠ [] → k ≠ 1 → ∀ p, H p = none → Q (.ref p) (upd H p (.tup (List.replicate k.toNat xs).flatten)))
theorem op_times : OpR X (binaryOp .Mult) (rTimes X.K) := by
  intro pins s σ H x y v u Q I rx ry h
  obtain ⟨l, k, xs, rfl, rfl, hT, k1, k2, kl, q1, q2⟩ := h
  by_cases big : xs ≠ [] ∧ 2 ≤ k
  · exact op_repT pins s σ H _ _ v u Q I rx ry ⟨l, k, xs, rfl, rfl, hT, big.1, big.2, k2, kl, q2 big.1 (by omega)⟩
  · cases rx
    obtain ⟨t, rfl⟩ := ry
    obtain ⟨its, r, ⟨⟨cls, dd, data, sl⟩, ho, hc, n, hd⟩, hs⟩ := I.tuple hT
    simp only at hc hd
    subst hc hd
    have le := r.length
    have c0 : (decide (k < -(2 ^ 63)) || decide (k ≥ 2 ^ 63)) = false := by
      rw [decide_eq_false (by omega), decide_eq_false (by omega)]; rfl
    have go : ∀ {Q' : Result → Shared → Prop}, codeAny (model X.prog X.w) X.A.in1 (.call (.builtin "tuple.__mul__") ⟨[.ref l, .int k t], []⟩) Q' s → True := fun _ => trivial
    refine wpAny_binaryOp_repeat_ref (T := "tuple") (U := "int") (by decide) ⟨_, ho, rfl⟩ (fun s' => typeIs_int s' k t) noFill_tuple_mul F.fills_int_mul F.slot_int_rmul repeat_tuple F.slot_int_index.lookup
      (call_meets F.slot_int_rmul (typeIs_int s k t) F.entry_int_rmul (F.args_int_rmul_2 _ _) (int_rmul_tuple k t l its.toArray n dd sl) ⟨ho, rfl, ⟨_, ho, rfl⟩, ?_⟩)
    by_cases e0 : xs = []
    · subst e0
      have ei : its = [] := List.eq_nil_of_length_eq_zero le.symm
      subst ei
      exact call_meets F.slot_tuple_mul ⟨_, ho, rfl⟩ F.entry_tuple_mul (F.args_tuple_mul_2 _ _) (mulEmpty l n dd sl k t c0) ⟨ho, ⟨.ref l, H, I, rfl, q1 (.inl rfl)⟩⟩
    · have hi : its.toArray.isEmpty = false := by
        cases its with
        | nil => exact absurd (List.eq_nil_of_length_eq_zero le) e0
        | cons a b => rfl
      by_cases e1 : k = 1
      · subst e1
        exact call_meets F.slot_tuple_mul ⟨_, ho, rfl⟩ F.entry_tuple_mul (F.args_tuple_mul_2 _ _) (mulOnce l its.toArray n dd sl t) ⟨ho, ⟨.ref l, H, I, rfl, q1 (.inr rfl)⟩⟩
      · have kz : k ≤ 0 := by
          have : ¬ 2 ≤ k := fun z => big ⟨e0, z⟩
          omega
        have c1 : (its.toArray.isEmpty || k == 1) = false := by rw [hi, Bool.false_or]; exact beq_eq_false_iff_ne.mpr e1
        have c2 : (decide (k ≤ 0) || its.toArray.isEmpty) = true := by rw [decide_eq_true kz]; rfl
        refine call_meets F.slot_tuple_mul ⟨_, ho, rfl⟩ F.entry_tuple_mul (F.args_tuple_mul_2 _ _) (mulNone l its.toArray n dd sl k t c0 c1 c2) ⟨ho, ?_⟩
        have ez : k.toNat = 0 := by omega
        have q3 := q2 e0 e1
        rw [ez] at q3
        exact ⟨.ref s.heap.objs.size, _, I.laid (t' := s.toks) (o := .tup []) (fun b ob q => Heap.get?_push_of_some _ q) (Nat.le_refl _) ⟨by show 0 ≤ sizeLine; decide, [], .nil, IsTup.new _ _⟩, rfl, q3 _ (I.hok.fresh (Nat.le_refl _))⟩
/-- in a list, in a tuple -/
def rIn2 (K : PySem.W.Frag) (neg : Bool) : R2 := fun x y H Q => ∃ d ds b, Dp K H x d ∧ Dp K H y (dSeq ds b) ∧ SeqAt.shaped d = true ∧ SeqAt.shaped (.list ds) = true ∧ Q (.bl (neg != ds.any fun z => PyData.eqv z d)) H
theorem shaped_seq {ds : List PyData} (h : SeqAt.shaped (.list ds) = true) : PyData.canLayAll0 ds = true := SeqAt.canLay_of_shaped h
theorem op_in2 (hu : X.A.units + 65 < cLine) : OpR X (compareOp .In) (rIn2 X.K false) := by
  intro pins s σ H x y v u Q I rx ry h
  obtain ⟨d, ds, b, hd, he, sd, se, q⟩ := h
  obtain ⟨as, r1⟩ := Dp.reads I d x v hd rx
  obtain ⟨bs, r2⟩ := Dp.reads I (dSeq ds b) y u he ry
  rw [Bool.false_bne] at q
  cases b with
  | true => exact SeqAt.in_tuple_reads r2 r1 (shaped_seq se) (SeqAt.canLay_of_shaped sd) (room_in_shaped sd hu) ⟨.bl _, H, I, rfl, q⟩
  | false => exact SeqAt.in_list_reads r2 r1 (shaped_seq se) (SeqAt.canLay_of_shaped sd) (room_in_shaped sd hu) ⟨.bl _, H, I, rfl, q⟩
theorem op_notIn2 (hu : X.A.units + 65 < cLine) : OpR X (compareOp .NotIn) (rIn2 X.K true) := by
  intro pins s σ H x y v u Q I rx ry h
  obtain ⟨d, ds, b, hd, he, sd, se, q⟩ := h
  obtain ⟨as, r1⟩ := Dp.reads I d x v hd rx
  obtain ⟨bs, r2⟩ := Dp.reads I (dSeq ds b) y u he ry
  rw [Bool.true_bne] at q
  cases b with
  | true => exact SeqAt.notIn_tuple_reads r2 r1 (shaped_seq se) (SeqAt.canLay_of_shaped sd) (room_in_shaped sd hu) ⟨.bl _, H, I, rfl, q⟩
  | false => exact SeqAt.notIn_list_reads r2 r1 (shaped_seq se) (SeqAt.canLay_of_shaped sd) (room_in_shaped sd hu) ⟨.bl _, H, I, rfl, q⟩
end
end SL
/-! S6: the forms. -/
namespace SL
open PySem PySem.Spec L2

def notStar : Expr → Bool
  | .Starred _ _ => false
  | _ => true
theorem star_cons {e : Expr} {es : List Expr} {env : Env} (h : notStar e = true) : starEach (e :: es) env = (false, eval e env) :: starEach es env := by
  cases e <;> first | rfl | cases h
theorem star_nil {env : Env} : starEach [] env = [] := rfl
theorem back_any {pos : Pos} {env : Env} : ∀ {es : List Expr}, es.all notStar = true → (backTo pos (starEach es env)).any (·.1) = false
  | [], _ => rfl
  | e :: es, h => by
    rw [List.all_cons, Bool.and_eq_true] at h
    rw [star_cons h.1]
    show ((false : Bool) || (backTo pos (starEach es env)).any (·.1)) = false
    rw [back_any h.2, Bool.or_false]
/-- the test of an expression is its value's truth -/
def plainTest : Expr → Bool
  | .UnaryOp .Not _ _ => false
  | .BoolOp _ _ _ => false
  | .IfExp _ _ _ _ => false
  | .Compare _ _ _ _ => false
  | _ => true
theorem test_plain {e : Expr} {env : Env} (h : plainTest e = true) (whole : Sem Value) : isTrue e env whole = (do let v ← whole; standAt e.pos; holding [v] (truthy v)) := by
  cases e with
  | UnaryOp op x p => cases op <;> first | rfl | cases h
  | BoolOp => cases h
  | IfExp => cases h
  | Compare => cases h
  | _ => rfl

section
variable {X : Cx} {Y : Ey} {G : Gm} {e a b c : Expr} {s sa sb sc : SE} {pos : Pos}
theorem pt_of (h : PE X e (tE X.K Y G s)) (hp : plainTest e = true) : PT X e (tT (tE X.K Y G s)) := pt_val h (test_plain hp)

theorem se_int {i : Int} {j : Nat} : PE X (.Constant (.int i) j pos) (tE X.K Y G (.cst (.int i))) := PE.imp pe_int fun σ H Q ⟨δ, h, Z, R, rel, w, f⟩ => f _ _ _ _ _ _ w (.refl rel) (.of (by simp only [Rep]))
theorem se_bl {i : Bool} {j : Nat} : PE X (.Constant (.bool i) j pos) (tE X.K Y G (.cst (.bl i))) := PE.imp pe_bl fun σ H Q ⟨δ, h, Z, R, rel, w, f⟩ => f _ _ _ _ _ _ w (.refl rel) (.of (by simp only [Rep]))
theorem se_str {i : Str} {j : Nat} : PE X (.Constant (.str i) j pos) (tE X.K Y G (.cst (.str i))) := PE.imp pe_str fun σ H Q ⟨δ, h, Z, R, rel, w, f⟩ => f _ _ _ _ _ _ w (.refl rel) (.of (by simp only [Rep]))
theorem se_non {j : Nat} : PE X (.Constant .none j pos) (tE X.K Y G (.cst .non)) := PE.imp pe_non fun σ H Q ⟨δ, h, Z, R, rel, w, f⟩ => f _ _ _ _ _ _ w (.refl rel) (.of (by simp only [Rep]))
theorem se_var {i : Nat} {x : Str} (hN : X.N[i]? = some x) (hv : Vis X.env.scope x) (hd : (x == ("__debug__" : Str)) = false) (hcd : (x == ("__classdict__" : Str)) = false) : PE X (.Name x pos) (tE X.K Y G (.var i)) := by
  refine PE.imp (pe_var hN hv hd hcd) fun σ H Q ⟨δ, h, Z, R, rel, w, f⟩ => ?_
  simp only [wpE] at w
  cases d : δ[i]? with
  | none => rw [d] at w; exact w.elim
  | some o =>
    cases o with
    | none => rw [d] at w; exact w.elim
    | some x =>
      rw [d] at w
      dsimp only at w
      obtain ⟨v, ev, r⟩ := rel.slot i x d
      refine ⟨v, ev, ?_⟩
      rcases r with ⟨o, r⟩ | ⟨o, r⟩
      · rw [o] at w
        exact f _ _ _ _ _ _ w (.refl rel) (.inr (.inl ⟨i, rfl, ev⟩))
      · rw [o] at w
        exact f _ _ _ _ _ _ w (.refl rel) (.of r)
theorem se_neg (ha : PE X a (tE X.K Y G sa)) : PE X (.UnaryOp .USub a pos) (tE X.K Y G (.neg sa)) := by
  refine PE.imp (pe_un un_neg ha) fun σ H Q ⟨δ, h, Z, R, rel, w, f⟩ => ?_
  simp only [wpE] at w
  refine ⟨δ, h, Z, _, rel, w, fun r δ1 h1 v H1 Z1 ⟨i, er, q⟩ A rr => ?_⟩
  subst er
  rw [rr.int]
  exact ⟨i, rfl, f _ _ _ _ _ _ q A (.of (by simp only [Rep]))⟩
theorem se_not (ha : PE X a (tE X.K Y G sa)) : PE X (.UnaryOp .Not a pos) (tE X.K Y G (.not sa)) := by
  refine PE.imp (pe_not ha) fun σ H Q ⟨δ, h, Z, R, rel, w, f⟩ => ?_
  simp only [wpE] at w
  refine ⟨δ, h, Z, _, rel, w, fun r δ1 h1 v H1 Z1 ⟨i, er, q⟩ A rr => ?_⟩
  subst er
  rw [rr.bl]
  exact ⟨i, rfl, f _ _ _ _ _ _ q A (.of (by simp only [Rep]))⟩
theorem st_not (ha : PT X a (tT (tE X.K Y G sa))) : PT X (.UnaryOp .Not a pos) (tT (tE X.K Y G (.not sa))) := by
  refine PT.imp (pt_not ha) fun σ H Q ⟨δ, h, Z, R, rel, w, f⟩ => ?_
  simp only [wpE] at w
  refine ⟨δ, h, Z, _, rel, w, fun r δ1 h1 v H1 Z1 ⟨i, er, q⟩ A rr => ?_⟩
  subst er
  refine ⟨i, rr.bl, ?_⟩
  obtain ⟨k, ek, q'⟩ := f _ _ _ _ _ _ q A (.of (by simp only [Rep]) : RRep X.K Y σ H δ1 h1 Z1 H1 (.bl (!i)) (.bl (!i)))
  cases ek
  exact q'

/-! ### two operands -/
/-- two operands, then something of their values -/
theorem two {K : PySem.W.Frag} {σ : L2.St} {H : Hp} {C : SV → SV → SSt → SHp → Prop} {δ : SSt} {h : SHp} {Z : ZS} {Q : V → V → Hp → Prop} (rel : Rel K Y Z δ h σ H) (w : wpE G sa δ h fun r δ1 h1 => wpE G sb δ1 h1 fun s δ2 h2 => C r s δ2 h2)
    (f : ∀ r s δ' h' x y H' Z', C r s δ' h' → Aft K Y σ δ h H Z δ' h' H' Z' → PRep K σ Z' H' r.opd x → PRep K σ Z' H' s.opd y → Q x y H') :
    tE K Y G sa σ H fun x H1 => tE K Y G sb σ H1 fun y H2 => Q x y H2 := by
  refine ⟨δ, h, Z, _, rel, w, fun r δ1 h1 x H1 Z1 w1 A1 r1 => ?_⟩
  obtain ⟨Z1', A1', p1⟩ := A1.opd r1
  refine ⟨δ1, h1, Z1', _, A1'.rel, w1, fun s δ2 h2 y H2 Z2 w2 A2 r2 => ?_⟩
  obtain ⟨Z2', A2', p2⟩ := A2.opd r2
  exact f r s δ2 h2 x y H2 Z2' w2 (A1'.trans A2') (p1.keeps (A2'.keeps A1'.rel)) p2

theorem op_mulI : OpR X (binaryOp .Mult) (rI IntMulOk fun i j => .int (i * j)) := opI fun _ _ _ _ _ _ _ hc q => PyProof.Rows.mul_int q hc
theorem op_fdivI : OpR X (binaryOp .FloorDiv) (rI DivOk fun i j => .int (i / j)) := opI fun i j _ _ _ _ _ hc q => by
  have h1 : (0 : Int) < j := hc.1
  exact PyProof.Rows.floordiv_int (by omega) (by rw [Int.fdiv_eq_ediv_of_nonneg i (by omega)]; exact q) (.inl hc.2)
/-- what the layer has of an operator -/
def rBin (K : PySem.W.Frag) : Operator → R2
  | .Add => fun x y H Q => rI0 (fun i j => .int (i + j)) x y H Q ∨ (fun x y H (Q : VK) => ∃ i j, x = V.str i ∧ y = V.str j ∧ i.length + j.length ≤ sizeLine ∧ Q (.str (i ++ j)) H) x y H Q ∨ rCat x y H Q ∨ rCatA K x y H Q
  | .Sub => rI0 fun i j => .int (i - j)
  | .Mult => fun x y H Q => rI IntMulOk (fun i j => .int (i * j)) x y H Q ∨ rRep x y H Q ∨ rTimes K x y H Q
  | .FloorDiv => rI DivOk fun i j => .int (i / j)
  | .Mod => rI (fun _ j => 0 < j) fun i j => .int (i % j)
  | .Pow => rI CPow fun i j => .int (i ^ j.toNat)
  | .LShift => rI CPow fun i j => .int (i * 2 ^ j.toNat)
  | .BitAnd => rI0 fun i j => .int (Builtin.bitAnd i j)
  | .BitOr => rI0 fun i j => .int (Builtin.bitOr i j)
  | _ => fun _ _ _ _ => False
theorem op_bin (op : Operator) : OpR X (binaryOp op) (rBin X.K op) := by
  cases op with
  | Add => exact op_add.or (op_add_str.or (op_cat.or op_catA))
  | Sub => exact op_sub
  | Mult => exact op_mulI.or (op_rep.or op_times)
  | FloorDiv => exact op_fdivI
  | Mod => exact op_mod
  | Pow => exact op_pow
  | LShift => exact op_shl
  | BitAnd => exact op_and
  | BitOr => exact op_or
  | _ => exact fun _ _ _ _ _ _ _ _ _ _ _ _ h => False.elim h

theorem nolk_ok {δ : SSt} {r : SV} (n : r.nolk δ = true) : (∀ ys, r ≠ .lkd ys) ∧ ∀ i ys, r = .loc i → δ[i]? ≠ some (some (.lkd ys)) := by
  refine ⟨fun ys e => ?_, fun i ys e q => ?_⟩
  · subst e; cases n
  · subst e
    simp only [SV.nolk, q] at n
    cases n
theorem bin_ok {K : PySem.W.Frag} {σ : L2.St} {H H0 : Hp} {δ0 δ : SSt} {h0 h : SHp} {Z0 Z : ZS} {op : Operator} {r s : SV} {x y : V} {C : SV → Prop} {Q : VK} (A : Aft K Y σ δ0 h0 H0 Z0 δ h H Z) (px : PRep K σ Z H r x) (py : PRep K σ Z H s y) (w : binS op r s δ h C)
    (f : ∀ d v H' Z', C d → Aft K Y σ δ0 h0 H0 Z0 δ h H' Z' → RRep K Y σ H0 δ h Z' H' d v → Q v H') : rBin K op x y H Q := by
  unfold binS at w
  split at w
  · rename_i i j
    have e1 := px.int
    have e2 := py.int
    subst e1 e2
    cases op with
    | Add => exact .inl ⟨i, j, rfl, rfl, f _ _ _ _ w A (.of (by simp only [Rep]))⟩
    | Sub => exact ⟨i, j, rfl, rfl, f _ _ _ _ w A (.of (by simp only [Rep]))⟩
    | Mult => exact .inl ⟨i, j, rfl, rfl, w.1, f _ _ _ _ w.2 A (.of (by simp only [Rep]))⟩
    | FloorDiv => exact ⟨i, j, rfl, rfl, w.1, f _ _ _ _ w.2 A (.of (by simp only [Rep]))⟩
    | Mod => exact ⟨i, j, rfl, rfl, w.1, f _ _ _ _ w.2 A (.of (by simp only [Rep]))⟩
    | Pow => exact ⟨i, j, rfl, rfl, w.1, f _ _ _ _ w.2 A (.of (by simp only [Rep]))⟩
    | LShift => exact ⟨i, j, rfl, rfl, w.1, f _ _ _ _ w.2 A (.of (by simp only [Rep]))⟩
    | BitAnd => exact ⟨i, j, rfl, rfl, f _ _ _ _ w A (.of (by simp only [Rep]))⟩
    | BitOr => exact ⟨i, j, rfl, rfl, f _ _ _ _ w A (.of (by simp only [Rep]))⟩
    | _ => exact w.elim
  · rename_i i j
    have e1 := px.str
    have e2 := py.str
    subst e1 e2
    cases op with
    | Add => exact .inr (.inl ⟨i, j, rfl, rfl, w.1, f _ _ _ _ w.2 A (.of (by simp only [Rep]))⟩)
    | _ => exact w.elim
  · rename_i k _
    have e2 := py.int
    subst e2
    cases op with
    | Mult =>
      obtain ⟨b, xs, ev, nl, k1, k2, hz, q⟩ := w
      obtain ⟨a, vs, ex, rr, z⟩ := view_ok A.rel px ev
      subst ex
      cases b with
      | true =>
        rcases z with ⟨_, z⟩ | ⟨z, _⟩
        · obtain ⟨q1, q2, q⟩ := q
          have r2 : Reps K Z H (List.replicate k.toNat xs).flatten (List.replicate k.toNat vs).flatten := by
            generalize k.toNat = n
            induction n with
            | zero => exact .nil
            | succ n ih =>
              rw [List.replicate_succ, List.replicate_succ, List.flatten_cons, List.flatten_cons]
              exact rr.append ih
          refine .inr (.inr ⟨a, k, vs, rfl, rfl, z, k1, q1, by rw [rr.length]; exact q2, fun e => ?_, fun _ _ p n => ?_⟩)
          · have same : (List.replicate k.toNat xs).flatten = xs := by
              rcases e with e | e
              · have ex : xs = [] := List.length_eq_zero_iff.mp (by rw [← rr.length, e]; rfl)
                subst ex
                induction k.toNat with
                | zero => rfl
                | succ n ih => rw [List.replicate_succ, List.flatten_cons, ih]; rfl
              · subst e
                show (List.replicate 1 xs).flatten = xs
                simp
            rw [same] at q
            exact f _ _ _ _ q A (.of (by simp only [Rep]; exact ⟨a, vs, rfl, z, rr⟩))
          · obtain ⟨B, q3⟩ := A.tup_new r2 n
            exact f _ _ _ _ q B q3
        · cases z
      | false =>
        rcases z with ⟨z, _⟩ | ⟨_, _, z⟩
        · cases z
        · have hl := z (nolk_ok nl).1 (nolk_ok nl).2
          have r2 : Reps K Z H (List.replicate k.toNat xs).flatten (List.replicate k.toNat vs).flatten := by
            generalize k.toNat = n
            induction n with
            | zero => exact .nil
            | succ n ih =>
              rw [List.replicate_succ, List.replicate_succ, List.flatten_cons, List.flatten_cons]
              exact rr.append ih
          refine .inr (.inl ⟨a, k, vs, rfl, rfl, hl, k1, k2, by rw [rr.length]; exact hz, fun p n => ?_⟩)
          obtain ⟨B, q2⟩ := A.own_new r2 n
          exact f _ _ _ _ q B q2
    | _ => exact w.elim
  · cases op with
    | Add =>
      obtain ⟨b, xs, ys, ev, ew, nl, nl2, hz, q⟩ := w
      obtain ⟨a, vs, ex, rr, z⟩ := view_ok A.rel px ev
      obtain ⟨a2, vs2, ey, rr2, z2⟩ := view_ok A.rel py ew
      subst ex ey
      cases b with
      | true =>
        rcases z with ⟨_, z⟩ | ⟨z, _⟩
        · rcases z2 with ⟨_, z2⟩ | ⟨z2, _⟩
          · refine .inr (.inr (.inr ⟨a, a2, vs, vs2, rfl, rfl, z, z2, by rw [rr.length, rr2.length]; exact hz, fun e => ?_, fun _ e => ?_, fun _ _ p n => ?_⟩))
            · have ex : xs = [] := List.length_eq_zero_iff.mp (by rw [← rr.length, e]; rfl)
              subst ex
              exact f _ _ _ _ q A (.of (by simp only [Rep, List.nil_append]; exact ⟨a2, vs2, rfl, z2, rr2⟩))
            · have ey : ys = [] := List.length_eq_zero_iff.mp (by rw [← rr2.length, e]; rfl)
              subst ey
              exact f _ _ _ _ q A (.of (by simp only [Rep, List.append_nil]; exact ⟨a, vs, rfl, z, rr⟩))
            · obtain ⟨B, q2⟩ := A.tup_new (rr.append rr2) n
              exact f _ _ _ _ q B q2
          · cases z2
        · cases z
      | false =>
        rcases z with ⟨z, _⟩ | ⟨_, _, z⟩
        · cases z
        · rcases z2 with ⟨z2, _⟩ | ⟨_, _, z2⟩
          · cases z2
          · refine .inr (.inr (.inl ⟨a, a2, vs, vs2, rfl, rfl, z (nolk_ok nl).1 (nolk_ok nl).2, z2 (nolk_ok nl2).1 (nolk_ok nl2).2, by rw [rr.length, rr2.length]; exact hz, fun p n => ?_⟩))
            obtain ⟨B, q2⟩ := A.own_new (rr.append rr2) n
            exact f _ _ _ _ q B q2
    | _ => exact w.elim
theorem se_bin {op : Operator} (ha : PE X a (tE X.K Y G sa)) (hb : PE X b (tE X.K Y G sb)) : PE X (.BinOp a op b pos) (tE X.K Y G (.bin op sa sb)) := by
  refine PE.imp (pe_op (op_bin op) ha hb) fun σ H Q ⟨δ, h, Z, R, rel, w, f⟩ => ?_
  simp only [wpE] at w
  exact two rel w fun r s δ' h' x y H' Z' c A px py => bin_ok A px py c fun d v H2 Z2 q B rr => f _ _ _ _ _ _ q B rr

/-! ### comparisons -/
def rIsB : R2 := fun x y H Q => (y = .non ∧ Q (.bl (decide (x = .non))) H) ∨ ∃ b c, x = .bl b ∧ y = .bl c ∧ Q (.bl (b == c)) H
theorem op_isB : OpR X (compareOp .Is) rIsB := by
  intro pins s σ H x y v u Q I rx ry h
  rcases h with h | ⟨b, c, rfl, rfl, q⟩
  · exact op_isN pins s σ H x y v u Q I rx ry h
  · cases rx
    cases ry
    exact PyProof.Rows.is_bool (fin_bl I q rfl)
def rInDk (neg : Bool) : R2 := fun x y H Q => ∃ a o, y = .ref a ∧ DGet H a x o ∧ Q (.bl (neg != o.isSome)) H
theorem op_inDk (hu : X.A.units + 1 < cLine) : OpR X (compareOp .In) (rInDk false) := by
  intro pins s σ H x y v u Q I rx ry h
  obtain ⟨a, o, rfl, g, q⟩ := h
  obtain rfl : u = Value.ref a := ry
  rw [Bool.false_bne] at q
  exact d_in hu I g rx fun s' I' => ⟨.bl o.isSome, H, I', rfl, q⟩
theorem op_notInDk (hu : X.A.units + 1 < cLine) : OpR X (compareOp .NotIn) (rInDk true) := by
  intro pins s σ H x y v u Q I rx ry h
  obtain ⟨a, o, rfl, g, q⟩ := h
  obtain rfl : u = Value.ref a := ry
  rw [Bool.true_bne] at q
  exact d_notIn hu I g rx fun s' I' => ⟨.bl (!o.isSome), H, I', rfl, q⟩
def rCmp (K : PySem.W.Frag) : CmpOp → R2
  | .Eq => rEqD K
  | .NotEq => rNeD K
  | .Lt => rI0 fun i j => .bl (decide (i < j))
  | .LtE => rI0 fun i j => .bl (decide (i ≤ j))
  | .Gt => rI0 fun i j => .bl (decide (j < i))
  | .GtE => rI0 fun i j => .bl (decide (j ≤ i))
  | .Is => rIsB
  | .IsNot => fun x y H Q => y = .non ∧ Q (.bl (!decide (x = .non))) H
  | .In => fun x y H Q => rIn2 K false x y H Q ∨ rInDk false x y H Q
  | .NotIn => fun x y H Q => rIn2 K true x y H Q ∨ rInDk true x y H Q
theorem op_cmp (hu : X.A.units + 65 < cLine) (op : CmpOp) : OpR X (compareOp op) (rCmp X.K op) := by
  cases op with
  | Eq => exact op_eqD (by omega)
  | NotEq => exact op_neD (by omega)
  | Lt => exact op_lt
  | LtE => exact op_le
  | Gt => exact op_gt
  | GtE => exact op_ge
  | Is => exact op_isB
  | IsNot => exact op_notN
  | In => exact (op_in2 hu).or (op_inDk (by omega))
  | NotIn => exact (op_notIn2 hu).or (op_notInDk (by omega))
theorem isnon_ok {K : PySem.W.Frag} {σ : L2.St} {H : Hp} {Z : ZS} {δ : SSt} {h : SHp} {r : SV} {x : V} {b : Bool} (rel : Rel K Y Z δ h σ H) (px : PRep K σ Z H r x) (nl : noneS δ r = some b) : decide (x = .non) = b := by
  rcases px with ⟨i, rfl, s⟩ | ⟨kvs, a, rfl, rfl⟩ | ⟨p, q⟩
  · simp only [noneS] at nl
    cases e : δ[i]? with
    | none => rw [e] at nl; cases nl
    | some o =>
      cases o with
      | none => rw [e] at nl; cases nl
      | some d =>
        rw [e] at nl
        dsimp only at nl
        cases o : d.isOwn with
        | false => rw [o] at nl; cases nl
        | true =>
          rw [o] at nl
          cases nl
          obtain ⟨a, sa, _⟩ := rel.ownSlot e o
          rw [s] at sa
          cases sa
          rfl
  · cases nl; rfl
  · cases r with
    | non => simp only [Rep] at q; subst q; cases nl; rfl
    | bl b => simp only [Rep] at q; subst q; cases nl; rfl
    | int b => simp only [Rep] at q; subst q; cases nl; rfl
    | str b => simp only [Rep] at q; subst q; cases nl; rfl
    | ty b => simp only [Rep] at q; subst q; cases nl; rfl
    | ref b => simp only [Rep] at q; subst q; cases nl; rfl
    | tup xs => obtain ⟨a, vs, ev, s, r⟩ := (by simpa only [Rep] using q : ∃ a vs, _ ∧ _ ∧ _); subst ev; cases nl; rfl
    | frz xs => obtain ⟨a, vs, ev, s, r⟩ := (by simpa only [Rep] using q : ∃ a vs, _ ∧ _ ∧ _); subst ev; cases nl; rfl
    | lkd xs => obtain ⟨a, vs, ev, s, r⟩ := (by simpa only [Rep] using q : ∃ a vs, _ ∧ _ ∧ _); subst ev; cases nl; rfl
    | _ => cases p
theorem dct_at {K : PySem.W.Frag} {σ : L2.St} {H : Hp} {δ : SSt} {h : SHp} {Z : ZS} {s : SV} {y : V} {kvs : List (Key × SV)} (rel : Rel K Y Z δ h σ H) (p : PRep K σ Z H s y) (e : dctV δ h s = some kvs) :
    ∃ a us, y = .ref a ∧ H a = some (.dK us) ∧ us.map (·.1) = kvs.map (·.1) ∧ Reps K Z H (kvs.map (·.2)) (us.map (·.2)) := by
  cases s with
  | loc i =>
    simp only [dctV] at e
    cases ei : δ[i]? with
    | none => rw [ei] at e; cases e
    | some o =>
      cases o with
      | none => rw [ei] at e; cases e
      | some d =>
        cases d with
        | ownD kk =>
          rw [ei] at e
          cases e
          obtain ⟨pa, sa, ⟨us, h1, h2, h3⟩, _⟩ := rel.ownSlot ei rfl
          rcases p with ⟨j, ej, s'⟩ | ⟨_, _, z, _⟩ | ⟨pl, _⟩
          · cases ej
            rw [s'] at sa
            cases sa
            exact ⟨pa, us, rfl, h1, h2, h3⟩
          · cases z
          · cases pl
        | _ => rw [ei] at e; cases e
  | ref a =>
    simp only [dctV] at e
    cases ea : h a with
    | none => rw [ea] at e; cases e
    | some c =>
      cases c with
      | dct kk =>
        rw [ea] at e
        cases e
        obtain ⟨us, h1, h2, h3⟩ := rel.hr.cell a _ ea
        have ey : y = .ref a := by
          rcases p with ⟨j, ej, s'⟩ | ⟨_, _, z, _⟩ | ⟨_, q⟩
          · cases ej
          · cases z
          · simpa only [Rep] using q
        exact ⟨a, us, ey, h1, h2, h3⟩
      | _ => rw [ea] at e; cases e
  | _ => cases e
theorem key_rep {K : PySem.W.Frag} {σ : L2.St} {H : Hp} {Z : ZS} {r : SV} {x : V} {k : Key} (p : PRep K σ Z H r x) (e : keyS r = some k) : x = kV k := by
  cases r with
  | int i => cases e; exact p.int
  | str z => cases e; exact p.str
  | _ => cases e
theorem any_keys {us : List (Key × V)} {kvs : List (Key × SV)} {k : Key} (e : us.map (·.1) = kvs.map (·.1)) : (us.any fun kv => decide (kv.1 = k)) = hasK kvs k := by
  unfold hasK
  have h1 : (us.any fun kv => decide (kv.1 = k)) = (us.map (·.1)).any fun z => decide (z = k) := by rw [List.any_map]; rfl
  have h2 : (kvs.any fun kv => decide (kv.1 = k)) = (kvs.map (·.1)).any fun z => decide (z = k) := by rw [List.any_map]; rfl
  rw [h1, h2, e]
theorem cmp_ok {K : PySem.W.Frag} {σ : L2.St} {H : Hp} {δ : SSt} {h : SHp} {Z : ZS} {op : CmpOp} {r s : SV} {x y : V} {C : Bool → Prop} {Q : VK} (rel : Rel K Y Z δ h σ H) (px : PRep K σ Z H r x) (py : PRep K σ Z H s y) (w : cmpS op r s δ h C)
    (f : ∀ b, C b → Q (.bl b) H) : rCmp K op x y H Q := by
  cases op with
  | Eq => obtain ⟨d, e, h1, h2, s1, s2, q⟩ := w; exact ⟨d, e, pdV_ok rel px h1, pdV_ok rel py h2, s1, s2, f _ q⟩
  | NotEq => obtain ⟨d, e, h1, h2, s1, s2, q⟩ := w; exact ⟨d, e, pdV_ok rel px h1, pdV_ok rel py h2, s1, s2, f _ q⟩
  | Lt => obtain ⟨i, j, rfl, rfl, q⟩ := w; exact ⟨i, j, px.int, py.int, f _ q⟩
  | LtE => obtain ⟨i, j, rfl, rfl, q⟩ := w; exact ⟨i, j, px.int, py.int, f _ q⟩
  | Gt => obtain ⟨i, j, rfl, rfl, q⟩ := w; exact ⟨i, j, px.int, py.int, f _ q⟩
  | GtE => obtain ⟨i, j, rfl, rfl, q⟩ := w; exact ⟨i, j, px.int, py.int, f _ q⟩
  | Is =>
    rcases w with ⟨rfl, b, e, q⟩ | ⟨b, c, rfl, rfl, q⟩
    · refine .inl ⟨py.non, ?_⟩
      rw [isnon_ok rel px e]
      exact f _ q
    · exact .inr ⟨b, c, px.bl, py.bl, f _ q⟩
  | IsNot =>
    obtain ⟨rfl, b, e, q⟩ := w
    refine ⟨py.non, ?_⟩
    rw [isnon_ok rel px e]
    exact f _ q
  | In =>
    rcases w with ⟨d, ds, b, h1, h2, s1, s2, q⟩ | ⟨kvs, k, e1, e2, q⟩
    · exact .inl ⟨d, ds, b, pdV_ok rel px h1, pdV_ok rel py h2, s1, s2, by rw [Bool.false_bne]; exact f _ q⟩
    · obtain ⟨a, us, rfl, ha, hk, _⟩ := dct_at rel py e1
      exact .inr ⟨a, _, rfl, .inl ⟨us, k, .inl ha, key_rep px e2, rfl⟩, by rw [Bool.false_bne, ← valV_any, any_keys hk]; exact f _ q⟩
  | NotIn =>
    rcases w with ⟨d, ds, b, h1, h2, s1, s2, q⟩ | ⟨kvs, k, e1, e2, q⟩
    · exact .inl ⟨d, ds, b, pdV_ok rel px h1, pdV_ok rel py h2, s1, s2, by rw [Bool.true_bne]; exact f _ q⟩
    · obtain ⟨a, us, rfl, ha, hk, _⟩ := dct_at rel py e1
      exact .inr ⟨a, _, rfl, .inl ⟨us, k, .inl ha, key_rep px e2, rfl⟩, by rw [Bool.true_bne, ← valV_any, any_keys hk]; exact f _ q⟩
/-- not a display of a set -/
def notSet : Expr → Bool
  | .Set _ _ _ => false
  | _ => true
theorem noMarks {op : CmpOp} (h : notSet b = true) : behindInMarks op b = false := by
  cases b <;> first | rfl | cases h
theorem se_cmp {op : CmpOp} (hu : X.A.units + 65 < cLine) (ha : PE X a (tE X.K Y G sa)) (hb : PE X b (tE X.K Y G sb)) (hn : notSet b = true) : PE X (.Compare a [op] [b] pos) (tE X.K Y G (.cmp op sa sb)) := by
  refine PE.imp (pe_cmpR (op_cmp hu op) ha hb (noMarks hn)) fun σ H Q ⟨δ, h, Z, R, rel, w, f⟩ => ?_
  simp only [wpE] at w
  exact two rel w fun r s δ' h' x y H' Z' c A px py => cmp_ok A.rel px py c fun d q => f _ _ _ _ _ _ q A (.of (by simp only [Rep]))
theorem st_cmp {op : CmpOp} (hu : X.A.units + 65 < cLine) (ha : PE X a (tE X.K Y G sa)) (hb : PE X b (tE X.K Y G sb)) (hn : notSet b = true) : PT X (.Compare a [op] [b] pos) (tT (tE X.K Y G (.cmp op sa sb))) := by
  refine PT.imp (pt_cmpR (op_cmp hu op) ha hb (noMarks hn)) fun σ H Q ⟨δ, h, Z, R, rel, w, f⟩ => ?_
  simp only [wpE] at w
  exact two rel w fun r s δ' h' x y H' Z' c A px py => cmp_ok A.rel px py c fun d q => f _ _ _ _ _ _ q A (.of (by simp only [Rep]))
theorem chain_ok {op op' : CmpOp} {σ : L2.St} {H : Hp} {Q : VK} (w : tE X.K Y G (.cmp2 op op' sa sb sc) σ H Q) : tChain (rCmp X.K op) (rCmp X.K op') (tE X.K Y G sa) (tE X.K Y G sb) (tE X.K Y G sc) σ H Q := by
  obtain ⟨δ, h, Z, R, rel, w, f⟩ := w
  simp only [wpE] at w
  refine ⟨δ, h, Z, _, rel, w, fun r δ1 h1 x H1 Z1 w1 A1 r1 => ?_⟩
  obtain ⟨Z1', A1', p1⟩ := A1.opd r1
  refine ⟨δ1, h1, Z1', _, A1'.rel, w1, fun s δ2 h2 y H2 Z2 w2 A2 r2 => ?_⟩
  obtain ⟨Z2', A2', p2⟩ := A2.opd r2
  have A := A1'.trans A2'
  refine cmp_ok A.rel (p1.keeps (A2'.keeps A1'.rel)) p2 w2 fun k q => ⟨k, rfl, ?_⟩
  cases k with
  | false =>
    rw [if_neg (by decide)]
    exact f _ _ _ _ _ _ q A (.of (by simp only [Rep]))
  | true =>
    rw [if_pos rfl]
    refine ⟨δ2, h2, Z2', _, A.rel, q, fun t δ3 h3 z H3 Z3 w3 A3 r3 => ?_⟩
    obtain ⟨Z3', A3', p3⟩ := A3.opd r3
    have B := A.trans A3'
    exact cmp_ok B.rel (p2.keeps (A3'.keeps A.rel)) p3 w3 fun k' q' => f _ _ _ _ _ _ q' B (.of (by simp only [Rep]))
theorem chainMarks {op op' : CmpOp} (h : notSet c = true) : lastMarks [op, op'] [b, c] = false := noMarks h
theorem se_cmp2 {op op' : CmpOp} (hu : X.A.units + 65 < cLine) (ha : PE X a (tE X.K Y G sa)) (hb : PE X b (tE X.K Y G sb)) (hc : PE X c (tE X.K Y G sc)) (hn : notSet c = true) : PE X (.Compare a [op, op'] [b, c] pos) (tE X.K Y G (.cmp2 op op' sa sb sc)) :=
  PE.imp (pe_chain (op_cmp hu op) (op_cmp hu op') ha hb hc (chainMarks hn)) fun σ H Q w => chain_ok w
theorem st_cmp2 {op op' : CmpOp} (hu : X.A.units + 65 < cLine) (ha : PE X a (tE X.K Y G sa)) (hb : PE X b (tE X.K Y G sb)) (hc : PE X c (tE X.K Y G sc)) (hn : notSet c = true) : PT X (.Compare a [op, op'] [b, c] pos) (tT (tE X.K Y G (.cmp2 op op' sa sb sc))) :=
  PT.imp (pt_chain (op_cmp hu op) (op_cmp hu op') ha hb hc (chainMarks hn)) fun σ H Q w => chain_ok w

/-! ### conditional expression -/
theorem se_ife (hc : PT X c (tT (tE X.K Y G sc))) (ha : PE X a (tE X.K Y G sa)) (hb : PE X b (tE X.K Y G sb)) : PE X (.IfExp c a b pos) (tE X.K Y G (.ife sc sa sb)) := by
  refine PE.imp (pe_ifExp hc ha hb) fun σ H Q ⟨δ, h, Z, R, rel, w, f⟩ => ?_
  simp only [wpE] at w
  refine ⟨δ, h, Z, _, rel, w, fun r δ1 h1 v H1 Z1 ⟨k, er, q⟩ A rr => ?_⟩
  subst er
  refine ⟨k, rr.bl, ?_⟩
  have fin : ∀ {s' : SE}, wpE G s' δ1 h1 R → tE X.K Y G s' σ H1 Q := fun {s'} q => ⟨δ1, h1, Z1, R, A.rel, q, fun r2 δ2 h2 v2 H2 Z2 w2 A2 r2' => f _ _ _ _ _ _ w2 (A.trans A2) (by
    rcases r2' with ⟨o, a, ev, oa, q1, q2, q3, q4, q5⟩ | z | z
    · refine .inl ⟨o, a, ev, oa, q1, q2, q3, q4, ?_⟩
      cases e : H a with
      | none => rfl
      | some u => exact absurd q5 (A.fr.track a (by rw [e]; exact Option.some_ne_none _))
    · exact .inr (.inl z)
    · exact .inr (.inr z))⟩
  cases k with
  | true => exact iteT (fin q)
  | false => exact iteF (fin q)
theorem RRep.back {K : PySem.W.Frag} {σ : L2.St} {H H1 H2 : Hp} {δ δ1 δ2 : SSt} {h h1 h2 : SHp} {Z Z1 Z2 : ZS} {r : SV} {v : V} (A : Aft K Y σ δ h H Z δ1 h1 H1 Z1) (q : RRep K Y σ H1 δ2 h2 Z2 H2 r v) : RRep K Y σ H δ2 h2 Z2 H2 r v := by
  rcases q with ⟨o, a, ev, oa, q1, q2, q3, q4, q5⟩ | z | z
  · refine .inl ⟨o, a, ev, oa, q1, q2, q3, q4, ?_⟩
    cases e : H a with
    | none => rfl
    | some u => exact absurd q5 (A.fr.track a (by rw [e]; exact Option.some_ne_none _))
  · exact .inr (.inl z)
  · exact .inr (.inr z)

/-! ### lists of expressions -/
theorem pa_op_nil : PA X [] (tOpL X.K Y G []) := PA.imp pa_nil fun σ H Q ⟨δ, h, Z, R, rel, w, f⟩ => f _ _ _ _ _ _ w (.refl rel) .nil
theorem pa_op_cons {es : List Expr} {ss : List SE} (ha : PE X a (tE X.K Y G sa)) (hr : PA X es (tOpL X.K Y G ss)) (hs : notStar a = true) : PA X (a :: es) (tOpL X.K Y G (sa :: ss)) := by
  refine PA.imp (pa_cons ha hr (star_cons hs)) fun σ H Q ⟨δ, h, Z, R, rel, w, f⟩ => ?_
  simp only [wpOp] at w
  refine ⟨δ, h, Z, _, rel, w, fun r δ1 h1 x H1 Z1 w1 A1 r1 => ?_⟩
  obtain ⟨Z1', A1', p1⟩ := A1.opd r1
  refine ⟨δ1, h1, Z1', _, A1'.rel, w1, fun rs δ2 h2 vs H2 Z2 w2 A2 ps => ?_⟩
  exact f _ _ _ _ _ _ w2 (A1'.trans A2) (.cons (p1.keeps (A2.keeps A1'.rel)) ps)
theorem pa_st_nil : PA X [] (tStL X.K Y G []) := PA.imp pa_nil fun σ H Q ⟨δ, h, Z, R, rel, w, f⟩ => f _ _ _ _ _ _ w (.refl rel) .nil
theorem pa_st_cons {es : List Expr} {ss : List SE} (ha : PE X a (tE X.K Y G sa)) (hr : PA X es (tStL X.K Y G ss)) (hs : notStar a = true) : PA X (a :: es) (tStL X.K Y G (sa :: ss)) := by
  refine PA.imp (pa_cons ha hr (star_cons hs)) fun σ H Q ⟨δ, h, Z, R, rel, w, f⟩ => ?_
  simp only [wpSt] at w
  refine ⟨δ, h, Z, _, rel, w, fun r δ1 h1 x H1 Z1 w1 A1 r1 => ?_⟩
  obtain ⟨r', δ2, Z2, w2, A2, p⟩ := A1.stow r1 w1
  refine ⟨δ2, h1, Z2, _, A2.rel, w2, fun rs δ3 h3 vs H3 Z3 w3 A3 ps => ?_⟩
  exact f _ _ _ _ _ _ w3 (A2.trans A3) (.cons (p.keeps (A3.keeps A2.rel)) ps)
theorem BoxOk.mono {σ : L2.St} {δ δ' : SSt} {n m : Nat} {b : Option (Option Nat × Addr)} (q : BoxOk Y σ δ n b) (o : ∀ a, Owns δ σ a → Owns δ' σ a) (e : n ≤ m) : BoxOk Y σ δ' m b := by
  cases b with
  | none => trivial
  | some b =>
    obtain ⟨i, p⟩ := b
    cases i with
    | none => trivial
    | some i => exact ⟨q.1, q.2.1, o _ q.2.2.1, Nat.lt_of_lt_of_le q.2.2.2 e⟩
theorem pa_ar_nil : PA X [] (tArL X.K Y G []) := PA.imp pa_nil fun σ H Q ⟨δ, h, Z, R, rel, w, f⟩ => f _ _ _ _ _ _ _ w (.refl rel) .nil (fun b m => nomatch m)
theorem pa_ar_cons {es : List Expr} {ss : List SE} (ha : PE X a (tE X.K Y G sa)) (hr : PA X es (tArL X.K Y G ss)) (hs : notStar a = true) : PA X (a :: es) (tArL X.K Y G (sa :: ss)) := by
  refine PA.imp (pa_cons ha hr (star_cons hs)) fun σ H Q ⟨δ, h, Z, R, rel, w, f⟩ => ?_
  simp only [wpAr] at w
  refine ⟨δ, h, Z, _, rel, w, fun r δ1 h1 x H1 Z1 w1 A1 r1 => ?_⟩
  obtain ⟨r', b, δ2, h2, w2, A2, p, bo, hl⟩ := A1.boxS r1 w1
  refine ⟨δ2, h2, Z1, _, A2.rel, w2, fun rs bs δ3 h3 vs H3 Z3 w3 A3 ps bos => ?_⟩
  refine f _ _ _ _ _ _ _ w3 (A2.trans A3) (.cons (p.keeps (A3.keeps A2.rel)) ps) fun b' m => ?_
  have len3 : δ3.length = δ2.length := A3.rel.len.trans A2.rel.len.symm
  rcases List.mem_cons.mp m with rfl | m
  · exact bo.mono (fun _ o => o) (by omega)
  · exact (bos b' m).mono A2.own (Nat.le_refl _)
theorem po_o_none : PO X none (tOO X.K Y G none) := PO.imp po_none fun σ H Q ⟨δ, h, Z, R, rel, w, f⟩ => f _ _ _ _ _ w (.refl rel)
theorem po_o_some (ha : PE X a (tE X.K Y G sa)) : PO X (some a) (tOO X.K Y G (some sa)) := by
  refine PO.imp (po_some ha) fun σ H Q ⟨δ, h, Z, R, rel, w, f⟩ => ?_
  simp only [wpO] at w
  refine ⟨δ, h, Z, _, rel, w, fun r δ1 h1 x H1 Z1 ⟨i, er, q⟩ A1 r1 => ?_⟩
  subst er
  exact ⟨i, r1.int, f _ _ _ _ _ q A1⟩
end
end SL
/-! S7: and, or; displays; items; calls. -/
namespace SL
open PySem PySem.Spec L2
section
variable {X : Cx} {Y : Ey} {G : Gm} {e a b c : Expr} {s sa sb sc : SE} {pos : Pos}
theorem sb_one {op : BoolOp} {an : Bool} (ha : PE X a (tE X.K Y G sa)) : PE X (.BoolOp op [a] pos) (tE X.K Y G (.bool an [sa])) := by
  refine PE.imp (pe_one ha) fun σ H Q ⟨δ, h, Z, R, rel, w, f⟩ => ?_
  simp only [wpE, wpB] at w
  exact ⟨δ, h, Z, R, rel, w, f⟩
theorem tE_on {σ : L2.St} {H H1 : Hp} {Q : VK} {δ δ1 : SSt} {h h1 : SHp} {Z Z1 : ZS} {R : Post} (A : Aft X.K Y σ δ h H Z δ1 h1 H1 Z1) (w : wpE G s δ1 h1 R)
    (f : ∀ r δ' h' v H' Z', R r δ' h' → Aft X.K Y σ δ h H Z δ' h' H' Z' → RRep X.K Y σ H δ' h' Z' H' r v → Q v H') : tE X.K Y G s σ H1 Q :=
  ⟨δ1, h1, Z1, R, A.rel, w, fun r2 δ2 h2 v2 H2 Z2 w2 A2 r2' => f _ _ _ _ _ _ w2 (A.trans A2) (r2'.back A)⟩
theorem and_ok {es : List SE} {σ : L2.St} {H : Hp} {Q : VK} (w : tE X.K Y G (.bool true (sa :: sb :: es)) σ H Q) : tE X.K Y G sa σ H fun x H1 => ∃ k, x = .bl k ∧ if k = true then tE X.K Y G (.bool true (sb :: es)) σ H1 Q else Q (.bl false) H1 := by
  obtain ⟨δ, h, Z, R, rel, w, f⟩ := w
  simp only [wpE, wpB] at w
  refine ⟨δ, h, Z, _, rel, w, fun r δ1 h1 v H1 Z1 ⟨k, er, q⟩ A rr => ?_⟩
  subst er
  refine ⟨k, rr.bl, ?_⟩
  cases k with
  | true => exact iteT (tE_on A (by simp only [wpE, wpB]; exact q) f)
  | false => exact iteF (f _ _ _ _ _ _ q A (.of (by simp only [Rep])))
theorem or_ok {es : List SE} {σ : L2.St} {H : Hp} {Q : VK} (w : tE X.K Y G (.bool false (sa :: sb :: es)) σ H Q) : tE X.K Y G sa σ H fun x H1 => ∃ k, x = .bl k ∧ if k = true then Q (.bl true) H1 else tE X.K Y G (.bool false (sb :: es)) σ H1 Q := by
  obtain ⟨δ, h, Z, R, rel, w, f⟩ := w
  simp only [wpE, wpB] at w
  refine ⟨δ, h, Z, _, rel, w, fun r δ1 h1 v H1 Z1 ⟨k, er, q⟩ A rr => ?_⟩
  subst er
  refine ⟨k, rr.bl, ?_⟩
  cases k with
  | false => exact iteF (tE_on A (by simp only [wpE, wpB]; exact q) f)
  | true => exact iteT (f _ _ _ _ _ _ q A (.of (by simp only [Rep])))
theorem sb_and {rest : List Expr} {es : List SE} (ha : PE X a (tE X.K Y G sa)) (hb : PE X (.BoolOp .And (b :: rest) pos) (tE X.K Y G (.bool true (sb :: es)))) : PE X (.BoolOp .And (a :: b :: rest) pos) (tE X.K Y G (.bool true (sa :: sb :: es))) :=
  PE.imp (pe_and ha hb) fun σ H Q w => and_ok w
theorem sb_or {rest : List Expr} {es : List SE} (ha : PE X a (tE X.K Y G sa)) (hb : PE X (.BoolOp .Or (b :: rest) pos) (tE X.K Y G (.bool false (sb :: es)))) : PE X (.BoolOp .Or (a :: b :: rest) pos) (tE X.K Y G (.bool false (sa :: sb :: es))) :=
  PE.imp (pe_or ha hb) fun σ H Q w => or_ok w
theorem PW.imp {t t' : TT} (p : PW X e t) (f : ∀ σ H Q, t' σ H Q → t σ H Q) : PW X e t' := ⟨fun wh pins s σ H Q I h => p.run wh pins s σ H Q I (f σ H Q h)⟩
theorem sw_one {op : BoolOp} {an : Bool} (ha : PT X a (tT (tE X.K Y G sa))) : PW X (.BoolOp op [a] pos) (tT (tE X.K Y G (.bool an [sa]))) := by
  have g : ∀ σ H Q, tT (tE X.K Y G (.bool an [sa])) σ H Q → tT (tE X.K Y G sa) σ H Q := fun σ H Q ⟨δ, h, Z, R, rel, w, f⟩ => by
    simp only [wpE, wpB] at w
    exact ⟨δ, h, Z, R, rel, w, f⟩
  cases op with
  | And => exact PW.imp (pw_and1 ha) g
  | Or => exact PW.imp (pw_or1 ha) g
theorem sw_and {rest : List Expr} {es : List SE} (ha : PT X a (tT (tE X.K Y G sa))) (hb : PW X (.BoolOp .And (b :: rest) pos) (tT (tE X.K Y G (.bool true (sb :: es))))) : PW X (.BoolOp .And (a :: b :: rest) pos) (tT (tE X.K Y G (.bool true (sa :: sb :: es)))) := by
  refine PW.imp (pw_and ha hb) fun σ H Q w => ?_
  obtain ⟨δ, h, Z, R, rel, w, f⟩ := and_ok w
  refine ⟨δ, h, Z, R, rel, w, fun r δ1 h1 v H1 Z1 q A rr => ?_⟩
  obtain ⟨k, ek, q⟩ := f r δ1 h1 v H1 Z1 q A rr
  refine ⟨k, ek, ?_⟩
  cases k with
  | true => exact q
  | false =>
    obtain ⟨c, ec, q⟩ := (show ∃ c, V.bl false = V.bl c ∧ Q c H1 from q)
    cases ec
    exact iteF q
theorem sw_or {rest : List Expr} {es : List SE} (ha : PT X a (tT (tE X.K Y G sa))) (hb : PW X (.BoolOp .Or (b :: rest) pos) (tT (tE X.K Y G (.bool false (sb :: es))))) : PW X (.BoolOp .Or (a :: b :: rest) pos) (tT (tE X.K Y G (.bool false (sa :: sb :: es)))) := by
  refine PW.imp (pw_or ha hb) fun σ H Q w => ?_
  obtain ⟨δ, h, Z, R, rel, w, f⟩ := or_ok w
  refine ⟨δ, h, Z, R, rel, w, fun r δ1 h1 v H1 Z1 q A rr => ?_⟩
  obtain ⟨k, ek, q⟩ := f r δ1 h1 v H1 Z1 q A rr
  refine ⟨k, ek, ?_⟩
  cases k with
  | false => exact q
  | true =>
    obtain ⟨c, ec, q⟩ := (show ∃ c, V.bl true = V.bl c ∧ Q c H1 from q)
    cases ec
    exact iteT q

/-! ### displays -/
variable {es : List Expr} {ss : List SE}
theorem se_tup {k : Nat} (h : PA X es (tStL X.K Y G ss)) : PE X (.Tuple es k pos) (tE X.K Y G (.tup ss)) := by
  refine PE.imp (pe_tup h) fun σ H Q ⟨δ, h, Z, R, rel, w, f⟩ => ?_
  simp only [wpE] at w
  refine ⟨δ, h, Z, _, rel, w, fun rs δ1 h1 vs H1 Z1 ⟨hz, q⟩ A r => ⟨by rw [r.length]; exact hz, fun p n => ?_⟩⟩
  obtain ⟨B, q2⟩ := A.tup_new r n
  exact f _ _ _ _ _ _ q B q2
theorem se_lst (h : PA X es (tStL X.K Y G ss)) : PE X (.List es pos) (tE X.K Y G (.lst ss)) := by
  refine PE.imp (pe_lst h) fun σ H Q ⟨δ, h, Z, R, rel, w, f⟩ => ?_
  simp only [wpE] at w
  refine ⟨δ, h, Z, _, rel, w, fun rs δ1 h1 vs H1 Z1 ⟨hz, q⟩ A r => ⟨by rw [r.length]; exact hz, fun p n => ?_⟩⟩
  obtain ⟨B, q2⟩ := A.own_new r n
  exact f _ _ _ _ _ _ q B q2

/-! ### items, slices -/
def notSlice : Expr → Bool
  | .Slice _ _ _ _ => false
  | _ => true
theorem plainIx (h : notSlice b = true) : PlainIx b := fun o i => by
  cases b <;> first | rfl | cases h
theorem atI_reps {K : PySem.W.Frag} {Z : ZS} {H : Hp} {xs : List SV} {vs : List V} {k : Int} {d : SV} (r : Reps K Z H xs vs) (e : atI xs k = some d) : ∃ v, atI vs k = some v ∧ Rep K Z H d v := by
  unfold atI at e ⊢
  rw [r.length]
  obtain ⟨j, h1, h2⟩ := Option.bind_eq_some_iff.mp e
  obtain ⟨v, h3, h4⟩ := r.get h2
  exact ⟨v, by rw [h1]; exact h3, h4⟩
theorem se_ix (ha : PE X a (tE X.K Y G sa)) (hb : PE X b (tE X.K Y G sb)) (hs : notSlice b = true) : PE X (.Subscript a b pos) (tE X.K Y G (.ix sa sb)) := by
  refine PE.imp (pe_ix ix_seq ha hb (plainIx hs)) fun σ H Q ⟨δ, h, Z, R, rel, w, f⟩ => ?_
  simp only [wpE] at w
  refine two rel w fun r s δ' h' x y H' Z' ⟨k, xs, n, d, ev, es, ed, q⟩ A px py => ?_
  subst es
  obtain ⟨p, vs, ex, rr, z⟩ := view_ok A.rel px ev
  obtain ⟨v, hv, rv⟩ := atI_reps rr ed
  have fin : Q v H' := f _ _ _ _ _ _ q A (.of rv)
  rcases z with ⟨_, z⟩ | ⟨_, z, _⟩
  · exact .inr (.inl ⟨p, vs, n, v, ex, py.int, z, hv, fin⟩)
  · exact .inl ⟨p, vs, n, v, ex, py.int, z, hv, fin⟩
theorem cut_reps {K : PySem.W.Frag} {Z : ZS} {H : Hp} {xs : List SV} {vs : List V} {lo hi : Option Int} (r : Reps K Z H xs vs) : Reps K Z H (cut xs lo hi) (cutV vs lo hi) := by
  unfold cut cutV
  rw [r.length]
  exact (r.drop _).take _
theorem cut_all {α : Type} {xs : List α} {lo hi : Option Int} (e : HT.sIx xs.length 0 lo = 0 ∧ HT.sIx xs.length xs.length hi = xs.length) : cut xs lo hi = xs := by
  unfold cut
  rw [e.1, e.2]
  simp
theorem se_slc {lo hi : Option Expr} {sl sh : Option SE} {p2 : Pos} (ha : PE X a (tE X.K Y G sa)) (hl : PO X lo (tOO X.K Y G sl)) (hh : PO X hi (tOO X.K Y G sh)) : PE X (.Subscript a (.Slice lo hi none p2) pos) (tE X.K Y G (.slc sa sl sh)) := by
  refine PE.imp (pe_slice (sl_list.or sl_tupA) ha hl hh) fun σ H Q ⟨δ, h, Z, R, rel, w, f⟩ => ?_
  simp only [wpE] at w
  refine ⟨δ, h, Z, _, rel, w, fun r δ1 h1 x H1 Z1 w1 A1 r1 => ?_⟩
  obtain ⟨Z1', A1', p1⟩ := A1.opd r1
  refine ⟨δ1, h1, Z1', _, A1'.rel, w1, fun l δ2 h2 H2 Z2 w2 A2 => ⟨δ2, h2, Z2, _, A2.rel, w2, fun u δ3 h3 H3 Z3 w3 A3 => ?_⟩⟩
  have A := (A1'.trans A2).trans A3
  obtain ⟨k, xs, ev, q⟩ := w3
  obtain ⟨p, vs, ex, rr, z⟩ := view_ok A.rel (p1.keeps ((A2.trans A3).keeps A1'.rel)) ev
  subst ex
  cases k with
  | true =>
    rcases z with ⟨_, z⟩ | ⟨z, _⟩
    · refine .inr ⟨p, vs, rfl, z, fun e => ?_, fun e p' n => ?_⟩
      · have e2 : cut xs l u = xs := cut_all (by rw [← rr.length]; exact e)
        have q' : R (.tup xs) δ3 h3 := by rw [← e2]; exact q
        exact f _ _ _ _ _ _ q' A (.of (by simp only [Rep]; exact ⟨p, vs, rfl, z, rr⟩))
      · obtain ⟨B, q2⟩ := A.tup_new (cut_reps rr) n
        exact f _ _ _ _ _ _ q B q2
    · cases z
  | false =>
    rcases z with ⟨z, _⟩ | ⟨_, z, _⟩
    · cases z
    · refine .inl ⟨p, vs, rfl, z, fun p' n => ?_⟩
      obtain ⟨B, q2⟩ := A.own_new (cut_reps rr) n
      exact f _ _ _ _ _ _ q B q2

/-! ### calls of defs -/
def wX (K : PySem.W.Frag) (Y : Ey) (ca : Str → Addr) (xp : SX → SSt → SHp → Prop) : WX := fun cls d σ H => ∃ x δ h Z, Rel K Y Z δ h σ H ∧ XRep K ca Z H x cls d ∧ xp x δ h
theorem ret_rr {K : PySem.W.Frag} {σ : L2.St} {H H1 H2 : Hp} {δ δ1 δ3 : SSt} {h h1 h2 h3 : SHp} {Z Z1 Z2 : ZS} {d : SV} {v : V} (A : Aft K Y σ δ h H Z δ1 h1 H1 Z1) (n1 : ∀ a, h3 a ≠ none → h2 a ≠ none) (n2 : ∀ a, Owns δ3 σ a → Owns δ1 σ a ∨ h2 a ≠ none)
    (q : RetRep K H1 h2 Z2 H2 d v) : RRep K Y σ H δ3 h3 Z2 H2 d v := by
  rcases q with ⟨o, a, ev, oa, q1, q2, q3⟩ | q
  · have hr := A.rel.fresh q3
    refine .inl ⟨o, a, ev, oa, ?_, q2, hr.1, fun ow => ?_, ?_⟩
    · cases e : h3 a with
      | none => rfl
      | some c => exact absurd q1 (n1 a (by rw [e]; exact Option.some_ne_none _))
    · rcases n2 a ow with z | z
      · exact hr.2 z
      · exact z q1
    · cases e : H a with
      | none => rfl
      | some u => exact absurd q3 (A.fr.track a (by rw [e]; exact Option.some_ne_none _))
  · exact .inr (.inr q)
end
end SL
/-! S7k: calls by patterns: positional values, keywords, defaults. -/
namespace SL
open PySem PySem.Spec PyProof.Rows L2
/-- a parameter's source: a written value, a default -/
inductive Pl where
  | arg (i : Nat) | dfl (j : Nat)
def asmG {α : Type} (d : α) (pl : List Pl) (as ds : List α) : List α := pl.map fun p => match p with
  | .arg i => as.getD i d
  | .dfl j => ds.getD j d
theorem asm_rel {α β : Type} {P : α → β → Prop} {a0 : α} {b0 : β} (h0 : P a0 b0) {as ds : List α} {bs es : List β} (l1 : as.length = bs.length) (l2 : ds.length = es.length) (h1 : ∀ (i : Nat) a b, as[i]? = some a → bs[i]? = some b → P a b) (h2 : ∀ (i : Nat) a b, ds[i]? = some a → es[i]? = some b → P a b) (pl : List Pl) :
    Paired P (asmG a0 pl as ds) (asmG b0 pl bs es) := by
  have one : ∀ {as : List α} {bs : List β}, as.length = bs.length → (∀ (i : Nat) a b, as[i]? = some a → bs[i]? = some b → P a b) → ∀ i, P (as.getD i a0) (bs.getD i b0) := fun {as bs} l h i => by
    rw [List.getD_eq_getElem?_getD, List.getD_eq_getElem?_getD]
    by_cases hi : i < as.length
    · have e1 := List.getElem?_eq_getElem hi
      have e2 := List.getElem?_eq_getElem (l := bs) (i := i) (by omega)
      rw [e1, e2]
      exact h i _ _ e1 e2
    · rw [List.getElem?_eq_none (by omega), List.getElem?_eq_none (by omega)]
      exact h0
  induction pl with
  | nil => exact .nil
  | cons p pl ih =>
    refine .cons ?_ ih
    cases p with
    | arg i => exact one l1 h1 i
    | dfl j => exact one l2 h2 j
theorem vals_at {vs : List V} {us : List Value} (r : Vals vs us) : ∀ (i : Nat) a b, vs[i]? = some a → us[i]? = some b → RelV a b := fun i a b e1 e2 => by
  obtain ⟨u, e3, q⟩ := r.get e1
  rw [e2] at e3
  cases e3
  exact q
theorem vals_of {vs : List V} {us : List Value} (p : Paired RelV vs us) : Vals vs us := by
  induction p with
  | nil => exact .nil
  | cons a b ih => exact .cons a ih
theorem asm_vals {pl : List Pl} {vs ds : List V} {us its : List Value} (r : Vals vs us) (q : Vals ds its) : Vals (asmG .non pl vs ds) (asmG .none pl us its) :=
  vals_of (asm_rel (by first | rfl | exact trivial) r.length q.length (vals_at r) (vals_at q) pl)
theorem asm_reps {K : PySem.W.Frag} {Z : ZS} {H : Hp} {pl : List Pl} {as ds : List SV} {vs us : List V} (r : Reps K Z H as vs) (q : Reps K Z H ds us) : Reps K Z H (asmG .non pl as ds) (asmG .non pl vs us) := by
  have at_ : ∀ {as : List SV} {vs : List V}, Reps K Z H as vs → ∀ (i : Nat) a b, as[i]? = some a → vs[i]? = some b → Rep K Z H a b := fun {as vs} r i a b e1 e2 => by
    obtain ⟨v, e3, q⟩ := r.get e1
    rw [e2] at e3
    cases e3
    exact q
  have p := asm_rel (P := Rep K Z H) (a0 := .non) (b0 := .non) (by simp only [Rep]) r.length.symm q.length.symm (at_ r) (at_ q) pl
  revert p
  generalize asmG SV.non pl as ds = xs
  generalize asmG V.non pl vs us = ys
  intro p
  induction p with
  | nil => exact .nil
  | cons a b ih => exact .cons a ih
/-! ### binding -/
section
variable {K : PySem.W.Frag} {x qual : Str} {params : Arguments} {body : List Stmt} {scope : Scope} {dvs : List V} {kws : List (Str × V)} {f : Addr} {fd : FuncData} {ps ks : List Str} {n : Nat} {pl : List Pl}
/-- how a pattern binds -/
def KbP (K : PySem.W.Frag) (fd : FuncData) (ps : List Str) (n : Nat) (ks : List Str) (pl : List Pl) (dvs : List V) : Prop :=
  ∃ its : List Value, KBn K fd ps n ks (fun us ws => asmG .none pl (us ++ ws) its) (fun vs zs => asmG .non pl (vs ++ zs) dvs)
theorem vals_app {vs zs : List V} {us ws : List Value} (a : Vals vs us) (b : Vals zs ws) : Vals (vs ++ zs) (us ++ ws) := a.append b
/-- no defaults are used -/
theorem kb_plain (F : FunD K x qual params body scope [] kws f fd)
    (h : ∀ (kV doc pm : Value) (an : Option Addr) (cdv ct : Value) (us ws : List Value), us.length = n → ws.length = ks.length → bindArgs (PySem.W.fnOf x qual params body scope .none kV doc pm an cdv ct) ⟨us, ks.zip ws⟩ = pure (ps.zip (asmG .none pl (us ++ ws) []))) : KbP K fd ps n ks pl [] := by
  obtain ⟨oc, od, dV, kV, doc, pm, an, cdv, ct, osl, rfl, lk, hcd, hD, hK⟩ := F.ex
  rcases hD with ⟨_, rfl⟩ | ⟨e, _⟩
  · exact ⟨[], fun s us ws _ l1 l2 => .of_eq (h kV doc pm an cdv ct us ws l1 l2), fun a b => asm_vals (vals_app a b) .nil⟩
  · exact absurd rfl e
/-- defaults, no keyword-only ones -/
theorem kb_dfl (F : FunD K x qual params body scope dvs kws f fd) (hd : dvs ≠ [])
    (h : ∀ (T : Addr) (kV doc pm : Value) (an : Option Addr) (cdv ct : Value) (us ws its : List Value), us.length = n → ws.length = ks.length → its.length = dvs.length →
      ∃ k, bindArgs (PySem.W.fnOf x qual params body scope (.ref T) kV doc pm an cdv ct) ⟨us, ks.zip ws⟩ = seqItems? (.ref T) >>= k ∧ k (some its.toArray) = pure (ps.zip (asmG .none pl (us ++ ws) its))) : KbP K fd ps n ks pl dvs := by
  obtain ⟨oc, od, dV, kV, doc, pm, an, cdv, ct, osl, rfl, lk, hcd, hD, hK⟩ := F.ex
  rcases hD with ⟨e, _⟩ | ⟨_, T, o, its, m, rfl, lT, oT, rT⟩
  · exact absurd e hd
  · refine ⟨its, fun s us ws X l1 l2 => ?_, fun a b => asm_vals (vals_app a b) rT⟩
    obtain ⟨k, e1, e2⟩ := h T kV doc pm an cdv ct us ws its l1 l2 rT.length.symm
    refine BindsTo.of_looks fun M => ?_
    rw [e1]
    exact looks_items X lT oT (.of_pure e2)
/-- keyword-only defaults that lack, no others -/
theorem kb_kw (F : FunD K x qual params body scope [] kws f fd) (hk : kws ≠ []) (ms : List (Str × V)) (hms : ∀ q ∈ ms, q ∈ kws)
    (h : ∀ (D : Addr) (doc pm : Value) (an : Option Addr) (cdv ct : Value) (us ws mv : List Value), us.length = n → ws.length = ks.length → mv.length = ms.length →
      KwChain D ((ms.map (·.1)).zip mv) (bindArgs (PySem.W.fnOf x qual params body scope .none (.ref D) doc pm an cdv ct) ⟨us, ks.zip ws⟩) (ps.zip (asmG .none pl (us ++ ws) mv))) : KbP K fd ps n ks pl (ms.map (·.2)) := by
  obtain ⟨oc, od, dV, kV, doc, pm, an, cdv, ct, osl, rfl, lk, hcd, hD, hK⟩ := F.ex
  rcases hD with ⟨_, rfl⟩ | ⟨e, _⟩
  · rcases hK with e | ⟨D, rfl, hq⟩
    · exact absurd e hk
    · obtain ⟨mv, hl, rk, hks⟩ := kwd_vals (ms := ms) fun q hm => hq q (hms q hm)
      exact ⟨mv, fun s us ws X l1 l2 => BindsTo.of_looks fun M => KwChain.looks X hks (h D doc pm an cdv ct us ws mv l1 l2 hl), fun a b => asm_vals (vals_app a b) rk⟩
  · exact absurd rfl e
/-- both -/
theorem kb_both (F : FunD K x qual params body scope dvs kws f fd) (hd : dvs ≠ []) (hk : kws ≠ []) (ms : List (Str × V)) (hms : ∀ q ∈ ms, q ∈ kws)
    (h : ∀ (T D : Addr) (doc pm : Value) (an : Option Addr) (cdv ct : Value) (us ws its mv : List Value), us.length = n → ws.length = ks.length → its.length = dvs.length → mv.length = ms.length →
      ∃ k, bindArgs (PySem.W.fnOf x qual params body scope (.ref T) (.ref D) doc pm an cdv ct) ⟨us, ks.zip ws⟩ = seqItems? (.ref T) >>= k ∧ KwChain D ((ms.map (·.1)).zip mv) (k (some its.toArray)) (ps.zip (asmG .none pl (us ++ ws) (its ++ mv)))) : KbP K fd ps n ks pl (dvs ++ ms.map (·.2)) := by
  obtain ⟨oc, od, dV, kV, doc, pm, an, cdv, ct, osl, rfl, lk, hcd, hD, hK⟩ := F.ex
  rcases hD with ⟨e, _⟩ | ⟨_, T, o, its, m, rfl, lT, oT, rT⟩
  · exact absurd e hd
  · rcases hK with e | ⟨D, rfl, hq⟩
    · exact absurd e hk
    · obtain ⟨mv, hl, rk, hks⟩ := kwd_vals (ms := ms) fun q hm => hq q (hms q hm)
      refine ⟨its ++ mv, fun s us ws X l1 l2 => ?_, fun a b => asm_vals (vals_app a b) (vals_app rT rk)⟩
      obtain ⟨k, e1, e2⟩ := h T D doc pm an cdv ct us ws its mv l1 l2 rT.length.symm hl
      refine BindsTo.of_looks fun M => ?_
      rw [e1]
      exact looks_items X lT oT (KwChain.looks X hks e2)
end
/-! ### the call -/
def kwB (ks : List Str) (kw : List Keyword) : Bool := kw.map (fun q => match q with | ⟨n, _, _⟩ => n) == ks.map some
def kwE (kw : List Keyword) : List Expr := kw.map fun q => match q with | ⟨_, e, _⟩ => e
theorem kw_names {env : Env} {pos : Pos} : ∀ {ks : List Str} {kw : List Keyword}, kwB ks kw = true → (backToKw pos (keywordEach kw env)).all (·.1.isSome) = true ∧ (backToKw pos (keywordEach kw env)).filterMap (·.1) = ks ∧ (backToKw pos (keywordEach kw env)).any (·.1.isNone) = false ∧ kw.length = ks.length
  | [], [], _ => ⟨rfl, rfl, rfl, rfl⟩
  | [], ⟨n, e, p⟩ :: kw, h => by simp [kwB] at h
  | k :: ks, [], h => by simp [kwB] at h
  | k :: ks, ⟨n, e, p⟩ :: kw, h => by
    have h' : n = some k ∧ kwB ks kw = true := by simpa [kwB] using h
    obtain ⟨rfl, h2⟩ := h'
    obtain ⟨a, b, c, d⟩ := kw_names (env := env) (pos := pos) h2
    refine ⟨?_, ?_, ?_, by simp [d]⟩
    · show (true && (backToKw pos (keywordEach kw env)).all (·.1.isSome)) = true
      rw [a]; rfl
    · show k :: (backToKw pos (keywordEach kw env)).filterMap (·.1) = k :: ks
      rw [b]
    · show (false || (backToKw pos (keywordEach kw env)).any (·.1.isNone)) = false
      rw [c]; rfl
section
variable {X : Cx} {CX : CXT} {k n : Nat} {f : Addr} {fd : FuncData} {ps ks : List Str} {sp : Sp} {E : L2.St → XK} {x : Str} {p pos : Pos} {e : Expr} {es : List Expr} {kws : List Keyword} {t tk : TA} {g : List Value → List Value → List Value} {gV : List V → List V → List V}
def tCallP (n m : Nat) (sp : Sp) (gV : List V → List V → List V) (E : L2.St → XK) (t tk : TA) : TE := fun σ H Q => t σ H fun vs H1 => tk σ H1 fun zs H2 => vs.length = n ∧ zs.length = m ∧ sp (gV vs zs) H2 Q (E σ)
def tCallG (sp : Sp) (E : L2.St → XK) (t : TA) : TE := fun σ H Q => t σ H fun vs H1 => sp vs H1 Q (E σ)
theorem pe_callG (F : FnG X.prog X.w X.K X.mg X.base CX k f fd ps sp) (hr : Room k X.A) (gd : X.A.guards = some []) (hg : Gl X x) (hm : X.mg x = some (.ref f)) (hk : PySem.W.keepIn X.K (.ref f) = true) (hb : Binds X.K fd ps []) (hx : ∀ σ, PassesAt CX X σ (E σ)) (ha : PA X (e :: es) t)
    (hdb : (x == ("__debug__" : Str)) = false) (he : starEach (e :: es) X.env = (false, eval e X.env) :: starEach es X.env) (hp : (backTo pos (starEach es X.env)).any (·.1) = false) : PE X (.Call (.Name x p) (e :: es) [] pos) (tCallG sp E t) := by
  refine ⟨fun pins s σ H Q I h => wpAny_Call_Name_kw (ld_glob I hg hm ?_ hdb)⟩
  refine PySem.W.callWith_K (h₀ := X.base) I.ok.mod.kin hk (thn (ha.run pos pins s σ H _ I h) ?_) he hp
  rintro us s1 ⟨vs, H1, I1, r, q⟩
  refine ⟨I1.kIn, wpAny_call (codeAny_mono (F.run X.A X.stack s1 H1 ⟨us, []⟩ us vs Q (E σ) hr gd I1.env0 ?_ r q) fun res s' q => ?_)⟩
  · have z := hb s1 us I1.kIn (by rw [List.append_nil, ← r.length]; exact F.len _ _ _ _ q)
    rwa [List.append_nil] at z
  · match res, q with
    | .error e, q => exact hx σ pins H1 s1 e s' I1 q
    | .ok (.ret u), q => exact I1.after q
theorem run_fnP {pins : List (Addr × Obj)} {σ : L2.St} {H : Hp} {s : Shared} {Q : VK} {us ws : List Value} {vs zs : List V} (F : FnG X.prog X.w X.K X.mg X.base CX k f fd ps sp) (hr : Room k X.A) (gd : X.A.guards = some []) (hb : KBn X.K fd ps n ks g gV) (hx : PassesAt CX X σ (E σ))
    (I : Inv X pins σ H s) (r : Vals vs us) (rz : Vals zs ws) (l1 : vs.length = n) (l2 : zs.length = ks.length) (h : sp (gV vs zs) H Q (E σ)) : wpAny (model X.prog X.w) X.A (call (.ref f) us (ks.zip ws)) (EP X pins σ Q) X.xe s := by
  refine wpAny_call (codeAny_mono (F.run X.A X.stack s H ⟨us, ks.zip ws⟩ (g us ws) (gV vs zs) Q (E σ) hr gd I.env0 (hb.to s us ws I.kIn (r.length.symm.trans l1) (rz.length.symm.trans l2)) (hb.rel r rz) h) fun res s' q => ?_)
  match res, q with
  | .error e, q => exact hx pins H s e s' I q
  | .ok (.ret u), q => exact I.after q
theorem pe_callP (F : FnG X.prog X.w X.K X.mg X.base CX k f fd ps sp) (hr : Room k X.A) (gd : X.A.guards = some []) (hg : Gl X x) (hm : X.mg x = some (.ref f)) (hk : PySem.W.keepIn X.K (.ref f) = true) (hb : KBn X.K fd ps n ks g gV) (hx : ∀ σ, PassesAt CX X σ (E σ)) (ha : PA X (e :: es) t) (hkw : PK X kws tk)
    (hn : kwB ks kws = true) (hdb : (x == ("__debug__" : Str)) = false) (hst : (e :: es).all notStar = true) : PE X (.Call (.Name x p) (e :: es) kws pos) (tCallP n ks.length sp gV E t tk) := by
  obtain ⟨n1, n2, n3, _⟩ := kw_names (env := X.env) (pos := pos) hn
  have hs := hst
  rw [List.all_cons, Bool.and_eq_true] at hs
  refine ⟨fun pins s σ H Q I h => wpAny_Call_Name_kw (ld_glob I hg hm ?_ hdb)⟩
  refine PySem.W.callWith_KW (h₀ := X.base) I.ok.mod.kin hk n1 (thn (ha.run pos pins s σ H _ I h) ?_) (by rw [back_any hst, n3]; rfl) (star_cons hs.1)
  rintro us s1 ⟨vs, H1, I1, r, q⟩
  refine thn (hkw.run pos pins s1 σ H1 _ I1 q) ?_
  rintro ws s2 ⟨zs, H2, I2, rz, l1, l2, q2⟩
  rw [n2]
  exact ⟨I2.kIn, run_fnP F hr gd hb (hx σ) I2 r rz l1 l2 q2⟩
end
section
variable {X : Cx} {Y : Ey} {G : Gm} {e a b c : Expr} {s sa sb sc : SE} {pos : Pos} {es : List Expr} {ss : List SE} {nm : Option Str} {kpos : Pos} {kws : List Keyword}
theorem pk_ar_nil : PK X [] (tArL X.K Y G []) := ⟨fun pos pins s σ H Q I ⟨δ, h, Z, R, rel, w, f⟩ => pk_nil.run pos pins s σ H Q I (f _ _ _ _ _ _ _ w (.refl rel) .nil (fun b m => nomatch m))⟩
theorem pk_ar_cons (ha : PE X a (tE X.K Y G sa)) (hr : PK X kws (tArL X.K Y G ss)) : PK X (⟨nm, a, kpos⟩ :: kws) (tArL X.K Y G (sa :: ss)) := by
  refine ⟨fun pos pins s σ H Q I ⟨δ, h, Z, R, rel, w, f⟩ => (pk_cons ha hr).run pos pins s σ H Q I ?_⟩
  simp only [wpAr] at w
  refine ⟨δ, h, Z, _, rel, w, fun r δ1 h1 x H1 Z1 w1 A1 r1 => ?_⟩
  obtain ⟨r', b, δ2, h2, w2, A2, p, bo, hl⟩ := A1.boxS r1 w1
  refine ⟨δ2, h2, Z1, _, A2.rel, w2, fun rs bs δ3 h3 vs H3 Z3 w3 A3 ps bos => ?_⟩
  refine f _ _ _ _ _ _ _ w3 (A2.trans A3) (.cons (p.keeps (A3.keeps A2.rel)) ps) fun b' m => ?_
  have len3 : δ3.length = δ2.length := A3.rel.len.trans A2.rel.len.symm
  rcases List.mem_cons.mp m with rfl | m
  · exact bo.mono (fun _ o => o) (by omega)
  · exact (bos b' m).mono A2.own (Nat.le_refl _)
theorem se_call {k : Nat} {f : Addr} {fd : FuncData} {ps : List Str} {x : Str} {p : Pos} {ca : Str → Addr} (F : FnG X.prog X.w X.K X.mg X.base (CX X.prog X.w) k f fd ps (liftSp X.K ca (G.call x))) (hr : Room k X.A) (gd : X.A.guards = some []) (hg : Gl X x) (hm : X.mg x = some (.ref f))
    (hk : PySem.W.keepIn X.K (.ref f) = true) (hb : Binds X.K fd ps []) (tk : Takes X (wX X.K Y ca G.xp)) (ha : PA X (a :: es) (tArL X.K Y G ss)) (hdb : (x == ("__debug__" : Str)) = false) (hst : (a :: es).all notStar = true) :
    PE X (.Call (.Name x p) (a :: es) [] pos) (tE X.K Y G (.call x ss)) := by
  rw [List.all_cons, Bool.and_eq_true] at hst
  refine PE.imp (pe_callG (E := fun σ => WE (wX X.K Y ca G.xp) σ) F hr gd hg hm hk hb (fun σ => passAt tk σ) ha hdb (star_cons hst.1) (back_any hst.2)) fun σ H Q ⟨δ, h, Z, R, rel, w, fn⟩ => ?_
  simp only [wpE] at w
  refine ⟨δ, h, Z, _, rel, w, fun rs bs δ1 h1 vs H1 Z1 q A r bo => ?_⟩
  refine ⟨rs, h1, Z1, _, _, A.rel.hr, r, q, fun d h2 v H2 Z2 u hr2 fr2 ret => ?_, fun xx h2 c e H2 Z2 u hr2 fr2 xr => ?_⟩
  · have B := A.trans (A.rel.called hr2 fr2)
    obtain ⟨δ3, h3, q3, C, n1, n2⟩ := B.unbox bo u
    exact fn _ _ _ _ _ _ q3 C (ret_rr A n1 n2 ret)
  · have B := A.trans (A.rel.called hr2 fr2)
    obtain ⟨δ3, h3, q3, C, n1, n2⟩ := B.unbox bo u
    exact ⟨xx, δ3, h3, Z2, C.rel, xr, q3⟩
/-- what stands behind a pattern's name -/
structure PatK (P : Program) (w : World) (K : PySem.W.Frag) (mg : Str → Option Value) (base : Heap) (call : Str → SSp) (ca : Str → Addr) (k : Nat) (pn x : Str) (n : Nat) (ks : List Str) (f : Addr) : Prop where
  ex : ∃ (pl : List Pl) (dss : List SV) (dvs : List V) (fd : FuncData) (ps : List Str) (sp : SSp), FnG P w K mg base (CX P w) k f fd ps (liftSp K ca sp) ∧ KbP K fd ps n ks pl dvs ∧ (∀ Z H, Reps K Z H dss dvs) ∧ ∀ args h R E, call pn args h R E → sp (asmG .non pl args dss) h R E
abbrev PatOk (X : Cx) (G : Gm) := PatK X.prog X.w X.K X.mg X.base G.call
theorem se_callP {k : Nat} {f : Addr} {pn x : Str} {p : Pos} {ca : Str → Addr} {ks : List Str} {kss : List SE} (P : PatOk X G ca k pn x ss.length ks f) (hr : Room k X.A) (gd : X.A.guards = some []) (hg : Gl X x) (hm : X.mg x = some (.ref f)) (hk : PySem.W.keepIn X.K (.ref f) = true) (tk : Takes X (wX X.K Y ca G.xp))
    (ha : PA X (a :: es) (tArL X.K Y G ss)) (hkw : PK X kws (tArL X.K Y G kss)) (hn : kwB ks kws = true) (hl : kss.length = ks.length) (hdb : (x == ("__debug__" : Str)) = false) (hst : (a :: es).all notStar = true) : PE X (.Call (.Name x p) (a :: es) kws pos) (tE X.K Y G (.callP pn ks ss kss)) := by
  obtain ⟨pl, dss, dvs, fd, ps, sp, F, ⟨its, kb⟩, hd, hc⟩ := P.ex
  refine PE.imp (pe_callP (E := fun σ => WE (wX X.K Y ca G.xp) σ) F hr gd hg hm hk kb (fun σ => passAt tk σ) ha hkw hn hdb hst) fun σ H Q ⟨δ, h, Z, R, rel, w, fn⟩ => ?_
  simp only [wpE] at w
  refine ⟨δ, h, Z, _, rel, w, fun rs bs δ1 h1 vs H1 Z1 q A r bo => ?_⟩
  refine ⟨δ1, h1, Z1, _, A.rel, q, fun rs2 bs2 δ2 h2 zs H2 Z2 ⟨m1, m2, q2⟩ A2 r2 bo2 => ?_⟩
  have B := A.trans A2
  have ra : Reps X.K Z2 H2 (rs ++ rs2) (vs ++ zs) := (r.keeps (A2.keeps A.rel)).append r2
  have boxes : ∀ b ∈ bs ++ bs2, BoxOk Y σ δ δ2.length b := fun b m => by
    rcases List.mem_append.mp m with m | m
    · exact (bo b m).mono (fun _ o => o) (by rw [A2.rel.len, ← A.rel.len]; exact Nat.le_refl _)
    · exact (bo2 b m).mono A.own (Nat.le_refl _)
  refine ⟨r.length.trans m1, (r2.length.trans m2).trans hl, asmG .non pl (rs ++ rs2) dss, h2, Z2, _, _, B.rel.hr, asm_reps ra (hd _ _), hc _ _ _ _ q2, fun d h3 v H3 Z3 u hr3 fr3 ret => ?_, fun xx h3 c e H3 Z3 u hr3 fr3 xr => ?_⟩
  · have C := B.trans (B.rel.called hr3 fr3)
    obtain ⟨δ4, h4, q4, D, n1, n2⟩ := C.unbox boxes u
    exact fn _ _ _ _ _ _ q4 D (ret_rr B n1 n2 ret)
  · have C := B.trans (B.rel.called hr3 fr3)
    obtain ⟨δ4, h4, q4, D, n1, n2⟩ := C.unbox boxes u
    exact ⟨xx, δ4, h4, Z3, D.rel, xr, q4⟩
end
end SL
/-! S8: built-ins, isinstance, append, boxing. -/
namespace SL
open PySem PySem.Spec L2
section
variable {X : Cx} {Y : Ey} {G : Gm} {e a b c : Expr} {s sa sb sc : SE} {pos : Pos} {es : List Expr} {ss : List SE}
/-- the name of a built-in, what it is -/
def Bi.name : Bi → Str
  | .len => "len" | .abs => "abs" | .tuple => "tuple" | .list => "list" | .all => "all" | .any => "any" | .sum => "sum" | .int => "int" | .str => "str" | .max => "max" | .min => "min" | .sorted => "sorted" | .dict => "dict" | .repr => "repr"
def Bi.served : Bi → Bool
  | .len | .abs | .tuple | .list | .all | .any | .int | .max | .min | .str | .repr | .sum => true
  | _ => false
/-- repr(a list, a tuple) -/
def rShow (K : PySem.W.Frag) : List V → Hp → VK → Prop := fun xs H Q => ∃ p d, xs = [.ref p] ∧ Dp K H (.ref p) d ∧ d.showable = true ∧ d.hasDict = false ∧ d.depth ≤ 60 ∧ d.shown.length ≤ sizeLine ∧ Q (.str d.shown) H
theorem call_show (gd : X.A.guards = some []) (hu : X.A.units + 65 < cLine) : CallR X (.builtin "repr") (rShow X.K) := by
  intro pins s σ H xs us Q I r h
  obtain ⟨p, d, rfl, dp, s1, s2, s3, s4, q⟩ := h
  obtain ⟨u, rfl, rx⟩ := vals1 r
  obtain ⟨as, rd⟩ := Dp.reads I d _ _ dp rx
  obtain rfl : u = Value.ref p := rx
  refine repr_of_reads' rd s1 (fun z => by rw [s2] at z; cases z) gd (by omega) (fun _ _ e => e) (fun h' t tk kp => ?_) s4
  exact ⟨.str d.shown, H, I.kept kp, ⟨t, rfl⟩, q⟩
def rBi (K : PySem.W.Frag) : Bi → List V → Hp → VK → Prop
  | .len => fun xs H Q => ∃ x n, xs = [x] ∧ LenV K x H n ∧ Q (.int n) H
  | .abs => fun xs H Q => ∃ i, xs = [.int i] ∧ Q (.int (if i < 0 then -i else i)) H
  | .tuple => fun xs H Q => ∃ p ys, xs = [.ref p] ∧ ((SqL K H p ys ∧ ∀ l, H l = none → Q (.ref l) (upd H l (.tup ys))) ∨ (SqT K H p ys ∧ Q (.ref p) H))
  | .list => fun xs H Q => ∃ p ys, xs = [.ref p] ∧ (SqL K H p ys ∨ SqT K H p ys) ∧ ∀ l, H l = none → Q (.ref l) (upd H l (.lst ys))
  | .all => rAll K
  | .any => rAny K
  | .int => fun xs H Q => ((∃ i, xs = [.int i] ∧ Q (.int i) H) ∨ ∃ k, xs = [.bl k] ∧ Q (.int (if k then 1 else 0)) H) ∨ ∃ a n, xs = [.str a] ∧ PySem.intText? a = some n ∧ a.length ≤ 640 ∧ Q (.int n) H
  | .str => fun xs H Q => (∃ i, xs = [.int i] ∧ i.natAbs.log2 < 1920 ∧ Q (.str (toString i)) H) ∨ ∃ a, xs = [.str a] ∧ Q (.str a) H
  | .repr => rShow K
  | .sum => rSum K
  | .max => fun xs H Q => ∃ i j, xs = [.int i, .int j] ∧ Q (.int (if j > i then j else i)) H
  | .min => fun xs H Q => (∃ i j, xs = [.int i, .int j] ∧ Q (.int (if j < i then j else i)) H) ∨ rMin K xs H Q
  | _ => fun _ _ _ => False
theorem cr_or {f : Value} {r r' : List V → Hp → VK → Prop} (a : CallR X f r) (b : CallR X f r') : CallR X f (fun xs H Q => r xs H Q ∨ r' xs H Q) := by
  intro pins s σ H xs us Q I rr h
  rcases h with h | h
  · exact a pins s σ H xs us Q I rr h
  · exact b pins s σ H xs us Q I rr h
theorem pe_bi {f : Bi} {t : TA} {p : Pos} (hc : X.calm = true) (gd : X.A.guards = some []) (hu : X.A.units + 65 < cLine) (hs : f.served = true) (hg : Gl X f.name) (hm : X.mg f.name = none) (ha : PA X (a :: es) t) (hst : (a :: es).all notStar = true) : PE X (.Call (.Name f.name p) (a :: es) [] pos) (tCB (rBi X.K f) t) := by
  rw [List.all_cons, Bool.and_eq_true] at hst
  have h1 := star_cons (es := es) (env := X.env) hst.1
  have h2 := back_any (pos := pos) (env := X.env) hst.2
  cases f with
  | len => exact pe_callB call_len hg hm PySem.boot_len ha (by decide) (by decide) h1 h2
  | abs => exact pe_callB call_abs hg hm (by decide +kernel) ha (by decide) (by decide) h1 h2
  | tuple => exact pe_callTy call_tuple_of hg hm (by decide +kernel) ha (by decide) (by decide) h1 h2
  | list => exact pe_callTy call_list_of hg hm (by decide +kernel) ha (by decide) (by decide) h1 h2
  | all => exact pe_callB (cr_all hc) hg hm (by decide +kernel) ha (by decide) (by decide) h1 h2
  | any => exact pe_callB (cr_any hc) hg hm (by decide +kernel) ha (by decide) (by decide) h1 h2
  | str => exact pe_callTy (cr_or call_str_int SkE.call_str_str) hg hm (by decide +kernel) ha (by decide) (by decide) h1 h2
  | repr => exact pe_callB (call_show gd hu) hg hm (by decide +kernel) ha (by decide) (by decide) h1 h2
  | sum => exact pe_callB (cr_sum hc) hg hm (by decide +kernel) ha (by decide) (by decide) h1 h2
  | int => exact pe_callTy (cr_or call_int1 call_int_str) hg hm (by decide +kernel) ha (by decide) (by decide) h1 h2
  | max => exact pe_callB (call_max2 hc) hg hm (by decide +kernel) ha (by decide) (by decide) h1 h2
  | min => exact pe_callB (cr_or (call_min2 hc) (cr_min hc)) hg hm (by decide +kernel) ha (by decide) (by decide) h1 h2
  | _ => cases hs
theorem asBls_reps {K : PySem.W.Frag} {Z : ZS} {H : Hp} : ∀ {xs : List SV} {bs : List Bool} {vs : List V}, asBls xs = some bs → Reps K Z H xs vs → vs = bs.map V.bl
  | [], _, _, e, r => by simp only [asBls] at e; cases e; rw [r.nil_inv]; rfl
  | .bl b :: xs, _, _, e, r => by
    obtain ⟨v, vr, ev, h1, h2⟩ := r.cons_inv
    simp only [asBls] at e
    obtain ⟨bs, e1, e2⟩ := Option.map_eq_some_iff.mp e
    subst e2 ev
    have hv : v = .bl b := by simpa only [Rep] using h1
    rw [asBls_reps e1 h2, hv]; rfl
  | .non :: _, _, _, e, _ => by simp only [asBls] at e; cases e
  | .int _ :: _, _, _, e, _ => by simp only [asBls] at e; cases e
  | .str _ :: _, _, _, e, _ => by simp only [asBls] at e; cases e
  | .tup _ :: _, _, _, e, _ => by simp only [asBls] at e; cases e
  | .frz _ :: _, _, _, e, _ => by simp only [asBls] at e; cases e
  | .own _ :: _, _, _, e, _ => by simp only [asBls] at e; cases e
  | .ownD _ :: _, _, _, e, _ => by simp only [asBls] at e; cases e
  | .ref _ :: _, _, _, e, _ => by simp only [asBls] at e; cases e
  | .loc _ :: _, _, _, e, _ => by simp only [asBls] at e; cases e
  | .ty _ :: _, _, _, e, _ => by simp only [asBls] at e; cases e
  | .lkd _ :: _, _, _, e, _ => by simp only [asBls] at e; cases e
theorem asInts_reps {K : PySem.W.Frag} {Z : ZS} {H : Hp} : ∀ {xs : List SV} {bs : List Int} {vs : List V}, asInts xs = some bs → Reps K Z H xs vs → vs = bs.map V.int
  | [], _, _, e, r => by simp only [asInts] at e; cases e; rw [r.nil_inv]; rfl
  | .int b :: xs, _, _, e, r => by
    obtain ⟨v, vr, ev, h1, h2⟩ := r.cons_inv
    simp only [asInts] at e
    obtain ⟨bs, e1, e2⟩ := Option.map_eq_some_iff.mp e
    subst e2 ev
    have hv : v = .int b := by simpa only [Rep] using h1
    rw [asInts_reps e1 h2, hv]; rfl
  | .non :: _, _, _, e, _ => by simp only [asInts] at e; cases e
  | .bl _ :: _, _, _, e, _ => by simp only [asInts] at e; cases e
  | .str _ :: _, _, _, e, _ => by simp only [asInts] at e; cases e
  | .tup _ :: _, _, _, e, _ => by simp only [asInts] at e; cases e
  | .frz _ :: _, _, _, e, _ => by simp only [asInts] at e; cases e
  | .own _ :: _, _, _, e, _ => by simp only [asInts] at e; cases e
  | .ownD _ :: _, _, _, e, _ => by simp only [asInts] at e; cases e
  | .ref _ :: _, _, _, e, _ => by simp only [asInts] at e; cases e
  | .loc _ :: _, _, _, e, _ => by simp only [asInts] at e; cases e
  | .ty _ :: _, _, _, e, _ => by simp only [asInts] at e; cases e
  | .lkd _ :: _, _, _, e, _ => by simp only [asInts] at e; cases e
theorem paired1 {α β : Type} {P : α → β → Prop} {x : α} {ys : List β} (p : Paired P [x] ys) : ∃ y, ys = [y] ∧ P x y := by
  cases p with
  | cons a b => cases b; exact ⟨_, rfl, a⟩
theorem paired2 {α β : Type} {P : α → β → Prop} {x y : α} {zs : List β} (p : Paired P [x, y] zs) : ∃ z w, zs = [z, w] ∧ P x z ∧ P y w := by
  cases p with
  | cons a b =>
    cases b with
    | cons c d => cases d; exact ⟨_, _, rfl, a, c⟩
theorem bi_ok {K : PySem.W.Frag} {σ : L2.St} {H H0 : Hp} {δ0 δ : SSt} {h0 h : SHp} {Z0 Z : ZS} {f : Bi} {rs : List SV} {vs : List V} {C : SV → Prop} {Q : VK} (A : Aft K Y σ δ0 h0 H0 Z0 δ h H Z) (ps : Paired (PRep K σ Z H) rs vs) (w : biS f rs δ h C)
    (fn : ∀ d v H' Z', C d → Aft K Y σ δ0 h0 H0 Z0 δ h H' Z' → RRep K Y σ H0 δ h Z' H' d v → Q v H') : rBi K f vs H Q := by
  cases f with
  | len =>
    simp only [biS] at w
    split at w
    · rename_i z
      obtain ⟨v, rfl, p⟩ := paired1 ps
      rw [p.str]
      exact ⟨_, _, rfl, ⟨w.1, rfl⟩, fn _ _ _ _ w.2 A (.of (by simp only [Rep]))⟩
    · obtain ⟨k, ys, ev, q⟩ := w
      obtain ⟨v, rfl, p⟩ := paired1 ps
      obtain ⟨a, us, ex, rr, z⟩ := view_ok A.rel p ev
      subst ex
      refine ⟨.ref a, us.length, rfl, ?_, ?_⟩
      · rcases z with ⟨_, z⟩ | ⟨_, z, _⟩
        · exact .inr ⟨us, z, rfl⟩
        · exact .inl ⟨us, z, rfl⟩
      · rw [rr.length]
        exact fn _ _ _ _ q A (.of (by simp only [Rep]))
    · exact w.elim
  | abs =>
    obtain ⟨i, rfl, q⟩ := w
    obtain ⟨v, rfl, p⟩ := paired1 ps
    rw [p.int]
    exact ⟨i, rfl, fn _ _ _ _ q A (.of (by simp only [Rep]))⟩
  | tuple =>
    obtain ⟨x, k, ys, rfl, ev, q⟩ := w
    obtain ⟨v, rfl, p⟩ := paired1 ps
    obtain ⟨a, us, ex, rr, z⟩ := view_ok A.rel p ev
    subst ex
    refine ⟨a, us, rfl, ?_⟩
    rcases z with ⟨_, z⟩ | ⟨_, z, _⟩
    · exact .inr ⟨z, fn _ _ _ _ q A (.of (by simp only [Rep]; exact ⟨a, us, rfl, z, rr⟩))⟩
    · refine .inl ⟨z, fun l n => ?_⟩
      obtain ⟨B, q2⟩ := A.tup_new rr n
      exact fn _ _ _ _ q B q2
  | list =>
    obtain ⟨x, k, ys, rfl, ev, q⟩ := w
    obtain ⟨v, rfl, p⟩ := paired1 ps
    obtain ⟨a, us, ex, rr, z⟩ := view_ok A.rel p ev
    subst ex
    refine ⟨a, us, rfl, ?_, fun l n => ?_⟩
    · rcases z with ⟨_, z⟩ | ⟨_, z, _⟩
      · exact .inr z
      · exact .inl z
    · obtain ⟨B, q2⟩ := A.own_new rr n
      exact fn _ _ _ _ q B q2
  | all =>
    obtain ⟨x, ys, bs, rfl, ev, eb, q⟩ := w
    obtain ⟨v, rfl, p⟩ := paired1 ps
    obtain ⟨a, us, ex, rr, z⟩ := view_ok A.rel p ev
    subst ex
    rcases z with ⟨z, _⟩ | ⟨_, z, _⟩
    · cases z
    · refine ⟨a, bs, rfl, ?_, fn _ _ _ _ q A (.of (by simp only [Rep]))⟩
      rw [← asBls_reps eb rr]; exact z
  | any =>
    obtain ⟨x, ys, bs, rfl, ev, eb, q⟩ := w
    obtain ⟨v, rfl, p⟩ := paired1 ps
    obtain ⟨a, us, ex, rr, z⟩ := view_ok A.rel p ev
    subst ex
    rcases z with ⟨z, _⟩ | ⟨_, z, _⟩
    · cases z
    · refine ⟨a, bs, rfl, ?_, fn _ _ _ _ q A (.of (by simp only [Rep]))⟩
      rw [← asBls_reps eb rr]; exact z
  | int =>
    simp only [biS] at w
    split at w
    · obtain ⟨n, e1, e2, q⟩ := w
      obtain ⟨v, rfl, p⟩ := paired1 ps
      rw [p.str]
      exact .inr ⟨_, n, rfl, e1, e2, fn _ _ _ _ q A (.of (by simp only [Rep]))⟩
    · rcases w with ⟨i, rfl, q⟩ | ⟨k, rfl, q⟩
      · obtain ⟨v, rfl, p⟩ := paired1 ps
        rw [p.int]
        exact .inl (.inl ⟨i, rfl, fn _ _ _ _ q A (.of (by simp only [Rep]))⟩)
      · obtain ⟨v, rfl, p⟩ := paired1 ps
        rw [p.bl]
        exact .inl (.inr ⟨k, rfl, fn _ _ _ _ q A (.of (by simp only [Rep]))⟩)
  | str =>
    simp only [biS] at w
    split at w
    · obtain ⟨v, rfl, p⟩ := paired1 ps
      rw [p.int]
      exact .inl ⟨_, rfl, w.1, fn _ _ _ _ w.2 A (.of (by simp only [Rep]))⟩
    · obtain ⟨v, rfl, p⟩ := paired1 ps
      rw [p.str]
      exact .inr ⟨_, rfl, fn _ _ _ _ w A (.of (by simp only [Rep]))⟩
    · exact w.elim
  | repr =>
    obtain ⟨x, k, ys, ds, rfl, ev, ed, s1, s2, s3, s4, q⟩ := w
    obtain ⟨v, rfl, p⟩ := paired1 ps
    obtain ⟨a, us, ex, rr, z⟩ := view_ok A.rel p ev
    have dp : Dp K H v (dSeq ds k) := by
      refine pdV_ok A.rel p ?_
      unfold pdV
      rw [ev]
      cases k <;> simp [ed, dSeq]
    subst ex
    exact ⟨a, _, rfl, dp, s1, s2, s3, s4, fn _ _ _ _ q A (.of (by simp only [Rep]))⟩
  | sum =>
    obtain ⟨x, ys, ns, rfl, ev, en, q⟩ := w
    obtain ⟨v, rfl, p⟩ := paired1 ps
    obtain ⟨a, us, ex, rr, z⟩ := view_ok A.rel p ev
    subst ex
    rcases z with ⟨z, _⟩ | ⟨_, z, _⟩
    · cases z
    · refine ⟨a, ns, rfl, ?_, fn _ _ _ _ q A (.of (by simp only [Rep]))⟩
      rw [← asInts_reps en rr]; exact z
  | max =>
    obtain ⟨i, j, rfl, q⟩ := w
    obtain ⟨v, u, rfl, p1, p2⟩ := paired2 ps
    rw [p1.int, p2.int]
    exact ⟨i, j, rfl, fn _ _ _ _ q A (.of (by simp only [Rep]))⟩
  | min =>
    rcases w with ⟨i, j, rfl, q⟩ | ⟨x, ys, ns, rfl, ev, en, hl, q⟩
    · obtain ⟨v, u, rfl, p1, p2⟩ := paired2 ps
      rw [p1.int, p2.int]
      exact .inl ⟨i, j, rfl, fn _ _ _ _ q A (.of (by simp only [Rep]))⟩
    · obtain ⟨v, rfl, p⟩ := paired1 ps
      obtain ⟨a, us, ex, rr, z⟩ := view_ok A.rel p ev
      subst ex
      rcases z with ⟨z, _⟩ | ⟨_, z, _⟩
      · cases z
      · refine .inr ⟨a, ns, rfl, ?_, hl, fun m hm hy => fn _ _ _ _ (q m hm hy) A (.of (by simp only [Rep]))⟩
        rw [← asInts_reps en rr]; exact z
  | _ => exact w.elim
theorem se_bi {f : Bi} {p : Pos} (hc : X.calm = true) (gd : X.A.guards = some []) (hu : X.A.units + 65 < cLine) (hs : f.served = true) (hg : Gl X f.name) (hm : X.mg f.name = none) (ha : PA X (a :: es) (tOpL X.K Y G ss)) (hst : (a :: es).all notStar = true) : PE X (.Call (.Name f.name p) (a :: es) [] pos) (tE X.K Y G (.bi f ss)) := by
  refine PE.imp (pe_bi hc gd hu hs hg hm ha hst) fun σ H Q ⟨δ, h, Z, R, rel, w, fn⟩ => ?_
  simp only [wpE] at w
  exact ⟨δ, h, Z, _, rel, w, fun rs δ1 h1 vs H1 Z1 q A ps => bi_ok A ps q fun d v H2 Z2 q2 B rr => fn _ _ _ _ _ _ q2 B rr⟩

/-! ### isinstance -/
def tyOk : String → Bool
  | "list" | "tuple" | "bool" | "int" | "str" => true
  | _ => false
theorem isi_ty {K : PySem.W.Frag} {σ : L2.St} {H : Hp} {Z : ZS} {δ : SSt} {h : SHp} {r : SV} {v : V} {t : String} (rel : Rel K Y Z δ h σ H) (p : PRep K σ Z H r v) (e : isiS r δ h = some t) : TyX K H v (.type t) ∧ (t = "NoneType" ∨ t = "bool" ∨ t = "int" ∨ t = "str" ∨ t = "tuple" ∨ t = "list") := by
  have vi : ∀ {k : Bool} {xs : List SV}, view δ h r = some (k, xs) → (match k with | true => some "tuple" | false => some "list") = some t → TyX K H v (.type t) ∧ (t = "NoneType" ∨ t = "bool" ∨ t = "int" ∨ t = "str" ∨ t = "tuple" ∨ t = "list") := fun {k xs} ev et => by
    obtain ⟨a, us, ex, rr, z⟩ := view_ok rel p ev
    subst ex
    rcases z with ⟨rfl, z⟩ | ⟨rfl, z, _⟩
    · cases et
      refine ⟨?_, by simp⟩
      rcases z with (z | ⟨o, z⟩) | ⟨o, its, n, z1, z2, _⟩
      · exact .base (.tup z)
      · exact .fTuple z
      · exact .kTuple z1 z2
    · cases et
      refine ⟨?_, by simp⟩
      rcases z with (z | ⟨o, z⟩) | ⟨o, its, n, z1, z2, _⟩
      · exact .base (.lst z)
      · exact .base (.frz z)
      · exact .kList z1 z2
  cases r with
  | non => cases e; rw [p.non]; exact ⟨.base .non, by simp⟩
  | bl b => cases e; rw [p.bl]; exact ⟨.base (.bl b), by simp⟩
  | int b => cases e; rw [p.int]; exact ⟨.base (.int b), by simp⟩
  | str b => cases e; rw [p.str]; exact ⟨.base (.str b), by simp⟩
  | _ =>
    simp only [isiS] at e
    split at e
    · exact vi (k := true) (by assumption) e
    · exact vi (k := false) (by assumption) e
    · cases e
theorem kit_all {K : PySem.W.Frag} {t ty : String} (ht : t = "NoneType" ∨ t = "bool" ∨ t = "int" ∨ t = "str" ∨ t = "tuple" ∨ t = "list") (hy : tyOk ty = true) : PySem.W.kitOne K (.type t) (.type ty) = some (isT t ty) := by
  have hy' : ty = "list" ∨ ty = "tuple" ∨ ty = "bool" ∨ ty = "int" ∨ ty = "str" := by
    unfold tyOk at hy
    split at hy <;> first | simp | cases hy
  refine kit_ty ?_
  rcases ht with rfl | rfl | rfl | rfl | rfl | rfl <;> rcases hy' with rfl | rfl | rfl | rfl | rfl <;> decide +kernel
theorem se_isi {ty : String} {p p2 : Pos} (hg : Gl X "isinstance") (hm : X.mg "isinstance" = none) (hg2 : Gl X (ty : Str)) (hm2 : X.mg (ty : Str) = none) (hy : tyOk ty = true) (ha : PE X a (tE X.K Y G sa)) (hst : notStar a = true) :
    PE X (.Call (.Name "isinstance" p) [a, .Name (ty : Str) p2] [] pos) (tE X.K Y G (.isi sa ty)) := by
  have hb : bootBuiltins (ty : Str) = some (.type ty) ∧ (ty : Str) ≠ "__name__" ∧ ((ty : Str) == ("__debug__" : Str)) = false := by
    unfold tyOk at hy
    split at hy <;> first | decide +kernel | cases hy
  have hT : PE X (.Name (ty : Str) p2) (tC (.ty ty)) := pe_bltn hg2 hm2 hb.1 rfl hb.2.1 hb.2.2
  refine PE.imp (pe_callB call_isi hg hm (by decide +kernel) (pa_cons ha (pa_cons hT pa_nil rfl) (star_cons hst)) (by decide) (by decide) (star_cons hst) (back_any (es := [.Name (ty : Str) p2]) rfl)) fun σ H Q ⟨δ, h, Z, R, rel, w, fn⟩ => ?_
  simp only [wpE] at w
  refine ⟨δ, h, Z, _, rel, w, fun r δ1 h1 v H1 Z1 ⟨t, et, q⟩ A rr => ?_⟩
  obtain ⟨Z1', A', p'⟩ := A.opd rr
  obtain ⟨tx, ht⟩ := isi_ty A'.rel p' et
  exact ⟨v, .ty ty, .type t, .type ty, isT t ty, rfl, .ty ty, tx, kit_all ht hy, fn _ _ _ _ _ _ q A' (.of (by simp only [Rep]))⟩
end
end SL
/-! S9: writes; what is walked; comprehensions. -/
namespace SL
open PySem PySem.Spec L2
section
variable {K : PySem.W.Frag} {Y : Ey} {σ : L2.St} {δ δ0 : SSt} {h h0 : SHp} {H H0 : Hp} {Z Z0 : ZS}
theorem keeps_write {a : Addr} {o : HO} (nz : ¬ Z a) (nt : ∀ xs, H a ≠ some (.tup xs)) (nf : ∀ b u, H a ≠ some (.frz b u)) : Keeps Z H Z (upd H a o) :=
  ⟨fun _ z => z, fun b _ z e => by rw [upd_ne (fun q => nz (by rw [← q]; exact z))]; exact e, fun b xs e => by rw [upd_ne (fun q => nt xs (by rw [← q]; exact e))]; exact e, fun b c u e => by rw [upd_ne (fun q => nf c u (by rw [← q]; exact e))]; exact e⟩
/-- an owned thing is changed at its place -/
theorem Aft.writeOwn (A : Aft K Y σ δ0 h0 H0 Z0 δ h H Z) {i : Nat} {d d' : SV} {a : Addr} {o : HO} (e : δ[i]? = some (some d)) (ow : d.isOwn = true) (s : σ[i]? = some (some (.ref a))) (new : OwnAt K Z (upd H a o) a d') :
    Aft K Y σ δ0 h0 H0 Z0 (δ.set i (some d')) h (upd H a o) Z := by
  obtain ⟨a', sa, oa, n1, n2, n3, n4⟩ := A.rel.ownSlot e ow
  rw [s] at sa
  cases sa
  obtain ⟨u, eu, t1, t2⟩ := oa.there
  have k : Keeps Z H Z (upd H a o) := keeps_write n2 (fun xs q => t1 xs (Option.some.inj (eu.symm.trans q))) (fun b w q => t2 b w (Option.some.inj (eu.symm.trans q)))
  have il : i < δ.length := (List.getElem?_eq_some_iff.mp e).1
  have tr : ∀ b, H b ≠ none → upd H a o b ≠ none := fun b q z => by
    by_cases ba : b = a
    · subst ba; rw [upd_same] at z; cases z
    · rw [upd_ne ba] at z; exact q z
  have sl : ∀ {j : Nat} {x : SV}, (δ.set i (some d'))[j]? = some (some x) → (j = i ∧ x = d') ∨ (j ≠ i ∧ δ[j]? = some (some x)) := fun {j x} q => by
    by_cases ij : i = j
    · subst ij
      rw [List.getElem?_set_self il] at q
      cases q
      exact .inl ⟨rfl, rfl⟩
    · rw [List.getElem?_set_ne ij] at q
      exact .inr ⟨fun z => ij z.symm, q⟩
  have o0 : Owns δ0 σ a := A.own a n4
  refine ⟨⟨⟨fun p c q => ?_, A.rel.hr.frz, fun b z => tr b (A.rel.hr.zin b z)⟩, ⟨⟨fun b w q n f => ?_, A.rel.ent.untr, fun b q => tr b (A.rel.ent.track b q), A.rel.ent.zmono, A.rel.ent.znew⟩, A.rel.ent.anc.trans k⟩, by rw [List.length_set]; exact A.rel.len, fun j x q => ?_, fun j m x y v q1 q2 o1 o2 s1 s2 => ?_⟩,
    ⟨fun b w q n f => ?_, A.fr.untr, fun b q => tr b (A.fr.track b q), A.fr.zmono, A.fr.znew⟩, fun b ⟨j, x, q, ox, sx⟩ => ?_⟩
  · exact (A.rel.hr.cell p c q).keeps k (upd_ne fun z => by rw [z, n1] at q; cases q)
  · rw [upd_ne fun z => by rw [z, n3] at q; cases q]
    exact A.rel.ent.keep b w q n f
  · rcases sl q with ⟨rfl, rfl⟩ | ⟨ne, q⟩
    · exact ⟨_, s, .inl ⟨new.is, a, rfl, new, n1, n2, n3⟩⟩
    · obtain ⟨v, ev, r⟩ := A.rel.slot j x q
      refine ⟨v, ev, ?_⟩
      rcases r with ⟨ox, b, eb, ob, r⟩ | ⟨ox, r⟩
      · refine .inl ⟨ox, b, eb, ob.keeps k (upd_ne fun z => ?_), r⟩
        subst z eb
        exact ne (A.rel.dist j i x d _ q e ox ow ev s)
      · exact .inr ⟨ox, r.keeps k⟩
  · rcases sl q1 with ⟨e1, e2⟩ | ⟨m1, q1⟩
    · rcases sl q2 with ⟨e3, e4⟩ | ⟨m2, q2⟩
      · rw [e1, e3]
      · rw [e1]
        exact A.rel.dist i m d y v e q2 ow o2 (by rw [← e1]; exact s1) s2
    · rcases sl q2 with ⟨e3, e4⟩ | ⟨m2, q2⟩
      · rw [e3]
        exact A.rel.dist j i x d v q1 e o1 ow s1 (by rw [← e3]; exact s2)
      · exact A.rel.dist j m x y v q1 q2 o1 o2 s1 s2
  · rw [upd_ne fun z => f (by rw [z]; exact o0)]
    exact A.fr.keep b w q n f
  · rcases sl q with ⟨rfl, rfl⟩ | ⟨_, q⟩
    · rw [s] at sx
      cases sx
      exact o0
    · exact A.own b ⟨j, x, q, ox, sx⟩
/-- a cell is changed -/
theorem Aft.writeCell (A : Aft K Y σ δ0 h0 H0 Z0 δ h H Z) {p : Addr} {c c' : Cell} {o : HO} (e : h p = some c) (new : CRep K Z (upd H p o) p c') : Aft K Y σ δ0 h0 H0 Z0 δ (h.set p c') (upd H p o) Z := by
  have cr := A.rel.hr.cell p c e
  obtain ⟨u, eu, t1, t2⟩ := cr.there
  have nz : ¬ Z p := fun z => by rw [A.rel.hr.frz p z] at e; cases e
  have k : Keeps Z H Z (upd H p o) := keeps_write nz (fun xs q => t1 xs (Option.some.inj (eu.symm.trans q))) (fun b w q => t2 b w (Option.some.inj (eu.symm.trans q)))
  have tr : ∀ b, H b ≠ none → upd H p o b ≠ none := fun b q z => by
    by_cases ba : b = p
    · subst ba; rw [upd_same] at z; cases z
    · rw [upd_ne ba] at z; exact q z
  have hp : h p ≠ none := by rw [e]; exact Option.some_ne_none _
  refine ⟨⟨⟨fun q d x => ?_, fun b z => ?_, fun b z => tr b (A.rel.hr.zin b z)⟩, ⟨⟨fun b w q n f => ?_, fun b q n f => ?_, fun b q => tr b (A.rel.ent.track b q), A.rel.ent.zmono, A.rel.ent.znew⟩, A.rel.ent.anc.trans k⟩, A.rel.len, fun j x q => ?_, A.rel.dist⟩,
    ⟨fun b w q n f => ?_, fun b q n f => ?_, fun b q => tr b (A.fr.track b q), A.fr.zmono, A.fr.znew⟩, A.own⟩
  · by_cases qp : q = p
    · subst qp
      rw [SHp.set_same] at x
      cases x
      exact new
    · rw [SHp.set_ne qp] at x
      exact (A.rel.hr.cell q d x).keeps k (upd_ne qp)
  · rw [SHp.set_ne fun q => nz (by rw [← q]; exact z)]
    exact A.rel.hr.frz b z
  · have e1 := A.rel.ent.keep b w q n f
    have e2 := A.rel.ent.untr b (by rw [q]; exact Option.some_ne_none _) n f
    rw [upd_ne fun z => hp (by rw [← z]; exact e2)]
    exact e1
  · have e2 := A.rel.ent.untr b q n f
    rw [SHp.set_ne fun z => hp (by rw [← z]; exact e2)]
    exact e2
  · obtain ⟨v, ev, r⟩ := A.rel.slot j x q
    refine ⟨v, ev, ?_⟩
    rcases r with ⟨ox, b, eb, ob, n1, r⟩ | ⟨ox, r⟩
    · have bp : b ≠ p := fun z => hp (by rw [← z]; exact n1)
      exact .inl ⟨ox, b, eb, ob.keeps k (upd_ne bp), by rw [SHp.set_ne bp]; exact n1, r⟩
    · exact .inr ⟨ox, r.keeps k⟩
  · have e1 := A.fr.keep b w q n f
    have e2 := A.fr.untr b (by rw [q]; exact Option.some_ne_none _) n f
    rw [upd_ne fun z => hp (by rw [← z]; exact e2)]
    exact e1
  · have e2 := A.fr.untr b q n f
    rw [SHp.set_ne fun z => hp (by rw [← z]; exact e2)]
    exact e2
end
section
variable {X : Cx} {Y : Ey} {G : Gm} {e a b c : Expr} {s sa sb sc : SE} {pos : Pos} {es : List Expr} {ss : List SE}
/-- not super() -/
def plainBase : Expr → Bool
  | .Call (.Name _ _) [] [] _ => false
  | _ => true
theorem base_ok {o : Expr} {m : Str} {env : Env} {w : Sem Value} (h : plainBase o = true) : attributeBase o m env w = w := by
  unfold attributeBase
  split
  · cases h
  · rfl
theorem few_ok {cpos : Pos} {env : Env} (h : (a :: es).all notStar = true) (hl : (a :: es).length < 30) : ((backTo cpos (starEach (a :: es) env)).all (fun x => !x.1) && (backToKw cpos (keywordEach [] env)).all (fun x => x.1.isSome)
      && decide ((a :: es).length + ([] : List Keyword).length + (if ([] : List Keyword).isEmpty then 0 else 1) < 30)) = true := by
  have h1 : ∀ {l : List Expr}, l.all notStar = true → (backTo cpos (starEach l env)).all (fun x => !x.1) = true := fun {l} => by
    induction l with
    | nil => intro _; rfl
    | cons e r ih =>
      intro h
      rw [List.all_cons, Bool.and_eq_true] at h
      rw [star_cons h.1]
      show ((!false) && (backTo cpos (starEach r env)).all (fun x => !x.1)) = true
      rw [ih h.2]; rfl
  rw [h1 h]
  simp only [List.length_nil, List.isEmpty_nil, if_true, Nat.add_zero]
  simp only [List.length_cons] at hl
  simp [keywordEach, backToKw, hl]
theorem se_append {apos : Pos} (ho : PE X a (tE X.K Y G sa)) (hb : PE X b (tE X.K Y G sb)) (h1 : plainBase a = true) (h2 : notStar b = true) (hline : (apos.endLine == pos.line) = true) : PE X (.Call (.Attribute a "append" apos) [b] [] pos) (tE X.K Y G (.mth .append sa [sb])) := by
  have st : [b].all notStar = true := by simp [h2]
  refine PE.imp (pe_bm PySem.F.plainAttrs_list PySem.F.slot_list_append PySem.F.type_list_append mt_append ho (pa_st_cons hb pa_st_nil h2) (base_ok h1) (few_ok st (by show 1 < 30; decide)) hline (star_cons h2) (back_any (es := []) rfl)) fun σ H Q ⟨δ, h, Z, R, rel, w, fn⟩ => ?_
  simp only [wpE] at w
  refine ⟨δ, h, Z, _, rel, w, fun r δ1 h1 v H1 Z1 q A rr => ?_⟩
  cases r with
  | loc i =>
    obtain ⟨⟨ys, ey⟩, q⟩ := q
    have sv : σ[i]? = some (some v) := by
      rcases rr with ⟨o, _⟩ | ⟨j, ej, sv⟩ | ⟨p, _⟩
      · cases o
      · cases ej; exact sv
      · cases p
    obtain ⟨p, sp, oa, _⟩ := A.rel.ownSlot ey rfl
    rw [sv] at sp
    cases sp
    obtain ⟨us, eu, _⟩ := oa
    refine ⟨.inl ⟨rfl, us, .inl (.inl eu)⟩, δ1, h1, Z1, _, A.rel, q, fun ds δ2 h2 vs H2 Z2 ⟨d, xs, ed, ex, hz, q2⟩ A2 rs => ?_⟩
    subst ed
    obtain ⟨w1, w2, e1, r1, r2⟩ := rs.cons_inv
    have e2 := r2.nil_inv
    subst e2 e1
    have B := A.trans A2
    obtain ⟨p', sp', oa2, n1, n2, n3, n4⟩ := B.rel.ownSlot ex rfl
    rw [sv] at sp'
    cases sp'
    obtain ⟨us2, eu2, ru2⟩ := id oa2
    have k : Keeps Z2 H2 Z2 (upd H2 p (.lst (us2 ++ [w1]))) := keeps_write n2 (fun xs q => by rw [eu2] at q; cases q) (fun b w q => by rw [eu2] at q; cases q)
    have C := B.writeOwn (d' := .own (xs ++ [d])) (o := .lst (us2 ++ [w1])) ex rfl sv ⟨us2 ++ [w1], upd_same, (ru2.append (.cons r1 .nil)).keeps k⟩
    exact ⟨p, us2, w1, rfl, rfl, eu2, by rw [ru2.length]; exact hz, fn _ _ _ _ _ _ q2 C (.of (by simp only [Rep]))⟩
  | ref p =>
    obtain ⟨⟨ys, ey⟩, q⟩ := q
    have sv : v = .ref p := by
      rcases rr with ⟨o, _⟩ | ⟨j, ej, sv⟩ | ⟨_, q⟩
      · cases o
      · cases ej
      · simpa only [Rep] using q
    subst sv
    obtain ⟨us, eu, _⟩ := A.rel.hr.cell p _ ey
    refine ⟨.inl ⟨rfl, us, .inl (.inl eu)⟩, δ1, h1, Z1, _, A.rel, q, fun ds δ2 h2 vs H2 Z2 ⟨d, xs, ed, ex, hz, q2⟩ A2 rs => ?_⟩
    subst ed
    obtain ⟨w1, w2, e1, r1, r2⟩ := rs.cons_inv
    have e2 := r2.nil_inv
    subst e2 e1
    have B := A.trans A2
    obtain ⟨us2, eu2, ru2⟩ := B.rel.hr.cell p _ ex
    have nz : ¬ Z2 p := fun z => by rw [B.rel.hr.frz p z] at ex; cases ex
    have k : Keeps Z2 H2 Z2 (upd H2 p (.lst (us2 ++ [w1]))) := keeps_write nz (fun xs q => by rw [eu2] at q; cases q) (fun b w q => by rw [eu2] at q; cases q)
    have C := B.writeCell (c' := .lst (xs ++ [d])) (o := .lst (us2 ++ [w1])) ex ⟨us2 ++ [w1], upd_same, (ru2.append (.cons r1 .nil)).keeps k⟩
    exact ⟨p, us2, w1, rfl, rfl, eu2, by rw [ru2.length]; exact hz, fn _ _ _ _ _ _ q2 C (.of (by simp only [Rep]))⟩
  | _ => exact q.elim
theorem se_drp {i : Nat} (ha : PE X a (tE X.K Y G sa)) : PE X a (tE X.K Y G (.drp i sa)) := by
  refine PE.imp ha fun σ H Q ⟨δ, h, Z, R, rel, w, fn⟩ => ?_
  simp only [wpE] at w
  refine ⟨δ, h, Z, _, rel, w, fun r δ1 h1 v H1 Z1 ⟨p, _, q⟩ A rr => ?_⟩
  refine fn _ _ _ _ _ _ q (A.drop p) ?_
  rcases rr with ⟨o, b, eb, oa, q1, q2⟩ | rr
  · refine .inl ⟨o, b, eb, oa, ?_, q2⟩
    by_cases ba : b = p
    · subst ba; exact SHp.del_same
    · rw [SHp.del_ne ba]; exact q1
  · exact .inr rr
theorem se_fz (ha : PE X a (tE X.K Y G sa)) : PE X a (tE X.K Y G (.fz sa)) := by
  refine PE.imp ha fun σ H Q ⟨δ, h, Z, R, rel, w, fn⟩ => ?_
  simp only [wpE] at w
  refine ⟨δ, h, Z, _, rel, w, fun r δ1 h1 v H1 Z1 q A rr => ?_⟩
  obtain ⟨r', δ2, Z2, q2, A2, p⟩ := A.stow rr q
  exact fn _ _ _ _ _ _ q2 A2 (.of p)
theorem se_box (ha : PE X a (tE X.K Y G sa)) : PE X a (tE X.K Y G (.box sa)) := by
  refine PE.imp ha fun σ H Q ⟨δ, h, Z, R, rel, w, fn⟩ => ?_
  simp only [wpE] at w
  refine ⟨δ, h, Z, _, rel, w, fun r δ1 h1 v H1 Z1 q A rr => ?_⟩
  obtain ⟨r', b, δ2, h2, q2, A2, p, _, _⟩ := A.boxS rr q
  exact fn _ _ _ _ _ _ q2 A2 (.of p)
end
end SL
/-! S9m: more methods of lists: extend, pop, clear. -/
namespace SL
open PySem PySem.Spec L2
section
variable {X : Cx} {Y : Ey} {G : Gm} {e a b c : Expr} {s sa sb sc : SE} {pos : Pos} {es : List Expr} {ss : List SE}
/-- an owned list of slot i stands at p -/
theorem loc_at {K : PySem.W.Frag} {σ : L2.St} {Hs : Hp} {δ : SSt} {h : SHp} {Z : ZS} {H : Hp} {i : Nat} {v : V} {ys : List SV} (R : Rel K Y Z δ h σ H) (rr : RRep K Y σ Hs δ h Z H (.loc i) v) (e : δ[i]? = some (some (.own ys))) :
    ∃ p us, v = .ref p ∧ σ[i]? = some (some (.ref p)) ∧ H p = some (.lst us) ∧ Reps K Z H ys us ∧ ¬ Z p := by
  have sv : σ[i]? = some (some v) := by
    rcases rr with ⟨o, _⟩ | ⟨j, ej, sv⟩ | ⟨p, _⟩
    · cases o
    · cases ej; exact sv
    · cases p
  obtain ⟨p, sp, ⟨us, eu, ru⟩, _, nz, _⟩ := R.ownSlot e rfl
  rw [sv] at sp
  cases sp
  exact ⟨p, us, rfl, sv, eu, ru, nz⟩
/-- the slot's list is another one -/
theorem write_loc {K : PySem.W.Frag} {σ : L2.St} {H H0 : Hp} {δ0 δ : SSt} {h0 h : SHp} {Z0 Z : ZS} (A : Aft K Y σ δ0 h0 H0 Z0 δ h H Z) {i : Nat} {p : Addr} {ys zs : List SV} {us ws : List V} (e : δ[i]? = some (some (.own ys))) (s : σ[i]? = some (some (.ref p))) (eu : H p = some (.lst us)) (nz : ¬ Z p) (r : Reps K Z H zs ws) :
    Aft K Y σ δ0 h0 H0 Z0 (δ.set i (some (.own zs))) h (upd H p (.lst ws)) Z ∧ Keeps Z H Z (upd H p (.lst ws)) := by
  have k : Keeps Z H Z (upd H p (.lst ws)) := keeps_write nz (fun xs q => by rw [eu] at q; cases q) (fun b w q => by rw [eu] at q; cases q)
  exact ⟨A.writeOwn (d' := .own zs) (o := .lst ws) e rfl s ⟨ws, upd_same, r.keeps k⟩, k⟩
theorem se_extend {apos : Pos} (ho : PE X a (tE X.K Y G sa)) (hb : PE X b (tE X.K Y G sb)) (h1 : plainBase a = true) (h2 : notStar b = true) (hline : (apos.endLine == pos.line) = true) : PE X (.Call (.Attribute a "extend" apos) [b] [] pos) (tE X.K Y G (.mth .extend sa [sb])) := by
  refine PE.imp (pe_bm PySem.F.plainAttrs_list PySem.F.slot_list_extend PySem.F.type_list_extend mt_extend ho (pa_st_cons hb pa_st_nil h2) (base_ok h1) (few_ok (by simp [h2]) (by show 1 < 30; decide)) hline (star_cons h2) (back_any (es := []) rfl)) fun σ H Q ⟨δ, h, Z, R, rel, w, fn⟩ => ?_
  simp only [wpE] at w
  refine ⟨δ, h, Z, _, rel, w, fun r δ1 h1 v H1 Z1 q A rr => ?_⟩
  cases r with
  | loc i =>
    obtain ⟨⟨ys, ey⟩, q⟩ := q
    obtain ⟨p, us, rfl, sv, eu, _, _⟩ := loc_at A.rel rr ey
    refine ⟨.inl ⟨rfl, us, .inl (.inl eu)⟩, δ1, h1, Z1, _, A.rel, q, fun ds δ2 h2 vs H2 Z2 ⟨xs, zs, ed, ex, hz, q2⟩ A2 rs => ?_⟩
    subst ed
    obtain ⟨w1, w2, e1, r1, r2⟩ := rs.cons_inv
    have e2 := r2.nil_inv
    subst e2 e1
    have B := A.trans A2
    obtain ⟨p', us2, e3, sv2, eu2, ru2, nz2⟩ := loc_at (Hs := H) (v := .ref p) B.rel (.inr (.inl ⟨i, rfl, sv⟩)) ex
    cases e3
    obtain ⟨bp, ws, e4, ⟨eb, _⟩, rz⟩ := (by simpa only [Rep] using r1 : ∃ a vs, _ ∧ _ ∧ _)
    subst e4
    obtain ⟨C, _⟩ := write_loc B (zs := xs ++ zs) (ws := us2 ++ ws) ex sv2 eu2 nz2 (ru2.append rz)
    exact ⟨p, bp, us2, ws, rfl, rfl, eu2, eb, by rw [ru2.length, rz.length]; exact hz, fn _ _ _ _ _ _ q2 C (.of (by simp only [Rep]))⟩
  | _ => exact q.elim
theorem reps_last {K : PySem.W.Frag} {Z : ZS} {H : Hp} {xs : List SV} {us : List V} (r : Reps K Z H xs us) : Reps K Z H xs.dropLast us.dropLast := by
  rw [List.dropLast_eq_take, List.dropLast_eq_take, r.length]
  exact r.take _
theorem reps_erase {K : PySem.W.Frag} {Z : ZS} {H : Hp} {xs : List SV} {us : List V} (r : Reps K Z H xs us) (j : Nat) : Reps K Z H (xs.eraseIdx j) (us.eraseIdx j) := by
  rw [List.eraseIdx_eq_take_drop_succ, List.eraseIdx_eq_take_drop_succ]
  exact (r.take _).append (r.drop _)
theorem se_pop0 {apos : Pos} (ho : PE X a (tE X.K Y G sa)) (h1 : plainBase a = true) (hline : (apos.endLine == pos.line) = true) : PE X (.Call (.Attribute a "pop" apos) [] [] pos) (tE X.K Y G (.mth .pop sa [])) := by
  refine PE.imp (pe_bm0 PySem.F.plainAttrs_list PySem.F.slot_list_pop PySem.F.type_list_pop mt_pop ho (base_ok h1) hline) fun σ H Q ⟨δ, h, Z, R, rel, w, fn⟩ => ?_
  simp only [wpE] at w
  refine ⟨δ, h, Z, _, rel, w, fun r δ1 h1 v H1 Z1 q A rr => ?_⟩
  cases r with
  | loc i =>
    obtain ⟨_, xs, d, ex, ed, q⟩ := q
    obtain ⟨p, us, rfl, sv, eu, ru, nz⟩ := loc_at A.rel rr ex
    obtain ⟨y, ely, ry⟩ := ru.get ed
    obtain ⟨C, k⟩ := write_loc A (zs := xs.dropLast) (ws := us.dropLast) ex sv eu nz (reps_last ru)
    exact ⟨.inl ⟨rfl, us, .inl (.inl eu)⟩, p, us, y, rfl, rfl, eu, by rw [ru.length]; exact ely, fn _ _ _ _ _ _ q C (.of (ry.keeps k))⟩
  | _ => exact q.elim
theorem se_pop1 {apos : Pos} (ho : PE X a (tE X.K Y G sa)) (hb : PE X b (tE X.K Y G sb)) (h1 : plainBase a = true) (h2 : notStar b = true) (hline : (apos.endLine == pos.line) = true) : PE X (.Call (.Attribute a "pop" apos) [b] [] pos) (tE X.K Y G (.mth .popAt sa [sb])) := by
  refine PE.imp (pe_bm PySem.F.plainAttrs_list PySem.F.slot_list_pop PySem.F.type_list_pop mt_popAt ho (pa_op_cons hb pa_op_nil h2) (base_ok h1) (few_ok (by simp [h2]) (by show 1 < 30; decide)) hline (star_cons h2) (back_any (es := []) rfl)) fun σ H Q ⟨δ, h, Z, R, rel, w, fn⟩ => ?_
  simp only [wpE] at w
  refine ⟨δ, h, Z, _, rel, w, fun r δ1 h1 v H1 Z1 q A rr => ?_⟩
  cases r with
  | loc i =>
    obtain ⟨⟨ys, ey⟩, q⟩ := q
    obtain ⟨p, us, rfl, sv, eu, _, _⟩ := loc_at A.rel rr ey
    refine ⟨.inl ⟨rfl, us, .inl (.inl eu)⟩, δ1, h1, Z1, _, A.rel, q, fun ds δ2 h2 vs H2 Z2 ⟨xs, kk, j, d, ex, ed', k1, k2, ej, ed, q3⟩ A2 ps => ?_⟩
    subst ed'
    have B := A.trans A2
    obtain ⟨p', us2, e3, sv2, eu2, ru2, nz2⟩ := loc_at (Hs := H) (v := .ref p) B.rel (.inr (.inl ⟨i, rfl, sv⟩)) ex
    cases e3
    obtain ⟨kv, rfl, pk⟩ := paired1 ps
    obtain ⟨y, ely, ry⟩ := ru2.get ed
    obtain ⟨C, k⟩ := write_loc B (zs := xs.eraseIdx j) (ws := us2.eraseIdx j) ex sv2 eu2 nz2 (reps_erase ru2 j)
    exact ⟨p, us2, kk, j, y, rfl, by rw [pk.int], eu2, k1, k2, by rw [ru2.length]; exact ej, ely, fn _ _ _ _ _ _ q3 C (.of (ry.keeps k))⟩
  | ref p =>
    obtain ⟨⟨ys, ey⟩, q⟩ := q
    have sv : v = .ref p := by
      rcases rr with ⟨o, _⟩ | ⟨j, ej, sv⟩ | ⟨_, q⟩
      · cases o
      · cases ej
      · simpa only [Rep] using q
    subst sv
    obtain ⟨us, eu, _⟩ := A.rel.hr.cell p _ ey
    refine ⟨.inl ⟨rfl, us, .inl (.inl eu)⟩, δ1, h1, Z1, _, A.rel, q, fun ds δ2 h2 vs H2 Z2 ⟨xs, kk, j, d, ex, ed', k1, k2, ej, ed, q3⟩ A2 ps => ?_⟩
    subst ed'
    have B := A.trans A2
    obtain ⟨us2, eu2, ru2⟩ := B.rel.hr.cell p _ ex
    obtain ⟨kv, rfl, pk⟩ := paired1 ps
    obtain ⟨y, ely, ry⟩ := ru2.get ed
    have nz : ¬ Z2 p := fun z => by rw [B.rel.hr.frz p z] at ex; cases ex
    have k : Keeps Z2 H2 Z2 (upd H2 p (.lst (us2.eraseIdx j))) := keeps_write nz (fun xs q => by rw [eu2] at q; cases q) (fun b w q => by rw [eu2] at q; cases q)
    have C := B.writeCell (c' := .lst (xs.eraseIdx j)) (o := .lst (us2.eraseIdx j)) ex ⟨us2.eraseIdx j, upd_same, (reps_erase ru2 j).keeps k⟩
    exact ⟨p, us2, kk, j, y, rfl, by rw [pk.int], eu2, k1, k2, by rw [ru2.length]; exact ej, ely, fn _ _ _ _ _ _ q3 C (.of (ry.keeps k))⟩
  | _ => exact q.elim
theorem se_index {apos : Pos} (ho : PE X a (tE X.K Y G sa)) (hb : PE X b (tE X.K Y G sb)) (h1 : plainBase a = true) (h2 : notStar b = true) (hline : (apos.endLine == pos.line) = true) : PE X (.Call (.Attribute a "index" apos) [b] [] pos) (tE X.K Y G (.mth .index sa [sb])) := by
  refine PE.imp (pe_bm PySem.F.plainAttrs_list PySem.F.slot_list_index PySem.F.type_list_index mt_index ho (pa_op_cons hb pa_op_nil h2) (base_ok h1) (few_ok (by simp [h2]) (by show 1 < 30; decide)) hline (star_cons h2) (back_any (es := []) rfl)) fun σ H Q ⟨δ, h, Z, R, rel, w, fn⟩ => ?_
  simp only [wpE] at w
  refine ⟨δ, h, Z, _, rel, w, fun r δ1 h1 v H1 Z1 q A rr => ?_⟩
  cases r with
  | loc i =>
    obtain ⟨⟨ys, ey⟩, q⟩ := q
    obtain ⟨p, us, rfl, sv, eu, _, _⟩ := loc_at A.rel rr ey
    refine ⟨.inl ⟨rfl, us, .inl (.inl eu)⟩, δ1, h1, Z1, _, A.rel, q, fun ds δ2 h2 vs H2 Z2 ⟨xs, ns, n, j, ex, ed, en, ej, no, q3⟩ A2 ps => ?_⟩
    subst ed
    have B := A.trans A2
    obtain ⟨p', us2, e3, sv2, eu2, ru2, nz2⟩ := loc_at (Hs := H) (v := .ref p) B.rel (.inr (.inl ⟨i, rfl, sv⟩)) ex
    cases e3
    obtain ⟨kv, rfl, pk⟩ := paired1 ps
    rw [pk.int]
    have eu3 := asInts_reps en ru2
    subst eu3
    refine ⟨p, _, .int n, j, .int n, rfl, rfl, .inl (.inl eu2), rfl, List.all_eq_true.mpr fun z hz => ?_, by rw [List.getElem?_map, ej]; rfl, by simp [eqV], fun m z' hm hz => ?_, fn _ _ _ _ _ _ q3 B (.of (by simp only [Rep]))⟩
    · obtain ⟨y, _, rfl⟩ := List.mem_map.mp hz
      rfl
    · rw [List.getElem?_map] at hz
      obtain ⟨y, hy, rfl⟩ := Option.map_eq_some_iff.mp hz
      have : y ≠ n := fun e => no m hm (by rw [hy, e])
      simp [eqV, this]
  | _ => exact q.elim
theorem se_clear {apos : Pos} (ho : PE X a (tE X.K Y G sa)) (h1 : plainBase a = true) (hline : (apos.endLine == pos.line) = true) : PE X (.Call (.Attribute a "clear" apos) [] [] pos) (tE X.K Y G (.mth .clear sa [])) := by
  refine PE.imp (pe_bm0 PySem.F.plainAttrs_list PySem.F.slot_list_clear PySem.F.type_list_clear mt_clear ho (base_ok h1) hline) fun σ H Q ⟨δ, h, Z, R, rel, w, fn⟩ => ?_
  simp only [wpE] at w
  refine ⟨δ, h, Z, _, rel, w, fun r δ1 h1 v H1 Z1 q A rr => ?_⟩
  cases r with
  | loc i =>
    obtain ⟨⟨ys, ey⟩, _, q⟩ := q
    obtain ⟨p, us, rfl, sv, eu, ru, nz⟩ := loc_at A.rel rr ey
    obtain ⟨C, k⟩ := write_loc A (zs := []) (ws := []) ey sv eu nz .nil
    exact ⟨.inl ⟨rfl, us, .inl (.inl eu)⟩, p, us, rfl, rfl, eu, fn _ _ _ _ _ _ q C (.of (by simp only [Rep]))⟩
  | ref p =>
    obtain ⟨⟨ys, ey⟩, _, q⟩ := q
    have sv : v = .ref p := by
      rcases rr with ⟨o, _⟩ | ⟨j, ej, sv⟩ | ⟨_, q⟩
      · cases o
      · cases ej
      · simpa only [Rep] using q
    subst sv
    obtain ⟨us, eu, ru⟩ := A.rel.hr.cell p _ ey
    have C := A.writeCell (c' := .lst []) (o := .lst []) ey ⟨[], upd_same, .nil⟩
    exact ⟨.inl ⟨rfl, us, .inl (.inl eu)⟩, p, us, rfl, rfl, eu, fn _ _ _ _ _ _ q C (.of (by simp only [Rep]))⟩
  | _ => exact q.elim
end
end SL
/-! S9z: zip and enumerate of lists and tuples, mixed. -/
namespace SL
open PySem PySem.Spec PyProof.Rows L2
/-- a list (false) or a tuple (true) to be read -/
def Sq2 (K : PySem.W.Frag) (k : Bool) (H : Hp) (a : Addr) (xs : List V) : Prop := match k with
  | true => SqT K H a xs
  | false => SqL K H a xs
def StepAt (k : Bool) (h : Heap) (it l : Addr) (i : Nat) : Prop := match k with
  | true => h.IsTupleIter it l i
  | false => h.IsListIter it l i
def SeqOf (k : Bool) (h : Heap) (l : Addr) (its : Array Value) : Prop := match k with
  | true => h.IsTuple l its
  | false => h.IsList l its
def itObj (k : Bool) (l : Addr) : Obj := match k with
  | true => { cls := .type "tuple_iterator", data := .fields #[.ref l, .int 0 0] }
  | false => { cls := .type "list_iterator", data := .fields #[.ref l, .int 0 0] }
theorem StepAt.at_ {k : Bool} {h h' : Heap} {it l : Addr} {i : Nat} (s : StepAt k h it l i) (f : ∀ o, h.get? it = some o → h'.get? it = some o) : StepAt k h' it l i := by
  cases k with
  | true => exact Heap.IsTupleIter.at s f
  | false => exact Heap.IsListIter.at s f
theorem StepAt.obj {k : Bool} {h : Heap} {it l : Addr} {i : Nat} (s : StepAt k h it l i) : ∃ o, h.get? it = some o ∧ ∀ v, o.data ≠ .cell v := by
  cases k with
  | true => obtain ⟨o, e, _, d⟩ := s; exact ⟨o, e, fun v q => by rw [d] at q; cases q⟩
  | false => obtain ⟨o, e, _, d⟩ := s; exact ⟨o, e, fun v q => by rw [d] at q; cases q⟩
theorem StepAt.start {k : Bool} {h : Heap} {it l : Addr} (e : h.get? it = some (itObj k l)) : StepAt k h it l 0 := by
  cases k with
  | true => exact ⟨_, e, rfl, rfl⟩
  | false => exact ⟨_, e, rfl, rfl⟩
theorem draw2 {prog : Program} {w : World} {A : Around} (hh : A.handled = none) (k : Bool) (it l : Addr) (hne : l ≠ it) (items : Array Value) :
    Draws prog w A it [it, l] items.size (fun i v => items[i]? = some v) (fun i h => StepAt k h it l i ∧ SeqOf k h l items) := by
  cases k with
  | true => exact Draws.tuple hh it l hne items
  | false => exact Draws.list hh it l hne items
theorem begin2 (k : Bool) (l : Addr) (items : Array Value) : Begins (.ref l) (itObj k l) (fun h => SeqOf k h l items) := by
  cases k with
  | true => exact begins_tuple l items
  | false => exact begins_list l items
theorem seq2 {X : Cx} {pins : List (Addr × Obj)} {σ : L2.St} {H : Hp} {s : Shared} {k : Bool} {a : Addr} {xs : List V} (I : Inv X pins σ H s) (h : Sq2 X.K k H a xs) : ∃ its : List Value, Vals xs its ∧ SeqOf k s.heap a its.toArray ∧ a < s.heap.objs.size := by
  cases k with
  | true =>
    obtain ⟨its, r, p, _⟩ := I.tuple h
    obtain ⟨o, e, _⟩ := id p
    exact ⟨its, r, p, Heap.lt_size e⟩
  | false =>
    obtain ⟨its, r, p, _⟩ := I.list h
    exact ⟨its, r, p.isList, p.lt⟩
theorem seq2_inj {X : Cx} {pins : List (Addr × Obj)} {σ : L2.St} {H : Hp} {s : Shared} {k : Bool} {a : Addr} {xs ys : List V} (I : Inv X pins σ H s) (h1 : Sq2 X.K k H a xs) (h2 : Sq2 X.K k H a ys) : xs = ys := by
  cases k with
  | true => exact I.tuple_inj h1 h2
  | false => exact I.list_inj h1 h2
/-- two sources side by side -/
def It2 (K : PySem.W.Frag) (k1 k2 : Bool) (a b : Addr) : It where
  go := fun i H => ∃ (us ws : List V) (u w : V), Sq2 K k1 H a us ∧ Sq2 K k2 H b ws ∧ us[i]? = some u ∧ ws[i]? = some w
  yld := fun i H v H' => ∃ T u w, v = .ref T ∧ H T = none ∧ H' = upd H T (.tup [u, w]) ∧ (∀ us, Sq2 K k1 H a us → us[i]? = some u) ∧ ∀ ws, Sq2 K k2 H b ws → ws[i]? = some w
  stop := fun i H => ∃ us ws : List V, Sq2 K k1 H a us ∧ Sq2 K k2 H b ws ∧ i ≤ us.length ∧ i ≤ ws.length ∧ (i = us.length ∨ i = ws.length)
/-- the cells that a zip turns -/
structure Apart5 (z TI TO i1 i2 a b : Addr) : Prop where
  sep : ZipSep2 z TI TO i1 i2 [i1, a] [i2, b]
  a1 : a ≠ i1
  b2 : b ≠ i2
theorem five {z TI TO i1 i2 c : Addr} {p : Addr → Prop} (hc : c ∈ [z, TI, TO, i1, i2]) (h1 : p z) (h2 : p TI) (h3 : p TO) (h4 : p i1) (h5 : p i2) : p c := by
  simp only [List.mem_cons, List.mem_nil_iff, or_false] at hc
  rcases hc with rfl | rfl | rfl | rfl | rfl <;> assumption
theorem turn2 {P : Program} {w : World} {K : PySem.W.Frag} {elts : List Expr} {kk : Nat} {tpos : Pos} {k1 k2 : Bool} {a b z TI TO i1 i2 : Addr} (D : Apart5 z TI TO i1 i2 a b) :
    Turn P w K (.Tuple elts kk tpos) (It2 K k1 k2 a b) [z, TI, TO, i1, i2] z (fun i h => IsZip h z TI TO .none ∧ IsTupOf2 h TI (.ref i1) (.ref i2) ∧ (∃ u v, IsTupOf2 h TO u v) ∧ StepAt k1 h i1 a i ∧ StepAt k2 h i2 b i) where
  mem := List.mem_cons_self
  obj := fun i h ⟨qz, qI, ⟨u, v, qO⟩, s1, s2⟩ c hc => five (p := fun c => ∃ o, h.get? c = some o ∧ ∀ v, o.data ≠ .cell v) hc ⟨_, qz, fun v q => nomatch q⟩ ⟨_, qI, fun v q => nomatch q⟩ ⟨_, qO, fun v q => nomatch q⟩ s1.obj s2.obj
  keep := fun i h h' ⟨qz, qI, ⟨u, v, qO⟩, s1, s2⟩ f => ⟨f z (by simp) _ qz, f TI (by simp) _ qI, ⟨u, v, f TO (by simp) _ qO⟩, s1.at_ (f i1 (by simp)), s2.at_ (f i2 (by simp))⟩
  item := by
    intro X eP ew eK cal i pins s σ H E I fp ⟨qz, qI, ⟨u0, v0, qO⟩, s1, s2⟩ ⟨us, ws, u, v, hu, hw, eu, ev⟩
    subst eP ew eK
    obtain ⟨its, r1, p1, _⟩ := seq2 I hu
    obtain ⟨jts, r2, p2, _⟩ := seq2 I hw
    obtain ⟨x, ex, rx⟩ := r1.get eu
    obtain ⟨y, ey, ry⟩ := r2.get ev
    have zl : z < s.heap.objs.size := Heap.lt_size qz
    have hd : X.A.in1.handled = none := I.ok.hd cal
    have l1 : i < its.toArray.size := by simp; exact (List.getElem?_eq_some_iff.mp ex).1
    have l2 : i < jts.toArray.size := by simp; exact (List.getElem?_eq_some_iff.mp ey).1
    refine wpAny_pyNext_zipD2_item D.sep (draw2 hd k1 i1 a D.a1 its.toArray) (draw2 hd k2 i2 b D.b2 jts.toArray) qz qI qO ⟨s1, p1⟩ ⟨s2, p2⟩ l1 l2 fun x1 y1 h1 tk e1 e2 qz1 qO1 t1 t2 qT sz kp => ?_
    have e1 : x1 = x := by
      have q : its.toArray[i]? = some x := by simpa using ex
      rw [e1] at q; exact Option.some.inj q
    have e2 : y1 = y := by
      have q : jts.toArray[i]? = some y := by simpa using ey
      rw [e2] at q; exact Option.some.inj q
    subst e1 e2
    refine ⟨_, rfl, wpAny_letOwnedTupleGo_zip (s := { s with heap := h1, toks := tk }) qz1 fun h2 qz2 sb => ?_⟩
    have zT : s.heap.objs.size ≠ z := Nat.ne_of_gt zl
    have lay : ObjOk X.prog X.w (upd H s.heap.objs.size (.tup [u, v])) h2 s.heap.objs.size (.tup [u, v]) := ⟨by show 2 ≤ sizeLine; decide, [x1, y1], .cons rx (.cons ry .nil), ⟨_, (sb.2 _ zT).trans qT, rfl, _, rfl⟩⟩
    have out : ∀ c, c ∉ [z, TI, TO, i1, i2] → c ≠ z ∧ c ≠ TI ∧ c ≠ TO ∧ c ≠ i1 ∧ c ≠ i2 := fun c n => by
      simpa only [List.mem_cons, List.mem_nil_iff, or_false, not_or] using n
    have J : Inv X pins σ (upd H s.heap.objs.size (.tup [u, v])) { s with heap := h2, toks := tk } := by
      refine I.turnedNew (ch := [z, TI, TO, i1, i2]) (fun c o n q => ?_) fp (Nat.le_refl _) lay
      obtain ⟨n1, n2, n3, n4, n5⟩ := out c n
      exact (sb.2 c n1).trans (kp c o n1 n3 n4 n5 q)
    have zi1 := D.sep.zi1
    have zi2 := D.sep.zi2
    refine ⟨.ref s.heap.objs.size, _, J, rfl, ⟨_, u, v, rfl, I.hok.fresh (Nat.le_refl _), rfl, fun us' hu' => by rw [seq2_inj I hu' hu]; exact eu, fun ws' hw' => by rw [seq2_inj I hw' hw]; exact ev⟩, ⟨qz2, ?_, ⟨x1, y1, (sb.2 _ D.sep.TOz).trans qO1⟩, ?_, ?_⟩, fun c hc => ?_⟩
    · exact (sb.2 _ D.sep.TIz).trans (kp _ _ D.sep.TIz D.sep.TITO D.sep.TIi1 D.sep.TIi2 qI)
    · exact t1.1.at_ fun o q => (sb.2 _ zi1.symm).trans q
    · exact t2.1.at_ fun o q => (sb.2 _ zi2.symm).trans q
    · obtain ⟨o1, q1, _⟩ := s1.obj
      obtain ⟨o2, q2, _⟩ := s2.obj
      have lt : c < s.heap.objs.size := five (p := fun c => c < s.heap.objs.size) hc zl (Heap.lt_size qI) (Heap.lt_size qO) (Heap.lt_size q1) (Heap.lt_size q2)
      rw [upd_ne (Nat.ne_of_lt lt)]
      exact (fp c hc).1
  done := by
    intro X eP ew eK cal i pins s σ H E I fp ⟨qz, qI, ⟨u0, v0, qO⟩, s1, s2⟩ ⟨us, ws, hu, hw, g1, g2, g3⟩
    subst eP ew eK
    obtain ⟨its, r1, p1, _⟩ := seq2 I hu
    obtain ⟨jts, r2, p2, _⟩ := seq2 I hw
    have hd : X.A.in1.handled = none := I.ok.hd cal
    have m1 := r1.length
    have m2 := r2.length
    refine wpAny_pyNext_zipD2_end (i := i) D.sep (draw2 hd k1 i1 a D.a1 its.toArray) (draw2 hd k2 i2 b D.b2 jts.toArray) qz qI qO ⟨s1, p1⟩ ⟨s2, p2⟩ (by simp; omega) (by simp; omega) (by simp; omega) fun h1 tk kp => ⟨rfl, ?_⟩
    refine I.turnedL (ch := [z, TI, TO, i1, i2]) (fun c o n q => ?_) fp
    obtain ⟨n1, n2, n3, n4, n5⟩ : c ≠ z ∧ c ≠ TI ∧ c ≠ TO ∧ c ≠ i1 ∧ c ≠ i2 := by simpa only [List.mem_cons, List.mem_nil_iff, or_false, not_or] using n
    exact kp c o n1 n3 n4 n5 q
  self := fun A i s Q E st h => wpAny_pyIter_zip st.1 h
def iZip2 (K : PySem.W.Frag) (ta : TA) : TI := fun σ H R => ta σ H fun vs H1 => ∃ a b k1 k2 us ws, vs = [.ref a, .ref b] ∧ Sq2 K k1 H1 a us ∧ Sq2 K k2 H1 b ws ∧ R (It2 K k1 k2 a b) H1
theorem pi_zip2 {X : Cx} {e1 e2 : Expr} {ta : TA} {p pos tpos : Pos} {elts : List Expr} {kk : Nat} (hg : Gl X "zip") (hm : X.mg "zip" = none) (ha : PA X [e1, e2] ta) (n1 : notStar e1 = true) (n2 : notStar e2 = true) :
    PI X (.Tuple elts kk tpos) (.Call (.Name "zip" p) [e1, e2] [] pos) (iZip2 X.K ta) := by
  refine ⟨fun pins s σ H R I h => Call_ (ld_blt I hg hm PyProof.Rows.boot_zip (PyProof.Rows.callWith_type1 (thn (ha.run pos pins s σ H _ I h) ?_) (star_cons n1) (back_any (es := [e2]) (by simp [n2]))))⟩
  rintro us s1 ⟨vs, H1, I1, r, a, b, k1, k2, xs, ys, rfl, hx, hy, q⟩
  obtain ⟨v1, vr, rfl⟩ : ∃ v1 vr, us = v1 :: vr := by cases r; exact ⟨_, _, rfl⟩
  cases r with
  | cons ra rr =>
    cases rr with
    | cons rb rn =>
      cases rn
      cases ra
      cases rb
      obtain ⟨its, _, p1, l1⟩ := seq2 I1 hx
      obtain ⟨jts, _, p2, l2⟩ := seq2 I1 hy
      refine zip_begins2 (begin2 k1 a its.toArray) (begin2 k2 b jts.toArray) p1 p2 fun h' qz qI qO o1 o2 sz kp => wpAny_pyIter_zip qz ?_
      have I2 : Inv X pins σ H1 { s1 with heap := h' } := I1.kept (t' := s1.toks) kp
      have sep : ZipSep2 (s1.heap.objs.size + 4) (s1.heap.objs.size + 2) (s1.heap.objs.size + 3) s1.heap.objs.size (s1.heap.objs.size + 1) [s1.heap.objs.size, a] [s1.heap.objs.size + 1, b] := zip_sep2 (fp1 := [a]) (fp2 := [b]) (fun c hc => by rw [List.mem_singleton] at hc; rw [hc]; exact l1) (fun c hc => by rw [List.mem_singleton] at hc; rw [hc]; exact l2)
      have na : a ≠ s1.heap.objs.size := Nat.ne_of_lt l1
      have nb : b ≠ s1.heap.objs.size + 1 := Nat.ne_of_lt (Nat.lt_succ_of_lt l2)
      refine ⟨_, [s1.heap.objs.size + 4, s1.heap.objs.size + 2, s1.heap.objs.size + 3, s1.heap.objs.size, s1.heap.objs.size + 1], _, _, H1, rfl, I2, turn2 ⟨sep, na, nb⟩, ⟨qz, qI, ⟨_, _, qO⟩, .start o1, .start o2⟩, fun c hc => ?_, q⟩
      have le : s1.heap.objs.size ≤ c := five (p := fun c => s1.heap.objs.size ≤ c) hc (Nat.le_add_right _ _) (Nat.le_add_right _ _) (Nat.le_add_right _ _) (Nat.le_refl _) (Nat.le_add_right _ _)
      exact I1.fpOk le (I1.hok.fresh le)
/-! ### enumerate -/
abbrev numObj (n : Addr) : Obj := { cls := .type "enumerate", data := .fields #[.none, .bool false, .ref n, rawInt 0, .none, .none] }
theorem numNew {v : Value} {o : Obj} {S : Heap → Prop} (B : Begins v o S) :
    Meets (Builtin.«enumerate.__new__» ⟨[.type "enumerate", v], []⟩) (fun _ R s => S s.heap ∧ R (.ok (.ret (.ref (s.heap.push o).objs.size))) { s with heap := (s.heap.push o).push (numObj s.heap.objs.size) }) := by
  refine .of_wp fun prog w A R s h => ?_
  obtain ⟨hp, gn, dr, tk, os⟩ := s
  have sub := sub_enumerate
  have it1 : ∀ {A' : Around} {E : Value → Shared → Prop} {Q : Value → Shared → Prop}, Q (.ref hp.objs.size) ⟨hp.push o, gn, dr, tk, os⟩ → wpAny (model prog w) A' (pyIter v) Q E ⟨hp, gn, dr, tk, os⟩ := fun q => B.iter prog w _ _ ⟨hp, gn, dr, tk, os⟩ _ h.1 q
  wp_walk using it1
  refine wpAny_stack_any fun stk => wpAny_pure ?_
  split
  · rename_i cc _ _ _ _ _
    cases (cc == Value.type "enumerate") <;> (wp_walk using it1; exact ⟨_, rfl, h.2⟩)
  · wp_walk using it1
    exact ⟨_, rfl, h.2⟩
theorem numCall {prog : Program} {w : World} {A : Around} {E : Value → Shared → Prop} {s : Shared} {v : Value} {o : Obj} {S : Heap → Prop} {Q : Value → Shared → Prop} (B : Begins v o S) (h1 : S s.heap)
    (q : ∀ h', IsEnum h' (s.heap.objs.size + 1) s.heap.objs.size 0 .none → h'.get? s.heap.objs.size = some o → (∀ c u, s.heap.get? c = some u → h'.get? c = some u) → Q (.ref (s.heap.objs.size + 1)) { s with heap := h' }) :
    wpAny (model prog w) A (call (.type "enumerate") [v]) Q E s := by
  refine callType_new F.called_enumerate (by decide) (F.typeCall_enumerate_1 _) (F.newCall_enumerate_1 _) (fun obj => F.args_object_init_2 obj _) F.entry_enumerate_new (numNew B) ⟨h1, ?_⟩
  have sz : (s.heap.push o).objs.size = s.heap.objs.size + 1 := Heap.size_push ..
  have ge := Heap.get?_push_size (s.heap.push o) (o := numObj s.heap.objs.size) rfl
  rw [sz] at ge
  have go : ((s.heap.push o).push (numObj s.heap.objs.size)).get? s.heap.objs.size = some o := Heap.get?_push_of_some _ (Heap.get?_push_size _ B.free)
  have fin := q _ ge go fun c u e => Heap.get?_push_of_some _ (Heap.get?_push_of_some _ e)
  show _ ∧ _
  rw [sz]
  exact ⟨⟨_, ge, rfl⟩, fin⟩
def ItN (K : PySem.W.Frag) (k : Bool) (a : Addr) : It where
  go := fun i H => ∃ (us : List V) (u : V), Sq2 K k H a us ∧ us[i]? = some u
  yld := fun i H v H' => ∃ T u, v = .ref T ∧ H T = none ∧ H' = upd H T (.tup [.int (i : Nat), u]) ∧ ∀ us, Sq2 K k H a us → us[i]? = some u
  stop := fun i H => ∃ us : List V, Sq2 K k H a us ∧ i = us.length
theorem turnN {P : Program} {w : World} {K : PySem.W.Frag} {elts : List Expr} {kk : Nat} {tpos : Pos} {k : Bool} {a e it : Addr} (ne : e ≠ it) (na : a ≠ it) (nea : e ≠ a) :
    Turn P w K (.Tuple elts kk tpos) (ItN K k a) [e, it] e (fun i h => (∃ old, IsEnum h e it ((i : Nat) : Int) old) ∧ StepAt k h it a i) where
  mem := List.mem_cons_self
  obj := fun i h ⟨⟨old, qe⟩, s1⟩ c hc => by
    simp only [List.mem_cons, List.mem_nil_iff, or_false] at hc
    rcases hc with rfl | rfl
    · exact ⟨_, qe, fun v q => nomatch q⟩
    · exact s1.obj
  keep := fun i h h' ⟨⟨old, qe⟩, s1⟩ f => ⟨⟨old, f e (by simp) _ qe⟩, s1.at_ (f it (by simp))⟩
  item := by
    intro X eP ew eK cal i pins s σ H E I fp ⟨⟨old, qe⟩, s1⟩ ⟨us, u, hu, eu⟩
    subst eP ew eK
    obtain ⟨its, r1, p1, _⟩ := seq2 I hu
    obtain ⟨x, ex, rx⟩ := r1.get eu
    have hd : X.A.in1.handled = none := I.ok.hd cal
    have el : e < s.heap.objs.size := Heap.lt_size qe
    have l1 : i < its.toArray.size := by simp; exact (List.getElem?_eq_some_iff.mp ex).1
    have nf : e ∉ [it, a] := by
      simp only [List.mem_cons, List.mem_nil_iff, or_false, not_or]
      exact ⟨ne, nea⟩
    refine wpAny_pyNext_enum_itemD (draw2 hd k it a na its.toArray) qe ⟨s1, p1⟩ l1 ne nf fun x1 h1 tk e1 qo t1 qT sz kp => ?_
    have e1 : x1 = x := by
      have q : its.toArray[i]? = some x := by simpa using ex
      rw [e1] at q; exact Option.some.inj q
    subst e1
    refine ⟨_, rfl, wpAny_letOwnedTupleGo_enum (s := { s with heap := h1, toks := tk + 1 }) qo fun h2 qe2 sb => ?_⟩
    have lay : ObjOk X.prog X.w (upd H s.heap.objs.size (.tup [.int (i : Nat), u])) h2 s.heap.objs.size (.tup [.int (i : Nat), u]) := ⟨by show 2 ≤ sizeLine; decide, [.int i tk, x1], .cons ⟨_, rfl⟩ (.cons rx .nil), ⟨_, (sb.2 _ (Nat.ne_of_gt el)).trans qT, rfl, _, rfl⟩⟩
    have J : Inv X pins σ (upd H s.heap.objs.size (.tup [.int (i : Nat), u])) { s with heap := h2, toks := tk + 1 } := by
      refine I.turnedNew (ch := [e, it]) (fun c o n q => ?_) fp (Nat.le_refl _) lay
      simp only [List.mem_cons, List.mem_nil_iff, or_false, not_or] at n
      exact (sb.2 c n.1).trans (kp c o n.1 n.2 q)
    refine ⟨.ref s.heap.objs.size, _, J, rfl, ⟨_, u, rfl, I.hok.fresh (Nat.le_refl _), rfl, fun us' hu' => by rw [seq2_inj I hu' hu]; exact eu⟩, ⟨⟨x1, ?_⟩, t1.1.at_ fun o q => (sb.2 it ne.symm).trans q⟩, fun c hc => ?_⟩
    · rw [show ((i + 1 : Nat) : Int) = (i : Int) + 1 by omega]
      exact qe2
    · obtain ⟨o1, q1, _⟩ := s1.obj
      have lt : c < s.heap.objs.size := by
        simp only [List.mem_cons, List.mem_nil_iff, or_false] at hc
        rcases hc with rfl | rfl
        · exact el
        · exact Heap.lt_size q1
      rw [upd_ne (Nat.ne_of_lt lt)]
      exact (fp c hc).1
  done := by
    intro X eP ew eK cal i pins s σ H E I fp ⟨⟨old, qe⟩, s1⟩ ⟨us, hu, g⟩
    subst eP ew eK
    obtain ⟨its, r1, p1, _⟩ := seq2 I hu
    have hd : X.A.in1.handled = none := I.ok.hd cal
    have m : i = its.toArray.size := by rw [List.size_toArray, ← r1.length]; exact g
    refine wpAny_pyNext_enum_endD (draw2 hd k it a na its.toArray) qe (by rw [← m]; exact ⟨s1, p1⟩) fun h1 kp => ⟨rfl, ?_⟩
    refine I.turnedL (t' := s.toks) (ch := [e, it]) (fun c o n q => ?_) fp
    simp only [List.mem_cons, List.mem_nil_iff, or_false, not_or] at n
    exact kp c o n.2 q
  self := fun A i s Q E st h => let ⟨⟨_, qe⟩, _⟩ := st; wpAny_pyIter_enum qe h
def iNum (K : PySem.W.Frag) (ta : TA) : TI := fun σ H R => ta σ H fun vs H1 => ∃ a k us, vs = [.ref a] ∧ Sq2 K k H1 a us ∧ R (ItN K k a) H1
theorem pi_num {X : Cx} {e1 : Expr} {ta : TA} {p pos tpos : Pos} {elts : List Expr} {kk : Nat} (hg : Gl X "enumerate") (hm : X.mg "enumerate" = none) (ha : PA X [e1] ta) (n1 : notStar e1 = true) :
    PI X (.Tuple elts kk tpos) (.Call (.Name "enumerate" p) [e1] [] pos) (iNum X.K ta) := by
  refine ⟨fun pins s σ H R I h => Call_ (ld_blt I hg hm boot_enumerate (PyProof.Rows.callWith_type1 (thn (ha.run pos pins s σ H _ I h) ?_) (star_cons n1) rfl))⟩
  rintro us s1 ⟨vs, H1, I1, r, a, k, xs, rfl, hx, q⟩
  cases r with
  | cons ra rn =>
    cases rn
    cases ra
    obtain ⟨its, _, p1, l1⟩ := seq2 I1 hx
    refine numCall (begin2 k a its.toArray) p1 fun h' qe o1 kp => wpAny_pyIter_enum qe ?_
    have I2 : Inv X pins σ H1 { s1 with heap := h' } := I1.kept (t' := s1.toks) kp
    have na : a ≠ s1.heap.objs.size := Nat.ne_of_lt l1
    have nea : s1.heap.objs.size + 1 ≠ a := Nat.ne_of_gt (Nat.lt_succ_of_lt l1)
    refine ⟨_, [s1.heap.objs.size + 1, s1.heap.objs.size], _, _, H1, rfl, I2, turnN (Nat.succ_ne_self _) na nea, ⟨⟨.none, qe⟩, .start o1⟩, fun c hc => ?_, q⟩
    have le : s1.heap.objs.size ≤ c := by
      simp only [List.mem_cons, List.mem_nil_iff, or_false] at hc
      rcases hc with rfl | rfl
      · exact Nat.le_add_right _ _
      · exact Nat.le_refl _
    exact I1.fpOk le (I1.hok.fresh le)
end SL
/-! S10: what is walked; comprehensions. -/
namespace SL
open PySem PySem.Spec L2

/-- J walks the items, as long as the sources stand -/
def ItOk (K : PySem.W.Frag) (Y : Ey) (Z0 : ZS) (H0 : Hp) (gd : Gd) (items : List SV) (J : It) : Prop :=
  ∀ (i : Nat) (δ : SSt) (h : SHp) (σ : L2.St) (H : Hp) (Z : ZS), Rel K Y Z δ h σ H → Keeps Z0 H0 Z H → gd h →
    (∀ d, items[i]? = some d → J.go i H ∧ ∀ x H', J.yld i H x H' → Aft K Y σ δ h H Z δ h H' Z ∧ Rep K Z H' d x) ∧ (i = items.length → J.stop i H)
def tI (K : PySem.W.Frag) (Y : Ey) (G : Gm) (it : SIt) : TI := fun σ H R' => ∃ δ h Z R, Rel K Y Z δ h σ H ∧ wpI G it δ h R ∧
  ∀ gd items δ' h' J H' Z', R gd items δ' h' → Aft K Y σ δ h H Z δ' h' H' Z' → ItOk K Y Z' H' gd items J → R' J H'
theorem PI.imp {X : Cx} {tg e : Expr} {t t' : TI} (p : PI X tg e t) (f : ∀ σ H R, t' σ H R → t σ H R) : PI X tg e t' := ⟨fun pins s σ H R I h => p.run pins s σ H R I (f σ H R h)⟩
section
variable {X : Cx} {Y : Ey} {G : Gm} {tg e a b c : Expr} {s sa sb sc : SE} {pos : Pos} {es : List Expr} {ss : List SE}
/-- a list or a tuple, whichever the value is -/
def iSeq (K : PySem.W.Frag) (tl : TE) : TI := fun σ H R => tl σ H fun x H1 => ∃ p, x = .ref p ∧ ((∃ xs, SqL K H1 p xs ∧ R (Itl K p) H1) ∨ ∃ xs, SqT K H1 p xs ∧ R (Itt K p) H1)
theorem pi_seq {tl : TE} (hl : PE X e tl) : PI X tg e (iSeq X.K tl) := by
  constructor
  intro pins s σ H R I hw
  refine thn (hl.run pins s σ H _ I hw) ?_
  rintro v s1 ⟨x, H1, I1, r1, p, ex, q⟩
  subst ex
  have ev : v = Value.ref p := r1
  subst ev
  have new : FpOk X pins H1 s1.heap.objs.size := I1.fpOk (Nat.le_refl _) (I1.hok.fresh (Nat.le_refl _))
  have grown : ∀ o : Obj, Inv X pins σ H1 { s1 with heap := s1.heap.push o } := fun o => I1.kept (t' := s1.toks) fun b u q => Heap.get?_push_of_some _ q
  have only : ∀ x ∈ [s1.heap.objs.size], FpOk X pins H1 x := fun x hx => by
    rw [List.mem_singleton] at hx
    rw [hx]
    exact new
  rcases q with ⟨xs, hs, q⟩ | ⟨xs, hs, q⟩
  · obtain ⟨its, rv, pl, _⟩ := I1.list hs
    exact wpAny_pyIter_list pl.isList ⟨_, [s1.heap.objs.size], _, _, H1, rfl, grown _, turn_list p _, ⟨_, Heap.get?_push_size _ rfl, rfl, rfl⟩, only, q⟩
  · obtain ⟨its, rv, pl, _⟩ := I1.tuple hs
    exact wpAny_pyIter_tuple pl ⟨_, [s1.heap.objs.size], _, _, H1, rfl, grown _, turn_tuple p _, ⟨_, Heap.get?_push_size _ rfl, rfl, rfl⟩, only, q⟩
theorem it_list {K : PySem.W.Frag} {Z0 : ZS} {H0 : Hp} {x : SV} {p : Addr} {xs : List SV} (r : Rep K Z0 H0 x (.ref p)) : ItOk K Y Z0 H0 (fun h => vw h x = some (false, xs)) xs (Itl K p) := by
  intro i δ h σ H Z R k g
  obtain ⟨q, vs, ev, rr, z⟩ := vw_ok R.hr (r.keeps k) g
  cases ev
  rcases z with ⟨z, _⟩ | ⟨_, z, _⟩
  · cases z
  · refine ⟨fun d ed => ?_, fun hi => ⟨vs, z, by rw [rr.length]; exact Nat.le_of_eq hi.symm⟩⟩
    obtain ⟨v, hv, rv⟩ := rr.get ed
    refine ⟨⟨vs, v, z, hv⟩, fun y H' ⟨e1, e2⟩ => ?_⟩
    subst e1
    have := (e2 vs z).symm.trans hv
    cases this
    exact ⟨.refl R, rv⟩
theorem it_tup {K : PySem.W.Frag} {Z0 : ZS} {H0 : Hp} {x : SV} {p : Addr} {xs : List SV} (r : Rep K Z0 H0 x (.ref p)) : ItOk K Y Z0 H0 (fun h => vw h x = some (true, xs)) xs (Itt K p) := by
  intro i δ h σ H Z R k g
  obtain ⟨q, vs, ev, rr, z⟩ := vw_ok R.hr (r.keeps k) g
  cases ev
  rcases z with ⟨_, z⟩ | ⟨z, _⟩
  · refine ⟨fun d ed => ?_, fun hi => ⟨vs, z, by rw [rr.length]; exact Nat.le_of_eq hi.symm⟩⟩
    obtain ⟨v, hv, rv⟩ := rr.get ed
    refine ⟨⟨vs, v, z, hv⟩, fun y H' ⟨e1, e2⟩ => ?_⟩
    subst e1
    have := (e2 vs z).symm.trans hv
    cases this
    exact ⟨.refl R, rv⟩
  · cases z
theorem si_of (ha : PE X a (tE X.K Y G sa)) : PI X tg a (tI X.K Y G (.of sa)) := by
  refine PI.imp (pi_seq ha) fun σ H R' ⟨δ, h, Z, R, rel, w, f⟩ => ?_
  simp only [wpI] at w
  refine ⟨δ, h, Z, _, rel, w, fun r δ1 h1 v H1 Z1 q A rr => ?_⟩
  obtain ⟨x, δ2, Z2, ⟨k, xs, ev, q2⟩, A2, p⟩ := A.stow rr q
  obtain ⟨ad, vs, ex, rs, z⟩ := vw_ok A2.rel.hr p ev
  subst ex
  refine ⟨ad, rfl, ?_⟩
  rcases z with ⟨rfl, z⟩ | ⟨rfl, z, _⟩
  · exact .inr ⟨vs, z, f _ _ _ _ _ _ _ q2 A2 (it_tup p)⟩
  · exact .inl ⟨vs, z, f _ _ _ _ _ _ _ q2 A2 (it_list p)⟩
theorem zipS_get : ∀ {xs ys : List SV} {i : Nat} {d : SV}, (zipS xs ys)[i]? = some d → ∃ x y, xs[i]? = some x ∧ ys[i]? = some y ∧ d = .tup [x, y]
  | [], _, _, _, h => by simp [zipS] at h
  | _ :: _, [], _, _, h => by simp [zipS] at h
  | x :: xs, y :: ys, 0, d, h => by
    simp only [zipS, List.getElem?_cons_zero, Option.some.injEq] at h
    exact ⟨x, y, rfl, rfl, h.symm⟩
  | x :: xs, y :: ys, i + 1, d, h => by
    simp only [zipS, List.getElem?_cons_succ] at h
    obtain ⟨x', y', h1, h2, h3⟩ := zipS_get h
    exact ⟨x', y', by simpa using h1, by simpa using h2, h3⟩
theorem zipS_length : ∀ {xs ys : List SV}, (zipS xs ys).length = min xs.length ys.length
  | [], _ => by simp [zipS]
  | _ :: _, [] => by simp [zipS]
  | x :: xs, y :: ys => by simp only [zipS, List.length_cons, zipS_length]; omega
theorem pair_new {K : PySem.W.Frag} {σ : L2.St} {δ : SSt} {h : SHp} {H : Hp} {Z : ZS} {x y : SV} {v w : V} {T : Addr} (R : Rel K Y Z δ h σ H) (rx : Rep K Z H x v) (ry : Rep K Z H y w) (n : H T = none) :
    Aft K Y σ δ h H Z δ h (upd H T (.tup [v, w])) Z ∧ Rep K Z (upd H T (.tup [v, w])) (.tup [x, y]) (.ref T) := by
  refine ⟨R.aft_new n, ?_⟩
  simp only [Rep]
  exact ⟨T, [v, w], rfl, .inl (.inl upd_same), (Reps.cons rx (.cons ry .nil)).keeps (keeps_upd n)⟩
theorem sq2_of {K : PySem.W.Frag} {Z : ZS} {h : SHp} {H : Hp} {x : SV} {p : Addr} {k : Bool} {xs : List SV} (R : HRel K Z h H) (r : Rep K Z H x (.ref p)) (g : vw h x = some (k, xs)) : ∃ vs, Sq2 K k H p vs ∧ Reps K Z H xs vs := by
  obtain ⟨a, vs, ev, rr, z⟩ := vw_ok R r g
  cases ev
  rcases z with ⟨rfl, z⟩ | ⟨rfl, z, _⟩
  · exact ⟨vs, z, rr⟩
  · exact ⟨vs, z, rr⟩
theorem it_zip {K : PySem.W.Frag} {Z0 : ZS} {H0 : Hp} {x y : SV} {p q : Addr} {k1 k2 : Bool} {xs ys : List SV} (r : Rep K Z0 H0 x (.ref p)) (r2 : Rep K Z0 H0 y (.ref q)) : ItOk K Y Z0 H0 (fun h => vw h x = some (k1, xs) ∧ vw h y = some (k2, ys)) (zipS xs ys) (It2 K k1 k2 p q) := by
  intro i δ h σ H Z R k ⟨g1, g2⟩
  obtain ⟨vs, z, rr⟩ := sq2_of R.hr (r.keeps k) g1
  obtain ⟨us, z2, rr2⟩ := sq2_of R.hr (r2.keeps k) g2
  refine ⟨fun d ed => ?_, fun hi => ⟨vs, us, z, z2, ?_⟩⟩
  · obtain ⟨xi, yi, h1, h2, rfl⟩ := zipS_get ed
    obtain ⟨v, hv, rv⟩ := rr.get h1
    obtain ⟨u, hu, ru⟩ := rr2.get h2
    refine ⟨⟨vs, us, v, u, z, z2, hv, hu⟩, ?_⟩
    rintro w H' ⟨T, v', u', rfl, n, rfl, f1, f2⟩
    have e1 := (f1 vs z).symm.trans hv
    have e2 := (f2 us z2).symm.trans hu
    cases e1
    cases e2
    exact pair_new R rv ru n
  · rw [zipS_length] at hi
    rw [rr.length, rr2.length]
    omega
theorem si_zip {elts : List Expr} {kk : Nat} {tpos p : Pos} (hg : Gl X "zip") (hm : X.mg "zip" = none) (ha : PA X [a, b] (tStL X.K Y G ss)) (h1 : notStar a = true) (h2 : notStar b = true) :
    PI X (.Tuple elts kk tpos) (.Call (.Name "zip" p) [a, b] [] pos) (tI X.K Y G (.zip ss)) := by
  refine PI.imp (pi_zip2 hg hm ha h1 h2) fun σ H R' ⟨δ, h, Z, R, rel, w, f⟩ => ?_
  simp only [wpI] at w
  refine ⟨δ, h, Z, _, rel, w, fun rs δ1 h1 vs H1 Z1 ⟨x, y, k, k2, xs, ys, e, ex, ey, q⟩ A r => ?_⟩
  subst e
  obtain ⟨v, vr, ev, r1, rr⟩ := r.cons_inv
  obtain ⟨u, ur, eu, r2, rr2⟩ := rr.cons_inv
  have en := rr2.nil_inv
  subst en eu ev
  obtain ⟨a1, vs, e1, s1, z1⟩ := vw_ok A.rel.hr r1 ex
  obtain ⟨a2, us, e2, s2, z2⟩ := vw_ok A.rel.hr r2 ey
  subst e1 e2
  obtain ⟨ws, z, _⟩ := sq2_of A.rel.hr r1 ex
  obtain ⟨ws2, z', _⟩ := sq2_of A.rel.hr r2 ey
  exact ⟨a1, a2, k, k2, ws, ws2, rfl, z, z', f _ _ _ _ _ _ _ q A (it_zip r1 r2)⟩
theorem enumS_get : ∀ {xs : List SV} {k i : Nat} {d : SV}, (enumS k xs)[i]? = some d → ∃ x, xs[i]? = some x ∧ d = .tup [.int ((k + i : Nat) : Int), x]
  | [], _, _, _, h => by simp [enumS] at h
  | x :: xs, k, 0, d, h => by
    simp only [enumS, List.getElem?_cons_zero, Option.some.injEq] at h
    exact ⟨x, rfl, h.symm⟩
  | x :: xs, k, i + 1, d, h => by
    simp only [enumS, List.getElem?_cons_succ] at h
    obtain ⟨x', h1, h2⟩ := enumS_get h
    refine ⟨x', by simpa using h1, ?_⟩
    rw [h2, show k + 1 + i = k + (i + 1) by omega]
theorem enumS_length : ∀ {xs : List SV} {k : Nat}, (enumS k xs).length = xs.length
  | [], _ => rfl
  | x :: xs, k => by simp only [enumS, List.length_cons, enumS_length]
theorem it_enum {K : PySem.W.Frag} {Z0 : ZS} {H0 : Hp} {x : SV} {p : Addr} {k1 : Bool} {xs : List SV} (r : Rep K Z0 H0 x (.ref p)) : ItOk K Y Z0 H0 (fun h => vw h x = some (k1, xs)) (enumS 0 xs) (ItN K k1 p) := by
  intro i δ h σ H Z R k g
  obtain ⟨vs, z, rr⟩ := sq2_of R.hr (r.keeps k) g
  refine ⟨fun d ed => ?_, fun hi => ⟨vs, z, by rw [rr.length]; rw [enumS_length] at hi; exact hi⟩⟩
  obtain ⟨xi, h1, rfl⟩ := enumS_get ed
  obtain ⟨v, hv, rv⟩ := rr.get h1
  refine ⟨⟨vs, v, z, hv⟩, ?_⟩
  rintro w H' ⟨T, v', rfl, n, rfl, f1⟩
  have e1 := (f1 vs z).symm.trans hv
  cases e1
  rw [Nat.zero_add]
  exact pair_new R (by simp only [Rep]) rv n
theorem si_enum {elts : List Expr} {kk : Nat} {tpos p : Pos} (hg : Gl X "enumerate") (hm : X.mg "enumerate" = none) (ha : PA X [a] (tStL X.K Y G ss)) (h1 : notStar a = true) :
    PI X (.Tuple elts kk tpos) (.Call (.Name "enumerate" p) [a] [] pos) (tI X.K Y G (.enum ss)) := by
  refine PI.imp (pi_num hg hm ha h1) fun σ H R' ⟨δ, h, Z, R, rel, w, f⟩ => ?_
  simp only [wpI] at w
  refine ⟨δ, h, Z, _, rel, w, fun rs δ1 h1 vs H1 Z1 ⟨x, k, xs, e, ex, q⟩ A r => ?_⟩
  subst e
  obtain ⟨v, vr, ev, r1, rr⟩ := r.cons_inv
  have en := rr.nil_inv
  subst en ev
  obtain ⟨a1, vs, e1, s1, z1⟩ := vw_ok A.rel.hr r1 ex
  subst e1
  obtain ⟨ws, z, _⟩ := sq2_of A.rel.hr r1 ex
  exact ⟨a1, k, ws, rfl, z, f _ _ _ _ _ _ _ q A (it_enum r1)⟩
theorem rangeS_get : ∀ {n : Nat} {lo : Int} {i : Nat} {d : SV}, (rangeS lo n)[i]? = some d → i < n ∧ d = .int (lo + i)
  | 0, _, _, _, h => by simp [rangeS] at h
  | n + 1, lo, 0, d, h => by
    simp only [rangeS, List.getElem?_cons_zero, Option.some.injEq] at h
    exact ⟨by omega, by rw [← h]; simp⟩
  | n + 1, lo, i + 1, d, h => by
    simp only [rangeS, List.getElem?_cons_succ] at h
    obtain ⟨h1, h2⟩ := rangeS_get h
    refine ⟨by omega, ?_⟩
    rw [h2]
    congr 1
    omega
theorem rangeS_length : ∀ {n : Nat} {lo : Int}, (rangeS lo n).length = n
  | 0, _ => rfl
  | n + 1, lo => by simp only [rangeS, List.length_cons, rangeS_length]
theorem it_range {K : PySem.W.Frag} {Z0 : ZS} {H0 : Hp} {lo : Int} {n : Nat} : ItOk K Y Z0 H0 (fun _ => True) (rangeS lo n) (Itr lo n) := by
  intro i δ h σ H Z R k _
  refine ⟨fun d ed => ?_, fun hi => ?_⟩
  · obtain ⟨h1, rfl⟩ := rangeS_get ed
    refine ⟨h1, fun x H' ⟨e1, e2⟩ => ?_⟩
    subst e1 e2
    exact ⟨.refl R, by simp only [Rep]⟩
  · rw [rangeS_length] at hi
    exact Nat.le_of_eq hi.symm
theorem si_range1 {p : Pos} (hg : Gl X "range") (hm : X.mg "range" = none) (ha : PE X a (tE X.K Y G sa)) (h1 : notStar a = true) : PI X tg (.Call (.Name "range" p) [a] [] pos) (tI X.K Y G (.rng sa)) := by
  refine PI.imp (pi_range1 hg hm (pa_cons ha pa_nil (star_cons h1)) (star_cons h1)) fun σ H R' ⟨δ, h, Z, R, rel, w, f⟩ => ?_
  simp only [wpI] at w
  refine ⟨δ, h, Z, _, rel, w, fun r δ1 h1 v H1 Z1 ⟨j, er, q1, q2, q⟩ A rr => ?_⟩
  subst er
  rw [rr.int]
  exact ⟨_, rfl, q1, q2, f _ _ _ _ _ _ _ q A it_range⟩
theorem si_range2 {p : Pos} (hg : Gl X "range") (hm : X.mg "range" = none) (ha : PE X a (tE X.K Y G sa)) (hb : PE X b (tE X.K Y G sb)) (h1 : notStar a = true) (h2 : notStar b = true) : PI X tg (.Call (.Name "range" p) [a, b] [] pos) (tI X.K Y G (.rng2 sa sb)) := by
  refine PI.imp (pi_range2 hg hm (pa_cons ha (pa_cons hb pa_nil (star_cons h2)) (star_cons h1)) (by rw [star_cons h1, star_cons h2]; rfl) (star_cons h2)) fun σ H R' ⟨δ, h, Z, R, rel, w, f⟩ => ?_
  simp only [wpI] at w
  refine two rel w fun r s δ' h' x y H' Z' ⟨i, j, er, es, hb, q⟩ A px py => ?_
  rw [er] at px
  rw [es] at py
  rw [px.int, py.int]
  exact ⟨i, j, rfl, hb, f _ _ _ _ _ _ _ q A it_range⟩
end
end SL
/-! T1: texts. -/
namespace SL
open PySem PySem.Spec L2
theorem asStrs_reps {K : PySem.W.Frag} {Z : ZS} {H : Hp} : ∀ {xs : List SV} {bs : List Str} {vs : List V}, asStrs xs = some bs → Reps K Z H xs vs → vs = bs.map V.str
  | [], _, _, e, r => by simp only [asStrs] at e; cases e; rw [r.nil_inv]; rfl
  | x :: xs, _, _, e, r => by
    obtain ⟨v, vr, ev, h1, h2⟩ := r.cons_inv
    cases x with
    | str z =>
      simp only [asStrs] at e
      obtain ⟨bs, e1, e2⟩ := Option.map_eq_some_iff.mp e
      subst e2 ev
      have hv : v = .str z := by simpa only [Rep] using h1
      rw [asStrs_reps e1 h2, hv]; rfl
    | _ => simp only [asStrs] at e; cases e
theorem reps_strs {K : PySem.W.Frag} {Z : ZS} {H : Hp} : ∀ ys : List Str, Reps K Z H (ys.map SV.str) (ys.map V.str)
  | [] => by simp only [List.map_nil, Reps]
  | n :: ns => by
    simp only [List.map_cons, Reps]
    exact ⟨_, _, rfl, by simp only [Rep], reps_strs ns⟩
theorem rep_size (z : Array Nat) : ∀ (k : Nat) (acc : Array Nat), ((List.replicate k z).foldl (· ++ ·) acc).size = acc.size + k * z.size
  | 0, acc => by simp
  | k + 1, acc => by
    rw [List.replicate_succ, List.foldl_cons, rep_size z k, Array.size_append, Nat.succ_mul]
    omega
theorem repS_length (k : Nat) (z : Str) : (repS k z).length = k * z.length := by
  unfold repS Str.length
  rw [rep_size]
  simp
section
variable {X : Cx} {Y : Ey} {G : Gm} {e a b c : Expr} {s sa sb sc : SE} {pos apos : Pos} {es : List Expr} {ss : List SE}
/-- a text first, then an operand -/
theorem txt2 {K : PySem.W.Frag} {σ : L2.St} {H : Hp} {C : Str → SV → SSt → SHp → Prop} {δ : SSt} {h : SHp} {Z : ZS} {Q : V → V → Hp → Prop} (rel : Rel K Y Z δ h σ H) (w : wpE G sa δ h fun r δ1 h1 => ∃ z, r = .str z ∧ wpE G sb δ1 h1 fun s δ2 h2 => C z s δ2 h2)
    (f : ∀ z s δ' h' y H' Z', C z s δ' h' → Aft K Y σ δ h H Z δ' h' H' Z' → PRep K σ Z' H' s.opd y → Q (.str z) y H') :
    tE K Y G sa σ H fun x H1 => (∃ z, x = .str z) ∧ tE K Y G sb σ H1 fun y H2 => Q x y H2 := by
  refine ⟨δ, h, Z, _, rel, w, fun r δ1 h1 x H1 Z1 ⟨z, er, w1⟩ A1 r1 => ?_⟩
  subst er
  have ex : x = .str z := by
    obtain ⟨Z', _, p⟩ := A1.opd r1
    exact p.str
  subst ex
  refine ⟨⟨z, rfl⟩, δ1, h1, Z1, _, A1.rel, w1, fun s δ2 h2 y H2 Z2 w2 A2 r2 => ?_⟩
  obtain ⟨Z2', A2', p2⟩ := A2.opd r2
  exact f z s δ2 h2 y H2 Z2' w2 (A1.trans A2') p2
theorem star1 {X : Cx} (h : notStar e = true) : starEach [e] X.env = [(false, eval e X.env)] := star_cons (es := []) h
theorem se_split (ha : PE X a (tE X.K Y G sa)) (hb : PE X b (tE X.K Y G sb)) (h1 : notStar b = true) (h2 : attributeBase a "split" X.env (eval a X.env) = eval a X.env) (h3 : (apos.endLine == pos.line) = true) : PE X (.Call (.Attribute a "split" apos) [b] [] pos) (tE X.K Y G (.tm .split sa sb)) := by
  refine PE.imp (pe_split ha hb (star1 h1) h2 h3) fun σ H Q ⟨δ, h, Z, R, rel, w, f⟩ => ?_
  simp only [wpE, tmS] at w
  refine txt2 rel w fun z s δ' h' y H' Z' ⟨t, es, e1, e2, q⟩ A p => ?_
  rw [es] at p
  refine ⟨z, t, rfl, by rw [p.str], e1, e2, fun l n => ?_⟩
  obtain ⟨B, q2⟩ := A.own_new (reps_strs (Txt.split z t)) n
  exact f _ _ _ _ _ _ q B q2
theorem se_join (ha : PE X a (tE X.K Y G sa)) (hb : PE X b (tE X.K Y G sb)) (h1 : notStar b = true) (h2 : attributeBase a "join" X.env (eval a X.env) = eval a X.env) (h3 : (apos.endLine == pos.line) = true) : PE X (.Call (.Attribute a "join" apos) [b] [] pos) (tE X.K Y G (.tm .join sa sb)) := by
  refine PE.imp (pe_join ha hb (star1 h1) h2 h3) fun σ H Q ⟨δ, h, Z, R, rel, w, f⟩ => ?_
  simp only [wpE, tmS] at w
  refine txt2 rel w fun z s δ' h' y H' Z' ⟨k, ys, zs, ev, es, sz, q⟩ A p => ?_
  obtain ⟨a, us, ex, rr, o⟩ := view_ok A.rel p ev
  subst ex
  refine ⟨z, a, zs, rfl, rfl, ?_, sz, f _ _ _ _ _ _ q A (.of (by simp only [Rep]))⟩
  rw [← asStrs_reps es rr]
  rcases o with ⟨_, o⟩ | ⟨_, o, _⟩
  · exact .inr o
  · exact .inl o
theorem se_starts (ha : PE X a (tE X.K Y G sa)) (hb : PE X b (tE X.K Y G sb)) (h1 : notStar b = true) (h2 : attributeBase a "startswith" X.env (eval a X.env) = eval a X.env) (h3 : (apos.endLine == pos.line) = true) : PE X (.Call (.Attribute a "startswith" apos) [b] [] pos) (tE X.K Y G (.tm .starts sa sb)) := by
  refine PE.imp (pe_m1 F.slot_str_startswith F.type_str_startswith mt_startswith ha hb (star1 h1) h2 h3) fun σ H Q ⟨δ, h, Z, R, rel, w, f⟩ => ?_
  simp only [wpE, tmS] at w
  refine txt2 rel w fun z s δ' h' y H' Z' ⟨t, es, q⟩ A p => ?_
  rw [es] at p
  exact ⟨z, t, rfl, by rw [p.str], f _ _ _ _ _ _ q A (.of (by simp only [Rep]))⟩
theorem se_six (ha : PE X a (tE X.K Y G sa)) (hb : PE X b (tE X.K Y G sb)) (hs : notSlice b = true) : PE X (.Subscript a b pos) (tE X.K Y G (.t2 .ix sa sb)) := by
  refine PE.imp (pe_ix ix_seq ha hb (plainIx hs)) fun σ H Q ⟨δ, h, Z, R, rel, w, f⟩ => ?_
  simp only [wpE, t2S] at w
  refine two rel w fun r s δ' h' x y H' Z' ⟨z, k, c, er, es, hz, ec, q⟩ A px py => ?_
  rw [er] at px
  rw [es] at py
  rw [px.str, py.int]
  refine .inr (.inr ?_)
  exact ⟨z, k, c, rfl, rfl, hz, ec, f _ _ _ _ _ _ q A (.of (by simp only [Rep]))⟩
theorem se_sin (ha : PE X a (tE X.K Y G sa)) (hb : PE X b (tE X.K Y G sb)) (hn : notSet b = true) : PE X (.Compare a [.In] [b] pos) (tE X.K Y G (.t2 .inn sa sb)) := by
  refine PE.imp (pe_cmpR op_in_sign ha hb (noMarks hn)) fun σ H Q ⟨δ, h, Z, R, rel, w, f⟩ => ?_
  simp only [wpE, t2S] at w
  refine two rel w fun r s δ' h' x y H' Z' ⟨c, z, er, es, q⟩ A px py => ?_
  rw [er] at px
  rw [es] at py
  rw [px.str, py.str]
  exact ⟨c, z, rfl, rfl, f _ _ _ _ _ _ q A (.of (by simp only [Rep]))⟩
theorem st_sin (ha : PE X a (tE X.K Y G sa)) (hb : PE X b (tE X.K Y G sb)) (hn : notSet b = true) : PT X (.Compare a [.In] [b] pos) (tT (tE X.K Y G (.t2 .inn sa sb))) := by
  refine PT.imp (pt_cmpR op_in_sign ha hb (noMarks hn)) fun σ H Q ⟨δ, h, Z, R, rel, w, f⟩ => ?_
  simp only [wpE, t2S] at w
  refine two rel w fun r s δ' h' x y H' Z' ⟨c, z, er, es, q⟩ A px py => ?_
  rw [er] at px
  rw [es] at py
  rw [px.str, py.str]
  exact ⟨c, z, rfl, rfl, f _ _ _ _ _ _ q A (.of (by simp only [Rep]))⟩
theorem se_snin (ha : PE X a (tE X.K Y G sa)) (hb : PE X b (tE X.K Y G sb)) (hn : notSet b = true) : PE X (.Compare a [.NotIn] [b] pos) (tE X.K Y G (.t2 .notin sa sb)) := by
  refine PE.imp (pe_cmpR op_notIn_sign ha hb (noMarks hn)) fun σ H Q ⟨δ, h, Z, R, rel, w, f⟩ => ?_
  simp only [wpE, t2S] at w
  refine two rel w fun r s δ' h' x y H' Z' ⟨c, z, er, es, q⟩ A px py => ?_
  rw [er] at px
  rw [es] at py
  rw [px.str, py.str]
  exact ⟨c, z, rfl, rfl, f _ _ _ _ _ _ q A (.of (by simp only [Rep]))⟩
theorem st_snin (ha : PE X a (tE X.K Y G sa)) (hb : PE X b (tE X.K Y G sb)) (hn : notSet b = true) : PT X (.Compare a [.NotIn] [b] pos) (tT (tE X.K Y G (.t2 .notin sa sb))) := by
  refine PT.imp (pt_cmpR op_notIn_sign ha hb (noMarks hn)) fun σ H Q ⟨δ, h, Z, R, rel, w, f⟩ => ?_
  simp only [wpE, t2S] at w
  refine two rel w fun r s δ' h' x y H' Z' ⟨c, z, er, es, q⟩ A px py => ?_
  rw [er] at px
  rw [es] at py
  rw [px.str, py.str]
  exact ⟨c, z, rfl, rfl, f _ _ _ _ _ _ q A (.of (by simp only [Rep]))⟩
theorem op_repS : OpR X (binaryOp .Mult) (fun x y H Q => ∃ z k, x = .str z ∧ y = .int k ∧ 2 ≤ k ∧ k ≤ 1000 ∧ 1 ≤ z.length ∧ z.length ≤ 1000 ∧ Q (.str (repS k.toNat z)) H) := by
  intro pins s σ H x y v u Q I rx ry h
  obtain ⟨z, k, rfl, rfl, k2, k3, z1, z2, q⟩ := h
  obtain ⟨t, rfl⟩ := rx
  obtain ⟨t', rfl⟩ := ry
  have e1 : ¬ k < 1 := by omega
  have e2 : (k == 1 || z.length == 0) = false := by
    rw [Bool.or_eq_false_iff]
    exact ⟨beq_eq_false_iff_ne.mpr (by omega), beq_eq_false_iff_ne.mpr (by omega)⟩
  have e3 : z.length * k.toNat ≤ 1000000 := by
    have : z.length * k.toNat ≤ 1000 * 1000 := Nat.mul_le_mul z2 (by omega)
    omega
  refine P.mul_str ?_ (fun _ _ => ?_) (fun _ _ => ?_) ?_
  · rw [decide_eq_false (by omega), decide_eq_false (by omega)]
    rfl
  · have : (2 ^ 63 - 1) / k ≥ 1000 := by
      apply Int.le_ediv_of_mul_le (by omega)
      omega
    omega
  · refine decide_eq_false ?_
    have := sizeLine_eq
    omega
  · rw [if_neg e1, if_neg (by rw [e2]; decide)]
    refine ⟨?_, .str _, H, I.tok _, ⟨_, rfl⟩, q⟩
    show (repS k.toNat z).length ≤ sizeLine
    rw [repS_length, sizeLine_eq]
    have : k.toNat * z.length = z.length * k.toNat := Nat.mul_comm _ _
    omega
theorem se_smul (ha : PE X a (tE X.K Y G sa)) (hb : PE X b (tE X.K Y G sb)) : PE X (.BinOp a .Mult b pos) (tE X.K Y G (.t2 .mul sa sb)) := by
  refine PE.imp (pe_op op_repS ha hb) fun σ H Q ⟨δ, h, Z, R, rel, w, f⟩ => ?_
  simp only [wpE, t2S] at w
  refine two rel w fun r s δ' h' x y H' Z' ⟨z, k, er, es, q1, q2, q3, q4, q⟩ A px py => ?_
  rw [er] at px
  rw [es] at py
  rw [px.str, py.int]
  exact ⟨z, k, rfl, rfl, q1, q2, q3, q4, f _ _ _ _ _ _ q A (.of (by simp only [Rep]))⟩
theorem se_sslc {lo hi : Option Expr} {sl sh : Option SE} {p2 : Pos} (ha : PE X a (tE X.K Y G sa)) (hl : PO X lo (tOO X.K Y G sl)) (hh : PO X hi (tOO X.K Y G sh)) : PE X (.Subscript a (.Slice lo hi none p2) pos) (tE X.K Y G (.sslc sa sl sh)) := by
  refine PE.imp (pe_slice sl_str ha hl hh) fun σ H Q ⟨δ, h, Z, R, rel, w, f⟩ => ?_
  simp only [wpE] at w
  refine ⟨δ, h, Z, _, rel, w, fun r δ1 h1 x H1 Z1 w1 A1 r1 => ?_⟩
  obtain ⟨Z1', A1', p1⟩ := A1.opd r1
  refine ⟨δ1, h1, Z1', _, A1'.rel, w1, fun l δ2 h2 H2 Z2 w2 A2 => ⟨δ2, h2, Z2, _, A2.rel, w2, fun u δ3 h3 H3 Z3 w3 A3 => ?_⟩⟩
  obtain ⟨z, er, hz, q⟩ := w3
  subst er
  rw [p1.str]
  exact ⟨z, rfl, hz, f _ _ _ _ _ _ q ((A1'.trans A2).trans A3) (.of (by simp only [Rep]))⟩
theorem se_fmt (ha : PE X a (tE X.K Y G sa)) : PE X (.FormattedValue a (-1) none pos) (tE X.K Y G (.fmt sa)) := by
  refine PE.imp (pe_fmt ha) fun σ H Q ⟨δ, h, Z, R, rel, w, f⟩ => ?_
  simp only [wpE] at w
  refine ⟨δ, h, Z, _, rel, w, fun r δ1 h1 x H1 Z1 w1 A1 r1 => ?_⟩
  obtain ⟨Z1', A1', p1⟩ := A1.opd r1
  unfold fmtS at w1
  split at w1
  · rw [p1.str]
    exact .inl ⟨_, rfl, w1.1, f _ _ _ _ _ _ w1.2 A1 (.of (by simp only [Rep]))⟩
  · rw [p1.int]
    exact .inr ⟨_, rfl, w1.1, f _ _ _ _ _ _ w1.2 A1 (.of (by simp only [Rep]))⟩
  · exact w1.elim
theorem fs_ok {K : PySem.W.Frag} {σ : L2.St} {Q : VK} {R : Post} {δ0 : SSt} {h0 : SHp} {H0 : Hp} {Z0 : ZS} (f : ∀ r δ' h' v H' Z', R r δ' h' → Aft K Y σ δ0 h0 H0 Z0 δ' h' H' Z' → RRep K Y σ H0 δ' h' Z' H' r v → Q v H') : ∀ (ss : List SE) (acc : Str) (δ : SSt) (h : SHp) (H : Hp) (Z : ZS), Aft K Y σ δ0 h0 H0 Z0 δ h H Z → wpFs G ss acc δ h R → tJs (ss.map (tE K Y G)) acc σ H fun out H1 => Q (.str out) H1
  | [], acc, δ, h, H, Z, A, w => by
    simp only [wpFs] at w
    exact f _ _ _ _ _ _ w A (.of (by simp only [Rep]))
  | s :: ss, acc, δ, h, H, Z, A, w => by
    simp only [wpFs] at w
    refine ⟨δ, h, Z, _, A.rel, w, fun r δ1 h1 v H1 Z1 ⟨y, er, hl, w1⟩ A1 rr => ?_⟩
    subst er
    obtain ⟨Z1', A1', p1⟩ := A1.opd rr
    exact ⟨y, p1.str, hl, fs_ok f ss (acc ++ y) δ1 h1 H1 Z1 (A.trans A1) w1⟩
theorem se_fs {v1 v2 : Expr} {rest : List Expr} {ss : List SE} (h : PJ X (v1 :: v2 :: rest) (ss.map (tE X.K Y G))) : PE X (.JoinedStr (v1 :: v2 :: rest) pos) (tE X.K Y G (.fs ss)) := by
  refine PE.imp (pe_joined h) fun σ H Q ⟨δ, h, Z, R, rel, w, f⟩ => ?_
  simp only [wpE] at w
  exact fs_ok f ss Str.empty δ h H Z (.refl rel) w
theorem se_fs1 (h : PE X a (tE X.K Y G sa)) : PE X (.JoinedStr [a] pos) (tE X.K Y G (.fs [sa])) := by
  refine PE.imp (pe_joined1 h) fun σ H Q ⟨δ, h, Z, R, rel, w, f⟩ => ?_
  simp only [wpE, wpFs] at w
  refine ⟨δ, h, Z, _, rel, w, fun r δ1 h1 v H1 Z1 ⟨y, er, hl, w1⟩ A1 rr => ?_⟩
  have e : Str.empty ++ y = y := by
    apply TL.ext_tl
    rw [TL.tl_append]
    rfl
  rw [e] at w1
  subst er
  exact f _ _ _ _ _ _ w1 A1 rr
theorem signs_get {z : Str} {i : Nat} {d : SV} (h : (signsS z)[i]? = some d) : ∃ c, z.cps[i]? = some c ∧ d = .str ⟨#[c]⟩ := by
  unfold signsS at h
  rw [List.getElem?_map, Array.getElem?_toList] at h
  obtain ⟨c, e1, e2⟩ := Option.map_eq_some_iff.mp h
  exact ⟨c, e1, e2.symm⟩
theorem it_txt {K : PySem.W.Frag} {Z0 : ZS} {H0 : Hp} {z : Str} : ItOk K Y Z0 H0 (fun _ => True) (signsS z) (Its z) := by
  intro i δ h σ H Z R k _
  refine ⟨fun d ed => ?_, fun hi => ?_⟩
  · obtain ⟨c, e1, rfl⟩ := signs_get ed
    have lt : i < z.cps.size := by
      rcases Nat.lt_or_ge i z.cps.size with h | h
      · exact h
      · rw [Array.getElem?_eq_none h] at e1
        cases e1
    refine ⟨lt, ?_⟩
    rintro x H' ⟨rfl, c', e2, rfl⟩
    rw [e1] at e2
    cases e2
    exact ⟨.refl R, by simp only [Rep]⟩
  · show z.cps.size ≤ i
    rw [hi]
    simp [signsS]
theorem si_txt {tg : Expr} (ha : PE X a (tE X.K Y G sa)) : PI X tg a (tI X.K Y G (.txt sa)) := by
  refine PI.imp (pi_str ha) fun σ H R' ⟨δ, h, Z, R, rel, w, f⟩ => ?_
  simp only [wpI] at w
  refine ⟨δ, h, Z, _, rel, w, fun r δ1 h1 v H1 Z1 ⟨z, er, q⟩ A rr => ?_⟩
  subst er
  obtain ⟨Z1', A1', p1⟩ := A.opd rr
  exact ⟨z, p1.str, f _ _ _ _ _ _ _ q A it_txt⟩
end
end SL
/-! S11: targets; list comprehensions. -/
namespace SL
open PySem PySem.Spec L2
section
variable {K : PySem.W.Frag} {Y : Ey} {σ σ' : L2.St} {δ δ' : SSt} {h : SHp} {H : Hp} {Z : ZS}
/-- a slot gets something plain -/
theorem Rel.assign (R : Rel K Y Z δ h σ H) {i : Nat} {d : SV} {v : V} (r : Rep K Z H d v) : Rel K Y Z (δ.set i (some d)) h (σ.set i (some v)) H := by
  have sl : ∀ {j : Nat} {x : SV}, (δ.set i (some d))[j]? = some (some x) → (j = i ∧ x = d ∧ i < δ.length) ∨ (j ≠ i ∧ δ[j]? = some (some x)) := fun {j x} q => by
    by_cases ij : i = j
    · subst ij
      by_cases hl : i < δ.length
      · rw [List.getElem?_set_self hl] at q
        cases q
        exact .inl ⟨rfl, rfl, hl⟩
      · rw [List.getElem?_eq_none (by rw [List.length_set]; omega)] at q; cases q
    · rw [List.getElem?_set_ne ij] at q
      exact .inr ⟨fun z => ij z.symm, q⟩
  refine ⟨R.hr, R.ent, by rw [List.length_set, List.length_set]; exact R.len, fun j x q => ?_, fun j m x y w q1 q2 o1 o2 s1 s2 => ?_⟩
  · rcases sl q with ⟨rfl, rfl, hl⟩ | ⟨ne, q⟩
    · exact ⟨v, List.getElem?_set_self (by rw [← R.len]; exact hl), .inr ⟨r.not_own, r⟩⟩
    · obtain ⟨w, ew, rr⟩ := R.slot j x q
      exact ⟨w, by rw [List.getElem?_set_ne (Ne.symm ne)]; exact ew, rr⟩
  · rcases sl q1 with ⟨_, e2, _⟩ | ⟨n1, q1⟩
    · rw [e2, r.not_own] at o1; cases o1
    rcases sl q2 with ⟨_, e2, _⟩ | ⟨n2, q2⟩
    · rw [e2, r.not_own] at o2; cases o2
    rw [List.getElem?_set_ne (Ne.symm n1)] at s1
    rw [List.getElem?_set_ne (Ne.symm n2)] at s2
    exact R.dist j m x y w q1 q2 o1 o2 s1 s2
/-- a slot gets an owned thing -/
theorem Rel.assignOwn (R : Rel K Y Z δ h σ H) {i : Nat} {d : SV} {a : Addr} (ow : d.isOwn = true) (oa : OwnAt K Z H a d) (n1 : h a = none) (n2 : ¬ Z a) (n3 : Y.H a = none) (no : ¬ Owns δ σ a) : Rel K Y Z (δ.set i (some d)) h (σ.set i (some (.ref a))) H := by
  have sl : ∀ {j : Nat} {x : SV}, (δ.set i (some d))[j]? = some (some x) → (j = i ∧ x = d ∧ i < δ.length) ∨ (j ≠ i ∧ δ[j]? = some (some x)) := fun {j x} q => by
    by_cases ij : i = j
    · subst ij
      by_cases hl : i < δ.length
      · rw [List.getElem?_set_self hl] at q
        cases q
        exact .inl ⟨rfl, rfl, hl⟩
      · rw [List.getElem?_eq_none (by rw [List.length_set]; omega)] at q; cases q
    · rw [List.getElem?_set_ne ij] at q
      exact .inr ⟨fun z => ij z.symm, q⟩
  refine ⟨R.hr, R.ent, by rw [List.length_set, List.length_set]; exact R.len, fun j x q => ?_, fun j m x y w q1 q2 o1 o2 s1 s2 => ?_⟩
  · rcases sl q with ⟨rfl, rfl, hl⟩ | ⟨ne, q⟩
    · exact ⟨_, List.getElem?_set_self (by rw [← R.len]; exact hl), .inl ⟨ow, a, rfl, oa, n1, n2, n3⟩⟩
    · obtain ⟨w, ew, rr⟩ := R.slot j x q
      exact ⟨w, by rw [List.getElem?_set_ne (Ne.symm ne)]; exact ew, rr⟩
  · rcases sl q1 with ⟨e1, _, hl1⟩ | ⟨m1, q1⟩
    · rcases sl q2 with ⟨e2, _, _⟩ | ⟨m2, q2⟩
      · rw [e1, e2]
      · rw [List.getElem?_set_ne (Ne.symm m2)] at s2
        rw [e1, List.getElem?_set_self (by rw [← R.len]; exact hl1)] at s1
        cases s1
        exact absurd ⟨m, y, q2, o2, s2⟩ no
    · rw [List.getElem?_set_ne (Ne.symm m1)] at s1
      rcases sl q2 with ⟨e2, _, hl2⟩ | ⟨m2, q2⟩
      · rw [e2, List.getElem?_set_self (by rw [← R.len]; exact hl2)] at s2
        cases s2
        exact absurd ⟨j, x, q1, o1, s1⟩ no
      · rw [List.getElem?_set_ne (Ne.symm m2)] at s2
        exact R.dist j m x y w q1 q2 o1 o2 s1 s2
end

mutual
def STg.slots : STg → List Nat
  | .nm i => [i]
  | .tup ts => slotsL ts
def slotsL : List STg → List Nat
  | [] => []
  | t :: ts => STg.slots t ++ slotsL ts
end
/-- the slots outside is are as they were -/
def Out (is : List Nat) (σ σ' : L2.St) : Prop := σ'.length = σ.length ∧ ∀ j, j ∉ is → σ'[j]? = σ[j]?
def OutS (is : List Nat) (δ δ' : SSt) : Prop := δ'.length = δ.length ∧ (∀ j, j ∉ is → δ'[j]? = δ[j]?) ∧ ∀ j d, j ∈ is → δ'[j]? = some (some d) → d.plain = true ∨ δ'[j]? = δ[j]?
def tG (K : PySem.W.Frag) (Y : Ey) (t : STg) : TG := fun v σ H Q => ∃ d δ h Z C, Rel K Y Z δ h σ H ∧ Rep K Z H d v ∧ tgS t d δ h C ∧
  ∀ δ' σ', C δ' h → Rel K Y Z δ' h σ' H → Out t.slots σ σ' → OutS t.slots δ δ' → Q σ' H
def tGs (K : PySem.W.Frag) (Y : Ey) (ts : List STg) : TGs := fun vs σ H Q => ∃ ds δ h Z C, Rel K Y Z δ h σ H ∧ Reps K Z H ds vs ∧ ds.length = ts.length ∧ tgsS ts ds δ h C ∧
  ∀ δ' σ', C δ' h → Rel K Y Z δ' h σ' H → Out (slotsL ts) σ σ' → OutS (slotsL ts) δ δ' → Q σ' H
theorem PG.imp {X : Cx} {e : Expr} {t t' : TG} (p : PG X e t) (f : ∀ v σ H Q, t' v σ H Q → t v σ H Q) : PG X e t' := ⟨fun pins s σ H v u Q I r h => p.run pins s σ H v u Q I r (f v σ H Q h)⟩
theorem PGs.imp {X : Cx} {es : List Expr} {t t' : TGs} (p : PGs X es t) (f : ∀ v σ H Q, t' v σ H Q → t v σ H Q) : PGs X es t' := ⟨fun pins s σ H v u Q I r h => p.run pins s σ H v u Q I r (f v σ H Q h)⟩
theorem Out.refl {is : List Nat} {σ : L2.St} : Out is σ σ := ⟨rfl, fun _ _ => rfl⟩
theorem Out.trans {is js : List Nat} {σ σ1 σ2 : L2.St} (a : Out is σ σ1) (b : Out js σ1 σ2) : Out (is ++ js) σ σ2 :=
  ⟨b.1.trans a.1, fun j hj => (b.2 j fun z => hj (List.mem_append_right _ z)).trans (a.2 j fun z => hj (List.mem_append_left _ z))⟩
theorem OutS.refl {is : List Nat} {δ : SSt} : OutS is δ δ := ⟨rfl, fun _ _ => rfl, fun _ _ _ _ => .inr rfl⟩
theorem OutS.trans {is js : List Nat} {δ δ1 δ2 : SSt} (a : OutS is δ δ1) (b : OutS js δ1 δ2) : OutS (is ++ js) δ δ2 := by
  refine ⟨b.1.trans a.1, fun j hj => (b.2.1 j fun z => hj (List.mem_append_right _ z)).trans (a.2.1 j fun z => hj (List.mem_append_left _ z)), fun j d hj e => ?_⟩
  by_cases hb : j ∈ js
  · rcases b.2.2 j d hb e with q | q
    · exact .inl q
    · by_cases ha : j ∈ is
      · rcases a.2.2 j d ha (q ▸ e) with p | p
        · exact .inl p
        · exact .inr (q.trans p)
      · exact .inr (q.trans (a.2.1 j ha))
  · have q := b.2.1 j hb
    by_cases ha : j ∈ is
    · rcases a.2.2 j d ha (q ▸ e) with p | p
      · exact .inl p
      · exact .inr (q.trans p)
    · exact .inr (q.trans (a.2.1 j ha))
section
variable {X : Cx} {Y : Ey} {pos : Pos}
theorem sg_name {i : Nat} {x : Str} (hN : X.N.Nodup) (hi : X.N[i]? = some x) (hx : Loc X.env.scope x) (hf : X.fn x = true ∨ X.env.scope.names.lookup x = some .local) : PG X (.Name x pos) (tG X.K Y (.nm i)) := by
  refine PG.imp (pg_name hN hi hx hf) fun v σ H Q ⟨d, δ, h, Z, C, rel, r, w, f⟩ => ?_
  simp only [tgS] at w
  refine f _ _ w.2 (rel.assign r) ⟨List.length_set, fun j hj => List.getElem?_set_ne fun z => hj (by rw [z]; simp [STg.slots])⟩ ⟨List.length_set, fun j hj => List.getElem?_set_ne fun z => hj (by rw [z]; simp [STg.slots]), fun j e hj ej => ?_⟩
  have hj' : j = i := by simpa [STg.slots] using hj
  subst hj'
  rw [List.getElem?_set_self w.1] at ej
  cases ej
  exact .inl r.plain
theorem sgs_nil : PGs X [] (tGs X.K Y []) := PGs.imp pgs_nil fun vs σ H Q ⟨ds, δ, h, Z, C, rel, r, hl, w, f⟩ => by
  have e : ds = [] := List.length_eq_zero_iff.mp hl
  subst e
  simp only [tgsS] at w
  exact ⟨r.nil_inv, f _ _ w rel .refl .refl⟩
theorem each_cons {e : Expr} {es : List Expr} {env : Env} (h : notStar e = true) : assignEach (e :: es) env = (false, assign e env) :: assignEach es env := by
  cases e <;> first | rfl | cases h
theorem sgs_cons {e : Expr} {es : List Expr} {t : STg} {ts : List STg} (h1 : PG X e (tG X.K Y t)) (h2 : PGs X es (tGs X.K Y ts)) (hs : notStar e = true) : PGs X (e :: es) (tGs X.K Y (t :: ts)) := by
  refine PGs.imp (pgs_cons h1 h2 (by rw [each_cons hs]; rfl)) fun vs σ H Q ⟨ds, δ, h, Z, C, rel, r, hl, w, f⟩ => ?_
  cases ds with
  | nil => cases hl
  | cons d ds =>
    obtain ⟨v, vr, ev, r1, r2⟩ := r.cons_inv
    subst ev
    simp only [tgsS] at w
    refine ⟨v, vr, rfl, d, δ, h, Z, _, rel, r1, w, fun δ1 σ1 w1 rel1 o1 p1 => ?_⟩
    refine ⟨ds, δ1, h, Z, _, rel1, r2, by simpa using hl, w1, fun δ2 σ2 w2 rel2 o2 p2 => ?_⟩
    exact f _ _ w2 rel2 (o1.trans o2) (p1.trans p2)
/-- a tuple or a list unpacked -/
theorem each_length : ∀ {es : List Expr} {env : Env}, (assignEach es env).length = es.length
  | [], _ => rfl
  | e :: es, env => by
    have ih := each_length (es := es) (env := env)
    cases e <;> (show (assignEach es env).length + 1 = es.length + 1; rw [ih])
theorem each_star : ∀ {es : List Expr} {env : Env}, es.all notStar = true → (assignEach es env).findIdx? (·.1) = none
  | [], _, _ => rfl
  | e :: es, env, h => by
    rw [List.all_cons, Bool.and_eq_true] at h
    rw [each_cons h.1, List.findIdx?_cons]
    simp [each_star h.2]
theorem PG.or {e : Expr} {t u : TG} (a : PG X e t) (b : PG X e u) : PG X e (fun v σ H Q => t v σ H Q ∨ u v σ H Q) := ⟨fun pins s σ H v w Q I r h => h.elim (a.run pins s σ H v w Q I r) (b.run pins s σ H v w Q I r)⟩
theorem sg_tup {es : List Expr} {k : Nat} {ts : List STg} (hc : X.calm = true) (h : PGs X es (tGs X.K Y ts)) (hs : es.all notStar = true) (hl : es.length = ts.length) : PG X (.Tuple es k pos) (tG X.K Y (.tup ts)) := by
  refine PG.imp (PG.or (pg_tup (n := ts.length) hc h (by rw [each_length, hl]) (each_star hs)) (pg_lst (n := ts.length) hc h (by rw [each_length, hl]) (each_star hs))) fun v σ H Q ⟨d, δ, h, Z, C, rel, r, w, f⟩ => ?_
  simp only [tgS] at w
  obtain ⟨b, xs, ev, hlen, w⟩ := w
  obtain ⟨a, vs, ex, rr, z⟩ := vw_ok rel.hr r ev
  have fin : tGs X.K Y ts vs σ H Q := ⟨xs, δ, h, Z, C, rel, rr, hlen, w, fun δ' σ' c rel' o p => f _ _ c rel' (by simpa only [STg.slots] using o) (by simpa only [STg.slots] using p)⟩
  rcases z with ⟨_, z⟩ | ⟨_, z, _⟩
  · exact .inl ⟨a, vs, ex, z, by rw [rr.length]; exact hlen, fin⟩
  · exact .inr ⟨a, vs, ex, z, by rw [rr.length]; exact hlen, fin⟩
end

/-! ### list comprehensions -/
theorem wipeS_get {δ : SSt} {i : Nat} : ∀ {vs : List Nat}, (wipeS δ vs)[i]? = if i ∈ vs then (δ[i]?).map (fun _ => none) else δ[i]?
  | [] => by simp [wipeS]
  | v :: vs => by
    have ih := wipeS_get (δ := δ) (i := i) (vs := vs)
    have ll : ∀ ws : List Nat, (wipeS δ ws).length = δ.length := fun ws => by
      induction ws with
      | nil => rfl
      | cons w ws ih => simp only [wipeS, List.length_set, ih]
    simp only [wipeS]
    by_cases e : v = i
    · subst e
      by_cases hl : v < δ.length
      · rw [List.getElem?_set_self (by rw [ll]; exact hl)]
        simp [hl]
      · rw [List.getElem?_eq_none (by rw [List.length_set, ll]; omega), List.getElem?_eq_none (by omega)]
        simp
    · rw [List.getElem?_set_ne e, ih]
      by_cases hi : i ∈ vs
      · simp [hi]
      · have : i ∉ v :: vs := by simp [hi]; exact fun z => e z.symm
        simp [hi, this]
theorem wipeS_length {δ : SSt} : ∀ {vs : List Nat}, (wipeS δ vs).length = δ.length
  | [] => rfl
  | v :: vs => by simp only [wipeS, List.length_set, wipeS_length]
theorem wipeS_some {δ : SSt} {vs : List Nat} {i : Nat} {d : SV} (e : (wipeS δ vs)[i]? = some (some d)) : i ∉ vs ∧ δ[i]? = some (some d) := by
  rw [wipeS_get] at e
  by_cases hi : i ∈ vs
  · rw [if_pos hi] at e
    cases q : δ[i]? with
    | none => rw [q] at e; cases e
    | some o => rw [q] at e; cases e
  · rw [if_neg hi] at e
    exact ⟨hi, e⟩
theorem backS_some {δ0 δ : SSt} : ∀ {vs : List Nat} {i : Nat} {d : SV}, (backS δ0 δ vs)[i]? = some (some d) → (i ∈ vs ∧ δ0[i]? = some (some d) ∧ d.plain = true) ∨ (i ∉ vs ∧ δ[i]? = some (some d))
  | [], _, _, e => .inr ⟨by simp, e⟩
  | v :: vs, i, d, e => by
    simp only [backS] at e
    by_cases vi : v = i
    · subst vi
      by_cases hl : v < (backS δ0 δ vs).length
      · rw [List.getElem?_set_self hl] at e
        have e' := Option.some.inj e
        split at e'
        · rename_i x q
          split at e'
          · rename_i pl
            cases e'
            exact .inl ⟨by simp, q, pl⟩
          · cases e'
        · cases e'
      · rw [List.getElem?_eq_none (by rw [List.length_set]; omega)] at e; cases e
    · rw [List.getElem?_set_ne vi] at e
      rcases backS_some e with ⟨m, q⟩ | ⟨m, q⟩
      · exact .inl ⟨List.mem_cons_of_mem _ m, q⟩
      · exact .inr ⟨fun z => (List.mem_cons.mp z).elim (fun z => vi z.symm) m, q⟩
theorem backS_length {δ0 δ : SSt} : ∀ {vs : List Nat}, (backS δ0 δ vs).length = δ.length
  | [] => rfl
  | v :: vs => by simp only [backS, List.length_set, backS_length]
end SL
/-! S12: list comprehensions. -/
namespace SL
open PySem PySem.Spec L2
section
variable {K : PySem.W.Frag} {Y : Ey} {σ σ2 : L2.St} {δ δ1 δ2 : SSt} {h h1 : SHp} {H H1 : Hp} {Z Z1 : ZS} {vs : List Nat}
theorem plain_own {d : SV} (p : d.plain = true) (o : d.isOwn = true) : False := by
  cases d <;> simp [SV.plain, SV.isOwn] at p o
theorem wipe_get {σ : L2.St} {i : Nat} (hi : i ∉ vs) : (wipe σ vs)[i]? = σ[i]? := wipe_out hi
theorem Rel.wipe (R : Rel K Y Z δ h σ H) : Rel K Y Z (wipeS δ vs) h (L2.wipe σ vs) H := by
  refine ⟨R.hr, R.ent, by rw [wipeS_length, wipe_length]; exact R.len, fun i d e => ?_, fun i j d e v q1 q2 o1 o2 s1 s2 => ?_⟩
  · obtain ⟨m, e⟩ := wipeS_some e
    obtain ⟨v, ev, r⟩ := R.slot i d e
    exact ⟨v, by rw [wipe_get m]; exact ev, r⟩
  · obtain ⟨m1, q1⟩ := wipeS_some q1
    obtain ⟨m2, q2⟩ := wipeS_some q2
    rw [wipe_get m1] at s1
    rw [wipe_get m2] at s2
    exact R.dist i j d e v q1 q2 o1 o2 s1 s2
theorem owns_wipe {a : Addr} (o : Owns (wipeS δ vs) (L2.wipe σ vs) a) : Owns δ σ a := by
  obtain ⟨i, d, e, ow, s⟩ := o
  obtain ⟨m, e⟩ := wipeS_some e
  rw [wipe_get m] at s
  exact ⟨i, d, e, ow, s⟩
theorem Rel.back (R0 : Rel K Y Z1 δ1 h1 σ H1) (R : Rel K Y Z δ h (L2.wipe σ vs) H) (k : Keeps Z1 H1 Z H) : Rel K Y Z (backS δ1 δ vs) h σ H := by
  refine ⟨R.hr, R.ent, by rw [backS_length, R.len, wipe_length], fun i d e => ?_, fun i j d e v q1 q2 o1 o2 s1 s2 => ?_⟩
  · rcases backS_some e with ⟨m, e, pl⟩ | ⟨m, e⟩
    · obtain ⟨v, ev, r⟩ := R0.slot i d e
      refine ⟨v, ev, ?_⟩
      rcases r with ⟨o, _⟩ | ⟨o, r⟩
      · exact (plain_own pl o).elim
      · exact .inr ⟨o, r.keeps k⟩
    · obtain ⟨v, ev, r⟩ := R.slot i d e
      rw [wipe_get m] at ev
      exact ⟨v, ev, r⟩
  · rcases backS_some q1 with ⟨_, _, p⟩ | ⟨m1, q1⟩
    · exact (plain_own p o1).elim
    rcases backS_some q2 with ⟨_, _, p⟩ | ⟨m2, q2⟩
    · exact (plain_own p o2).elim
    exact R.dist i j d e v q1 q2 o1 o2 (by rw [wipe_get m1]; exact s1) (by rw [wipe_get m2]; exact s2)
theorem owns_back {a : Addr} (o : Owns (backS δ1 δ vs) σ a) : Owns δ (L2.wipe σ vs) a := by
  obtain ⟨i, d, e, ow, s⟩ := o
  rcases backS_some e with ⟨_, _, p⟩ | ⟨m, e⟩
  · exact (plain_own p ow).elim
  · exact ⟨i, d, e, ow, by rw [wipe_get m]; exact s⟩
theorem out_wipe {is : List Nat} (hs : ∀ i ∈ is, i ∈ vs) (o : Out is (L2.wipe σ vs) σ2) : L2.wipe σ2 vs = L2.wipe σ vs := by
  apply List.ext_getElem?
  intro i
  have wg : ∀ (τ : L2.St), (L2.wipe τ vs)[i]? = if i ∈ vs then (τ[i]?).map (fun _ => none) else τ[i]? := fun τ => by
    have q : ∀ ws : List Nat, (L2.wipe τ ws)[i]? = if i ∈ ws then (τ[i]?).map (fun _ => none) else τ[i]? := fun ws => by
      induction ws with
      | nil => simp [L2.wipe]
      | cons w ws ih =>
        simp only [L2.wipe]
        by_cases e : w = i
        · subst e
          by_cases hl : w < τ.length
          · rw [List.getElem?_set_self (by rw [wipe_length]; exact hl)]
            simp [hl]
          · rw [List.getElem?_eq_none (by rw [List.length_set, wipe_length]; omega), List.getElem?_eq_none (by omega)]
            simp
        · rw [List.getElem?_set_ne e, ih]
          by_cases hi : i ∈ ws
          · simp [hi]
          · have : i ∉ w :: ws := by simp [hi]; exact fun z => e z.symm
            simp [hi, this]
    exact q vs
  rw [wg σ2]
  by_cases hi : i ∈ vs
  · rw [if_pos hi, wg σ, if_pos hi]
    have l : σ2.length = σ.length := by rw [o.1, wipe_length]
    by_cases hl : i < σ.length
    · rw [List.getElem?_eq_getElem hl, List.getElem?_eq_getElem (by omega)]; rfl
    · rw [List.getElem?_eq_none (by omega), List.getElem?_eq_none (by omega)]
  · rw [if_neg hi]
    exact o.2 i fun z => hi (hs i z)
/-- behind a target within a block: what was owned -/
theorem owns_out {is : List Nat} {a : Addr} (o : Out is σ σ2) (p : OutS is δ δ2) (w : ∀ i ∈ is, ∀ d, δ[i]? = some (some d) → d.isOwn = false) (q : Owns δ2 σ2 a) : Owns δ σ a := by
  obtain ⟨i, d, e, ow, s⟩ := q
  by_cases hi : i ∈ is
  · rcases p.2.2 i d hi e with z | z
    · exact (plain_own z ow).elim
    · rw [e] at z
      have := w i hi d z.symm
      rw [ow] at this; cases this
  · exact ⟨i, d, by rw [← p.2.1 i hi]; exact e, ow, by rw [← o.2 i hi]; exact s⟩
end
def tIfs (K : PySem.W.Frag) (Y : Ey) (G : Gm) : List SE → TT
  | [] => tYes
  | [e] => tT (tE K Y G e)
  | _ => fun _ _ _ => False

section
variable {X : Cx} {Y : Ey} {G : Gm} {pos : Pos}
/-- the state of a comprehension at turn i; o: ahead of it -/
structure LcAt (K : PySem.W.Frag) (Y : Ey) (σ : L2.St) (vs : List Nat) (D : Addr) (δ1 : SSt) (h1 : SHp) (H1 : Hp) (Z1 : ZS) (acc : List SV) (δ : SSt) (h : SHp) (H : Hp) (Z : ZS) : Prop where
  rel : Rel K Y Z δ h (L2.wipe σ vs) H
  fr : Fr (Owns δ1 σ) h1 H1 Z1 h H Z
  own : ∀ a, Owns δ (L2.wipe σ vs) a → Owns δ1 σ a
  new : ∃ us, H D = some (.lst us) ∧ Reps K Z H acc us
  un : h D = none
  nz : ¬ Z D
  wp : ∀ i ∈ vs, ∀ d, δ[i]? ≠ some (some d)
theorem lc_ok {own : List (Str × Nat)} {t : STg} {it : SIt} {ifs : List SE} {elt : SE} {σ : L2.St} {H : Hp} {Q : VK} (hs : ∀ i ∈ t.slots, i ∈ own.map (·.2)) (w : tE X.K Y G (.lc own t it ifs elt) σ H Q) :
    tLc (tI X.K Y G it) (tG X.K Y t) (tIfs X.K Y G.nox ifs) (tE X.K Y G.nox elt) (own.map (·.2)) σ H Q := by
  obtain ⟨δ0, h0, Z0, R, rel0, w, f⟩ := w
  simp only [wpE] at w
  refine ⟨δ0, h0, Z0, _, rel0, w, fun gd items δ1 h1 J H1 Z1 w1 A ok D nD => ?_⟩
  generalize hvs : own.map (·.2) = vs at *
  have r1 := A.rel
  have un1 : h1 D = none := r1.hr.un nD
  have nz1 : ¬ Z1 D := fun z => r1.hr.zin D z nD
  have nO1 : ¬ Owns δ1 σ D := (r1.fresh nD).2
  -- the invariant
  refine ⟨fun i m H => m = items.length - i ∧ i ≤ items.length ∧ ∃ acc δ h Z, LcAt X.K Y σ vs D δ1 h1 H1 Z1 acc δ h H Z ∧
    lcLoop gd vs (tgS t) (fun δ h R => wpIf G.nox ifs δ h R) (fun δ h R => wpE G.nox elt δ h R) (items.drop i) acc δ h fun acc δ2 h2 => R (.own acc) (backS δ1 δ2 vs) h2, ⟨items.length, rfl, Nat.zero_le _, [], wipeS δ1 vs, h1, Z1, ?_, by simpa using w1⟩, ?_⟩
  · have B := r1.aft_new (o := .lst []) nD
    refine ⟨B.rel.wipe, B.fr, fun a o => owns_wipe o, ⟨[], upd_same, .nil⟩, un1, nz1, fun i hi d e => (wipeS_some e).1 hi⟩
  · rintro i m H2 ⟨rfl, hi, acc, δ, h, Z, L, lp⟩
    have kp : Keeps Z1 H1 Z H2 := r1.keeps L.fr
    by_cases hlt : i < items.length
    · rw [List.drop_eq_getElem_cons hlt] at lp
      simp only [lcLoop] at lp
      obtain ⟨g, lp⟩ := lp
      obtain ⟨go, yl⟩ := (ok i δ h _ H2 Z L.rel kp g).1 items[i] (List.getElem?_eq_getElem hlt)
      refine .inr ⟨go, fun H' => ∃ acc δ h Z, LcAt X.K Y σ vs D δ1 h1 H1 Z1 acc δ h H' Z ∧ lcLoop gd vs (tgS t) (fun δ h R => wpIf G.nox ifs δ h R) (fun δ h R => wpE G.nox elt δ h R) (items.drop (i + 1)) acc δ h fun acc δ2 h2 => R (.own acc) (backS δ1 δ2 vs) h2,
        fun H' ⟨acc', δ', h', Z', L', lp'⟩ => ⟨_, by omega, rfl, hlt, acc', δ', h', Z', L', lp'⟩, fun x H' yy => ?_⟩
      obtain ⟨A2, rx⟩ := yl x H' yy
      refine ⟨items[i], δ, h, Z, _, A2.rel, rx, lp, fun δ3 σ3 w3 rel3 o3 p3 => ?_⟩
      have wz := out_wipe hs o3
      refine ⟨wz, ?_⟩
      -- from the turn's start (L) through the item (A2) to the target (rel3): fr and own over σ3
      have ow3 : ∀ a, Owns δ3 σ3 a → Owns δ (L2.wipe σ vs) a := fun a o => owns_out o3 p3 (fun j hj d e => absurd e (L.wp j (hs j hj) d)) o
      have frA : Fr (Owns δ1 σ) h1 H1 Z1 h H' Z := L.fr.trans A2.fr fun a o _ => L.own a o
      obtain ⟨us, eD, rD⟩ := L.new
      have nOD : ¬ Owns δ (L2.wipe σ vs) D := fun o => nO1 (L.own D o)
      have eD' : H' D = some (.lst us) := A2.fr.keep D _ eD L.un nOD
      have rD' : Reps X.K Z H' acc us := rD.keeps (L.rel.keeps A2.fr)
      -- the end of a turn
      have fin : ∀ {δ4 : SSt} {h4 : SHp} {H4 : Hp} {Z4 : ZS} {acc' : List SV}, Aft X.K Y σ3 δ3 h H' Z δ4 h4 H4 Z4 → (∃ vs', H4 D = some (.lst vs') ∧ Reps X.K Z4 H4 acc' vs') → LcAt X.K Y σ vs D δ1 h1 H1 Z1 acc' (wipeS δ4 vs) h4 H4 Z4 := fun {δ4 h4 H4 Z4 acc'} B nw => by
        have nOD3 : ¬ Owns δ3 σ3 D := fun o => nOD (ow3 D o)
        refine ⟨by rw [← wz]; exact B.rel.wipe, frA.trans B.fr fun a o _ => L.own a (ow3 a o), fun a o => ?_, nw, B.fr.untr D (by rw [eD']; exact Option.some_ne_none _) L.un nOD3, fun z => ?_, fun j hj d e => (wipeS_some e).1 hj⟩
        · rw [← wz] at o
          exact L.own a (ow3 a (B.own a (owns_wipe o)))
        · rcases B.fr.znew D z with q | q | q | q
          · exact L.nz q
          · rw [eD'] at q; cases q
          · exact q L.un
          · exact nOD3 q
      -- the test, then the element
      have body : ∀ {b : Bool} {δ5 : SSt} {h5 : SHp} {H5 : Hp} {Z5 : ZS}, Aft X.K Y σ3 δ3 h H' Z δ5 h5 H5 Z5 → (match b with
            | true => wpE G.nox elt δ5 h5 fun d δ3 h3 => stow d δ3 h3 fun e δ4 h4 => acc.length < sizeLine ∧ lcLoop gd vs (tgS t) (fun δ h R => wpIf G.nox ifs δ h R) (fun δ h R => wpE G.nox elt δ h R) (items.drop (i + 1)) (acc ++ [e]) (wipeS δ4 vs) h4 fun acc δ2 h2 => R (.own acc) (backS δ1 δ2 vs) h2
            | false => lcLoop gd vs (tgS t) (fun δ h R => wpIf G.nox ifs δ h R) (fun δ h R => wpE G.nox elt δ h R) (items.drop (i + 1)) acc (wipeS δ5 vs) h5 fun acc δ2 h2 => R (.own acc) (backS δ1 δ2 vs) h2) →
          if b = true then tE X.K Y G.nox elt σ3 H5 fun y H4 => ∃ ac, H4 D = some (.lst ac) ∧ ac.length < sizeLine ∧ (fun H' => ∃ acc δ h Z, LcAt X.K Y σ vs D δ1 h1 H1 Z1 acc δ h H' Z ∧ lcLoop gd vs (tgS t) (fun δ h R => wpIf G.nox ifs δ h R) (fun δ h R => wpE G.nox elt δ h R) (items.drop (i + 1)) acc δ h fun acc δ2 h2 => R (.own acc) (backS δ1 δ2 vs) h2) (upd H4 D (.lst (ac ++ [y])))
          else (fun H' => ∃ acc δ h Z, LcAt X.K Y σ vs D δ1 h1 H1 Z1 acc δ h H' Z ∧ lcLoop gd vs (tgS t) (fun δ h R => wpIf G.nox ifs δ h R) (fun δ h R => wpE G.nox elt δ h R) (items.drop (i + 1)) acc δ h fun acc δ2 h2 => R (.own acc) (backS δ1 δ2 vs) h2) H5 := fun {b δ5 h5 H5 Z5} B bw => by
        have nOD3 : ¬ Owns δ3 σ3 D := fun o => nOD (ow3 D o)
        have keepD : ∀ {δ6 : SSt} {h6 : SHp} {H6 : Hp} {Z6 : ZS}, Aft X.K Y σ3 δ3 h H' Z δ6 h6 H6 Z6 → H6 D = some (.lst us) ∧ Reps X.K Z6 H6 acc us := fun {δ6 h6 H6 Z6} C => ⟨C.fr.keep D _ eD' L.un nOD3, rD'.keeps (C.keeps rel3)⟩
        cases b with
        | false => exact iteF ⟨acc, _, h5, Z5, fin B ⟨us, keepD B⟩, bw⟩
        | true =>
          refine iteT ⟨δ5, h5, Z5, _, B.rel, bw, fun r δ6 h6 y H6 Z6 q C rr => ?_⟩
          have BC := B.trans C
          obtain ⟨r', δ7, Z7, ⟨hz, q2⟩, C2, pr⟩ := BC.stow (rr.back B) q
          obtain ⟨eD6, rD6⟩ := keepD C2
          refine ⟨us, eD6, by rw [rD6.length]; exact hz, acc ++ [r'], wipeS δ7 vs, h6, Z7, ?_, q2⟩
          -- the new list grows at D
          have un6 : h6 D = none := C2.fr.untr D (by rw [eD']; exact Option.some_ne_none _) L.un nOD3
          have nz6 : ¬ Z7 D := fun z => by
            rcases C2.fr.znew D z with q | q | q | q
            · exact L.nz q
            · rw [eD'] at q; cases q
            · exact q L.un
            · exact nOD3 q
          have ow6 : ¬ Owns δ7 σ3 D := fun o => nOD3 (C2.own D o)
          have k : Keeps Z7 H6 Z7 (upd H6 D (.lst (us ++ [y]))) := keeps_write nz6 (fun xs q => by rw [eD6] at q; cases q) (fun b w q => by rw [eD6] at q; cases q)
          have tr : ∀ b, H6 b ≠ none → upd H6 D (.lst (us ++ [y])) b ≠ none := fun b q z => by
            by_cases ba : b = D
            · subst ba; rw [upd_same] at z; cases z
            · rw [upd_ne ba] at z; exact q z
          have yD : Y.H D = none := (r1.fresh nD).1
          have relD : Rel X.K Y Z7 δ7 h6 σ3 (upd H6 D (.lst (us ++ [y]))) := by
            have R7 := C2.rel
            refine ⟨⟨fun p c q => (R7.hr.cell p c q).keeps k (upd_ne fun z => by rw [z, un6] at q; cases q), R7.hr.frz, fun b z => tr b (R7.hr.zin b z)⟩, ⟨⟨fun b w q n f => ?_, R7.ent.untr, fun b q => tr b (R7.ent.track b q), R7.ent.zmono, R7.ent.znew⟩, R7.ent.anc.trans k⟩, R7.len, fun j x q => ?_, R7.dist⟩
            · rw [upd_ne fun z => by rw [z, yD] at q; cases q]
              exact R7.ent.keep b w q n f
            · obtain ⟨v, ev, r⟩ := R7.slot j x q
              refine ⟨v, ev, ?_⟩
              rcases r with ⟨ox, b, eb, ob, r⟩ | ⟨ox, r⟩
              · refine .inl ⟨ox, b, eb, ob.keeps k (upd_ne fun z => ?_), r⟩
                subst z eb
                exact ow6 ⟨j, x, q, ox, ev⟩
              · exact .inr ⟨ox, r.keeps k⟩
          have L7 := fin C2 ⟨us, eD6, rD6⟩
          refine ⟨by rw [← wz]; exact relD.wipe, ⟨fun b w q n f => ?_, L7.fr.untr, fun b q => tr b (L7.fr.track b q), L7.fr.zmono, L7.fr.znew⟩, L7.own, ⟨us ++ [y], upd_same, (rD6.append (.cons pr .nil)).keeps k⟩, un6, nz6, L7.wp⟩
          rw [upd_ne fun z => by rw [z, nD] at q; cases q]
          exact L7.fr.keep b w q n f
      cases ifs with
      | nil =>
        simp only [wpIf] at w3
        exact body (b := true) (.refl rel3) w3
      | cons c cs =>
        cases cs with
        | cons _ _ => simp only [wpIf] at w3
        | nil =>
          simp only [wpIf] at w3
          refine ⟨δ3, h, Z, _, rel3, w3, fun r δ5 h5 v H5 Z5 ⟨b, er, q⟩ B rr => ?_⟩
          subst er
          exact ⟨b, rr.bl, body B q⟩
    · have e : i = items.length := by omega
      subst e
      rw [List.drop_length] at lp
      simp only [lcLoop] at lp
      obtain ⟨g, q⟩ := lp
      refine .inl ⟨(ok _ δ h _ H2 Z L.rel kp g).2 rfl, ?_⟩
      obtain ⟨us, eD, rD⟩ := L.new
      have B : Aft X.K Y σ δ1 h1 H1 Z1 (backS δ1 δ vs) h H2 Z := ⟨r1.back L.rel kp, L.fr, fun a o => L.own a (owns_back o)⟩
      refine f _ _ _ _ _ _ q (A.trans B) (.inl ⟨rfl, D, rfl, ⟨us, eD, rD⟩, L.un, L.nz, (r1.fresh nD).1, fun o => nO1 (B.own D o), ?_⟩)
      cases q : H D with
      | none => rfl
      | some u => exact absurd nD (A.fr.track D (by rw [q]; exact Option.some_ne_none _))
end
end SL
/-! S13: statements. -/
namespace SL
open PySem PySem.Spec L2

/-- what is wanted behind a statement; Z, H: ahead of it -/
structure EndsOk (K : PySem.W.Frag) (Y : Ey) (Z : ZS) (H : Hp) (R : SEnds) (D : Ends) : Prop where
  nx : ∀ δ' h' σ' H' Z', R.nx δ' h' → Rel K Y Z' δ' h' σ' H' → Keeps Z H Z' H' → D.nx σ' H'
  bk : ∀ δ' h' σ' H' Z', R.bk δ' h' → Rel K Y Z' δ' h' σ' H' → Keeps Z H Z' H' → D.bk σ' H'
  ct : ∀ δ' h' σ' H' Z', R.ct δ' h' → Rel K Y Z' δ' h' σ' H' → Keeps Z H Z' H' → D.ct σ' H'
  rt : ∀ d h' v H' Z', R.rt d h' → HRel K Z' h' H' → Fr (fun _ => False) Y.h Y.H Y.Z h' H' Z' → RetRep K Y.H h' Z' H' d v → D.rt v H'
theorem EndsOk.mono {K : PySem.W.Frag} {Y : Ey} {Z Z1 : ZS} {H H1 : Hp} {R : SEnds} {D : Ends} (e : EndsOk K Y Z H R D) (k : Keeps Z H Z1 H1) : EndsOk K Y Z1 H1 R D :=
  ⟨fun δ h σ H Z r q x => e.nx δ h σ H Z r q (k.trans x), fun δ h σ H Z r q x => e.bk δ h σ H Z r q (k.trans x), fun δ h σ H Z r q x => e.ct δ h σ H Z r q (k.trans x), e.rt⟩
def tS (K : PySem.W.Frag) (Y : Ey) (G : Gm) (s : SS) : TS := fun D σ H => ∃ δ h Z R, Rel K Y Z δ h σ H ∧ wpS G s δ h R ∧ EndsOk K Y Z H R D
def tSs (K : PySem.W.Frag) (Y : Ey) (G : Gm) (s : List SS) : TS := fun D σ H => ∃ δ h Z R, Rel K Y Z δ h σ H ∧ wpSs G s δ h R ∧ EndsOk K Y Z H R D
theorem PS.imp {X : Cx} {e : Stmt} {t t' : TS} (p : PS X e t) (f : ∀ D σ H, t' D σ H → t D σ H) : PS X e t' := ⟨fun pins s σ H D I h => p.run pins s σ H D I (f D σ H h)⟩
theorem PSs.imp {X : Cx} {e : List Stmt} {t t' : TS} (p : PSs X e t) (f : ∀ D σ H, t' D σ H → t D σ H) : PSs X e t' := ⟨fun pins s σ H D I h => p.run pins s σ H D I (f D σ H h)⟩
section
variable {X : Cx} {Y : Ey} {G : Gm} {e a b c : Expr} {s sa sb sc : SE} {pos : Pos} {st : Stmt} {sts : List Stmt} {z : SS} {zs : List SS}
theorem ss_nil : PSs X [] (tSs X.K Y G []) := PSs.imp pss_nil fun D σ H ⟨δ, h, Z, R, rel, w, f⟩ => by
  simp only [wpSs] at w
  exact f.nx _ _ _ _ _ w rel .refl
theorem ss_cons (h1 : PS X st (tS X.K Y G z)) (h2 : PSs X sts (tSs X.K Y G zs)) : PSs X (st :: sts) (tSs X.K Y G (z :: zs)) := by
  refine PSs.imp (pss_cons h1 h2) fun D σ H ⟨δ, h, Z, R, rel, w, f⟩ => ?_
  simp only [wpSs] at w
  exact ⟨δ, h, Z, _, rel, w, ⟨fun δ' h' σ' H' Z' q rel' k => ⟨δ', h', Z', R, rel', q, f.mono k⟩, f.bk, f.ct, f.rt⟩⟩
theorem s_pass : PS X (.Pass pos) (tS X.K Y G .pass) := PS.imp ps_pass fun D σ H ⟨δ, h, Z, R, rel, w, f⟩ => by
  simp only [wpS] at w
  exact f.nx _ _ _ _ _ w rel .refl
theorem s_brk : PS X (.Break pos) (tS X.K Y G .brk) := PS.imp ps_break fun D σ H ⟨δ, h, Z, R, rel, w, f⟩ => by
  simp only [wpS] at w
  exact f.bk _ _ _ _ _ w rel .refl
theorem s_cont : PS X (.Continue pos) (tS X.K Y G .cont) := PS.imp ps_continue fun D σ H ⟨δ, h, Z, R, rel, w, f⟩ => by
  simp only [wpS] at w
  exact f.ct _ _ _ _ _ w rel .refl
/-- not a comprehension -/
def notComp : Expr → Bool
  | .ListComp _ _ _ _ => false
  | .SetComp _ _ _ _ => false
  | .DictComp _ _ _ _ _ => false
  | _ => true
theorem noSwap {t : Option Expr} {l : Nat} {env : Env} (h : notComp e = true) : swapsWith e t l env = pure false := by
  cases e <;> first | rfl | cases h
theorem s_exp (he : PE X e (tE X.K Y G s)) (hn : notComp e = true) : PS X (.Expr e pos) (tS X.K Y G (.exp s)) := by
  refine PS.imp (ps_expr he (noSwap hn)) fun D σ H ⟨δ, h, Z, R, rel, w, f⟩ => ?_
  simp only [wpS] at w
  exact ⟨δ, h, Z, _, rel, w, fun r δ1 h1 v H1 Z1 q A rr => f.nx _ _ _ _ _ q A.rel (A.keeps rel)⟩
theorem ret_ok {σ : L2.St} {H H1 : Hp} {δ δ1 : SSt} {h h1 : SHp} {Z Z1 : ZS} {r : SV} {v : V} {K : PySem.W.Frag} {C : SV → SHp → Prop} (A : Aft K Y σ δ h H Z δ1 h1 H1 Z1) (rr : RRep K Y σ H δ1 h1 Z1 H1 r v) (q : retS r δ1 h1 C) : ∃ d, C d h1 ∧ RetRep K Y.H h1 Z1 H1 d v := by
  rcases rr with ⟨o, a, ev, oa, q1, q2, q3, q4, q5⟩ | ⟨i, er, sv⟩ | ⟨p, rr⟩
  · refine ⟨r, ?_, .inl ⟨o, a, ev, oa, q1, q2, q3⟩⟩
    cases r <;> first | exact q | cases o
  · subst er
    simp only [retS] at q
    cases d : δ1[i]? with
    | none => rw [d] at q; exact q.elim
    | some od =>
      cases od with
      | none => rw [d] at q; exact q.elim
      | some d' =>
        rw [d] at q
        cases hown : d'.isOwn with
        | false =>
          exfalso
          cases d' <;> first | exact q | cases hown
        | true =>
          obtain ⟨a, sa, oa, n1, n2, n3, _⟩ := A.rel.ownSlot d hown
          rw [sv] at sa
          cases sa
          refine ⟨d', ?_, .inl ⟨hown, a, rfl, oa, n1, n2, n3⟩⟩
          cases d' <;> first | exact q | cases hown
  · refine ⟨r, ?_, .inr ⟨p, rr⟩⟩
    cases r <;> first | exact q | cases p
theorem s_ret (he : PE X e (tE X.K Y G s)) : PS X (.Return (some e) pos) (tS X.K Y G (.ret s)) := by
  refine PS.imp (ps_ret he) fun D σ H ⟨δ, h, Z, R, rel, w, f⟩ => ?_
  simp only [wpS] at w
  refine ⟨δ, h, Z, _, rel, w, fun r δ1 h1 v H1 Z1 q A rr => ?_⟩
  obtain ⟨d, q, rd⟩ := ret_ok A rr q
  exact f.rt _ _ _ _ _ q A.rel.hr A.rel.ent.toFr rd
theorem s_ret0 : PS X (.Return none pos) (tS X.K Y G .ret0) := PS.imp ps_retN fun D σ H ⟨δ, h, Z, R, rel, w, f⟩ => by
  simp only [wpS] at w
  exact f.rt _ _ _ _ _ w rel.hr rel.ent.toFr (.inr ⟨rfl, by simp only [Rep]⟩)
theorem s_ife {ba bb : List Stmt} {za zb : List SS} (hc : PT X c (tT (tE X.K Y G sc))) (ha : PSs X ba (tSs X.K Y G za)) (hb : PSs X bb (tSs X.K Y G zb)) : PS X (.If c ba bb pos) (tS X.K Y G (.ife sc za zb)) := by
  refine PS.imp (ps_if hc ha hb) fun D σ H ⟨δ, h, Z, R, rel, w, f⟩ => ?_
  simp only [wpS] at w
  refine ⟨δ, h, Z, _, rel, w, fun r δ1 h1 v H1 Z1 ⟨k, er, q⟩ A rr => ?_⟩
  subst er
  refine ⟨k, rr.bl, ?_⟩
  cases k with
  | true => exact iteT ⟨δ1, h1, Z1, R, A.rel, q, f.mono (A.keeps rel)⟩
  | false => exact iteF ⟨δ1, h1, Z1, R, A.rel, q, f.mono (A.keeps rel)⟩

/-! ### assignments -/
theorem asgName_ok {σ : L2.St} {H H1 : Hp} {δ δ1 : SSt} {h h1 : SHp} {Z Z1 : ZS} {r : SV} {v : V} {i : Nat} {C : SSt → SHp → Prop} {Q : L2.St → Hp → Prop} (rel : Rel X.K Y Z δ h σ H) (A : Aft X.K Y σ δ h H Z δ1 h1 H1 Z1) (rr : RRep X.K Y σ H δ1 h1 Z1 H1 r v) (q : asgS (.nm i) r δ1 h1 C)
    (f : ∀ δ' h' σ' H' Z', C δ' h' → Rel X.K Y Z' δ' h' σ' H' → Keeps Z H Z' H' → Q σ' H') : gName i v σ H1 Q := by
  show Q (σ.set i (some v)) H1
  have pl : ∀ {r : SV}, RRep X.K Y σ H δ1 h1 Z1 H1 r v → (stow r δ1 h1 fun d' δ' h' => i < δ'.length ∧ C (δ'.set i (some d')) h') → Q (σ.set i (some v)) H1 := fun {r} rr q => by
    obtain ⟨r', δ2, Z2, ⟨hl, q⟩, A2, p⟩ := A.stow rr q
    exact f _ _ _ _ _ q (A2.rel.assign p) (A2.keeps rel)
  cases r with
  | own xs =>
    rcases rr with ⟨o, a, ev, oa, q1, q2, q3, q4, q5⟩ | ⟨j, ej, _⟩ | ⟨p, _⟩
    · subst ev
      exact f _ _ _ _ _ q.2 (A.rel.assignOwn rfl oa q1 q2 q3 q4) (A.keeps rel)
    · cases ej
    · cases p
  | ownD kvs =>
    rcases rr with ⟨o, a, ev, oa, q1, q2, q3, q4, q5⟩ | ⟨j, ej, _⟩ | ⟨p, _⟩
    · subst ev
      exact f _ _ _ _ _ q.2 (A.rel.assignOwn rfl oa q1 q2 q3 q4) (A.keeps rel)
    · cases ej
    · cases p
  | _ => exact pl rr q
theorem s_asgn {i : Nat} {x : Str} {p' : Pos} (hN : X.N.Nodup) (hi : X.N[i]? = some x) (hx : Loc X.env.scope x) (hf : X.fn x = true ∨ X.env.scope.names.lookup x = some .local) (he : PE X e (tE X.K Y G s)) (hs : swapsWith e (some (.Name x p')) pos.line X.env = pure false) :
    PS X (.Assign [.Name x p'] e pos) (tS X.K Y G (.asg (.nm i) s)) := by
  refine PS.imp (ps_set hN hi hx he hs hf) fun D σ H ⟨δ, h, Z, R, rel, w, f⟩ => ?_
  simp only [wpS] at w
  exact ⟨δ, h, Z, _, rel, w, fun r δ1 h1 v H1 Z1 q A rr => asgName_ok rel A rr q f.nx⟩
/-- name = [..] on one line -/
theorem s_asgLc {i : Nat} {y : Str} {py spos : Pos} {elt tg iter : Expr} {ifs : List Expr} {scope : Scope} {own : List (Str × Nat)} {t : STg} {it : SIt} {sifs : List SE} {selt : SE} (hc : X.calm = true) (hN : X.N.Nodup) (hy : X.N[i]? = some y) (hyl : X.env.scope.names.lookup y = some .local)
    (hsw : swapsWith (.ListComp elt [⟨tg, iter, ifs, 0⟩] scope pos) (some (.Name y py)) spos.line X.env = pure true) (hi : PI X tg iter (tI X.K Y G it)) (ok : BlkOk X.N X.env.scope scope own) (hsl : ∀ i ∈ t.slots, i ∈ own.map (·.2))
    (hg : ∀ (s : Shared) (H : Hp) (C : Addr) (cl : List (Str × Addr)) (fp : List Addr), PG (X.blk s H scope (PySem.compEnvC scope cl C X.env) fp) tg (tG X.K Y t)) (ht : ∀ (s : Shared) (H : Hp) (C : Addr) (cl : List (Str × Addr)) (fp : List Addr), PTs (X.blk s H scope (PySem.compEnvC scope cl C X.env) fp) ifs (tIfs X.K Y G.nox sifs))
    (he : ∀ (s : Shared) (H : Hp) (C : Addr) (cl : List (Str × Addr)) (fp : List Addr), PE (X.blk s H scope (PySem.compEnvC scope cl C X.env) fp) elt (tE X.K Y G.nox selt)) (hs : ∀ x, foldedSetIterable iter X.env x = pure x) :
    PS X (.Assign [.Name y py] (.ListComp elt [⟨tg, iter, ifs, 0⟩] scope pos) spos) (tS X.K Y G (.asg (.nm i) (.lc own t it sifs selt))) := by
  refine PS.imp (ps_setLc hc hN hy hyl hsw hi ok hg ht he hs) fun D σ H ⟨δ, h, Z, R, rel, w, f⟩ => ?_
  simp only [wpS] at w
  exact lc_ok hsl ⟨δ, h, Z, _, rel, w, fun r δ1 h1 v H1 Z1 q A rr => asgName_ok rel A rr q f.nx⟩
theorem se_lc {elt tg iter : Expr} {ifs : List Expr} {scope : Scope} {own : List (Str × Nat)} {t : STg} {it : SIt} {sifs : List SE} {selt : SE} (hc : X.calm = true) (hN : X.N.Nodup) (hi : PI X tg iter (tI X.K Y G it)) (ok : BlkOk X.N X.env.scope scope own) (hsl : ∀ i ∈ t.slots, i ∈ own.map (·.2))
    (hg : ∀ (s : Shared) (H : Hp) (C : Addr) (cl : List (Str × Addr)) (fp : List Addr), PG (X.blk s H scope (PySem.compEnvC scope cl C X.env) fp) tg (tG X.K Y t)) (ht : ∀ (s : Shared) (H : Hp) (C : Addr) (cl : List (Str × Addr)) (fp : List Addr), PTs (X.blk s H scope (PySem.compEnvC scope cl C X.env) fp) ifs (tIfs X.K Y G.nox sifs))
    (he : ∀ (s : Shared) (H : Hp) (C : Addr) (cl : List (Str × Addr)) (fp : List Addr), PE (X.blk s H scope (PySem.compEnvC scope cl C X.env) fp) elt (tE X.K Y G.nox selt)) (hs : ∀ x, foldedSetIterable iter X.env x = pure x) :
    PE X (.ListComp elt [⟨tg, iter, ifs, 0⟩] scope pos) (tE X.K Y G (.lc own t it sifs selt)) := PE.imp (pe_lc hc hN hi ok hg ht he hs) fun σ H Q w => lc_ok hsl w
theorem asgTup_ok {σ : L2.St} {H H1 : Hp} {δ δ1 : SSt} {h h1 : SHp} {Z Z1 : ZS} {r : SV} {v : V} {ts : List STg} {C : SSt → SHp → Prop} {Q : L2.St → Hp → Prop} (rel : Rel X.K Y Z δ h σ H) (A : Aft X.K Y σ δ h H Z δ1 h1 H1 Z1) (rr : RRep X.K Y σ H δ1 h1 Z1 H1 r v) (q : asgS (.tup ts) r δ1 h1 C)
    (f : ∀ δ' h' σ' H' Z', C δ' h' → Rel X.K Y Z' δ' h' σ' H' → Keeps Z H Z' H' → Q σ' H') : tG X.K Y (.tup ts) v σ H1 Q := by
  have q' : stow r δ1 h1 (fun d' δ' h' => tgS (.tup ts) d' δ' h' C) := q
  obtain ⟨r', δ2, Z2, q, A2, p⟩ := A.stow rr q'
  exact ⟨r', δ2, h1, Z2, _, A2.rel, p, q, fun δ' σ' c rel' _ _ => f _ _ _ _ _ c rel' (A2.keeps rel)⟩
/-- a display of a tuple -/
def notTup : Expr → Bool
  | .Tuple _ _ _ => false
  | _ => true
theorem noStores {es : List Expr} {k : Nat} {p : Pos} {env : Env} (h : notTup e = true) : swappedStores [.Tuple es k p] e env = pure none := by
  cases e <;> first | rfl | cases h
theorem soleSwap {es : List Expr} {k : Nat} {p : Pos} {l : Nat} {env : Env} : swapsWithSole [.Tuple es k p] e l env = pure false := by
  cases e <;> rfl
theorem s_asgt {es : List Expr} {k : Nat} {p : Pos} {ts : List STg} (hg : PG X (.Tuple es k p) (tG X.K Y (.tup ts))) (he : PE X e (tE X.K Y G s)) (hw : swappedStores [.Tuple es k p] e X.env = pure none) : PS X (.Assign [.Tuple es k p] e pos) (tS X.K Y G (.asg (.tup ts) s)) := by
  refine PS.imp (ps_asg he hg soleSwap hw rfl) fun D σ H ⟨δ, h, Z, R, rel, w, f⟩ => ?_
  simp only [wpS] at w
  exact ⟨δ, h, Z, _, rel, w, fun r δ1 h1 v H1 Z1 q A rr => asgTup_ok rel A rr q f.nx⟩
theorem s_par {i j : Nat} {x y : Str} {px py pt : Pos} {kt k2 : Nat} {pt2 : Pos} (hc : X.calm = true) (hN : X.N.Nodup) (hi : X.N[i]? = some x) (hj : X.N[j]? = some y) (hij : i ≠ j) (hx : X.env.scope.names.lookup x = some .local) (hy : X.env.scope.names.lookup y = some .local)
    (ha : PA X [a, b] (tStL X.K Y G [sa, sb])) (hw : swappedStores [.Tuple [.Name x px, .Name y py] kt pt] (.Tuple [a, b] k2 pt2) X.env = pure (some [x, y])) :
    PS X (.Assign [.Tuple [.Name x px, .Name y py] kt pt] (.Tuple [a, b] k2 pt2) pos) (tS X.K Y G (.par i j sa sb)) := by
  refine PS.imp (ps_par hc hN hi hj hij hx hy ha hw soleSwap) fun D σ H ⟨δ, h, Z, R, rel, w, f⟩ => ?_
  simp only [wpS] at w
  refine ⟨δ, h, Z, _, rel, w, fun rs δ1 h1 vs H1 Z1 ⟨v, u, e, hl1, hl2, q⟩ A r => ?_⟩
  subst e
  obtain ⟨v', vr, ev, r1, r2⟩ := r.cons_inv
  obtain ⟨u', ur, eu, r3, r4⟩ := r2.cons_inv
  have en := r4.nil_inv
  subst en eu ev
  exact ⟨v', u', rfl, f.nx _ _ _ _ _ q ((A.rel.assign r1).assign r3) (A.keeps rel)⟩
/-- two plain local names get two values: the stores are exchanged -/
theorem stores2 {x y : Str} {px py pt : Pos} {kt k2 : Nat} {pt2 : Pos} {env : Env} (hk : env.scope.kind = .function) (hx : env.scope.names.lookup x = some .local) (hy : env.scope.names.lookup y = some .local) (hl : (py.line == px.line) = true) (hxy : (y == x) = false)
    (h1 : notStar a = true) (h2 : notStar b = true) (h3 : ([a, b].all (foldedForSure 8)) = false) (h4 : ([a, b].all (constantsAlone 8)) = false) :
    swappedStores [.Tuple [.Name x px, .Name y py] kt pt] (.Tuple [a, b] k2 pt2) env = pure (some [x, y]) := by
  have kx : env.kindOf x = some .local := hx
  have ky : env.kindOf y = some .local := hy
  have hb : env.blockKind = .function := by unfold Env.blockKind; rw [hk]; rfl
  have na : ∀ {e : Expr}, notStar e = true → (match e with | .Starred .. => true | _ => false) = false := fun {e} h => by cases e <;> first | rfl | cases h
  have n1 := na h1
  have n2 := na h2
  have e1 : (Expr.Name x px).pos.line = px.line := rfl
  have hl' : py.line = px.line := beq_iff_eq.mp hl
  have xy : ¬ y = x := fun z => by rw [z, beq_self_eq_true] at hxy; cases hxy
  unfold swappedStores
  simp only [hb, kx, ky, h3, h4, List.length_cons, List.length_nil, List.head?_cons, Option.map_some, Option.getD_some, e1, hl', beq_self_eq_true, List.filterMap_cons, List.filterMap_nil, Bool.and_self, if_true]
  have ed : ([x, y] : List Str).eraseDups = [x, y] := by
    simp [List.eraseDups_cons, xy]
  simp [ed]
  rintro (z | z)
  · exfalso; cases a <;> first | (cases h1; done) | (cases z; done)
  · exfalso; cases b <;> first | (cases h2; done) | (cases z; done)
theorem s_par3 {i j l : Nat} {x y z : Str} {px py pz pt : Pos} {kt k2 : Nat} {pt2 : Pos} (hc : X.calm = true) (hN : X.N.Nodup) (hi : X.N[i]? = some x) (hj : X.N[j]? = some y) (hl : X.N[l]? = some z) (hij : i ≠ j) (hil : i ≠ l) (hjl : j ≠ l)
    (hx : X.env.scope.names.lookup x = some .local) (hy : X.env.scope.names.lookup y = some .local) (hz : X.env.scope.names.lookup z = some .local)
    (ha : PA X [a, b, c] (tStL X.K Y G [sa, sb, sc])) (hw : swappedStores [.Tuple [.Name x px, .Name y py, .Name z pz] kt pt] (.Tuple [a, b, c] k2 pt2) X.env = pure (some [x, y, z])) :
    PS X (.Assign [.Tuple [.Name x px, .Name y py, .Name z pz] kt pt] (.Tuple [a, b, c] k2 pt2) pos) (tS X.K Y G (.par3 i j l sa sb sc)) := by
  refine PS.imp (ps_par3 hc hN hi hj hl hij hil hjl hx hy hz ha hw soleSwap) fun D σ H ⟨δ, h, Z, R, rel, w, f⟩ => ?_
  simp only [wpS] at w
  refine ⟨δ, h, Z, _, rel, w, fun rs δ1 h1 vs H1 Z1 ⟨u1, u2, u3, e, hl1, hl2, hl3, q⟩ A r => ?_⟩
  subst e
  obtain ⟨v1, vr, ev, r1, t1⟩ := r.cons_inv
  obtain ⟨v2, ur, eu, r2, t2⟩ := t1.cons_inv
  obtain ⟨v3, wr, ew, r3, t3⟩ := t2.cons_inv
  have en := t3.nil_inv
  subst en ew eu ev
  exact ⟨v1, v2, v3, rfl, f.nx _ _ _ _ _ q (((A.rel.assign r1).assign r2).assign r3) (A.keeps rel)⟩
theorem stores3 {x y z : Str} {px py pz pt : Pos} {kt k2 : Nat} {pt2 : Pos} {env : Env} (hk : env.scope.kind = .function) (hx : env.scope.names.lookup x = some .local) (hy : env.scope.names.lookup y = some .local) (hz : env.scope.names.lookup z = some .local)
    (hl : (py.line == px.line) = true) (hl2 : (pz.line == px.line) = true) (hxy : (y == x) = false) (hxz : (z == x) = false) (hyz : (z == y) = false)
    (h1 : notStar a = true) (h2 : notStar b = true) (h0 : notStar c = true) (h3 : ([a, b, c].all (foldedForSure 8)) = false) (h4 : ([a, b, c].all (constantsAlone 8)) = false) :
    swappedStores [.Tuple [.Name x px, .Name y py, .Name z pz] kt pt] (.Tuple [a, b, c] k2 pt2) env = pure (some [x, y, z]) := by
  have kx : env.kindOf x = some .local := hx
  have ky : env.kindOf y = some .local := hy
  have kz : env.kindOf z = some .local := hz
  have hb : env.blockKind = .function := by unfold Env.blockKind; rw [hk]; rfl
  have e1 : (Expr.Name x px).pos.line = px.line := rfl
  have hl' : py.line = px.line := beq_iff_eq.mp hl
  have hl2' : pz.line = px.line := beq_iff_eq.mp hl2
  have xy : ¬ y = x := fun q => by rw [q, beq_self_eq_true] at hxy; cases hxy
  have xz : ¬ z = x := fun q => by rw [q, beq_self_eq_true] at hxz; cases hxz
  have yz : ¬ z = y := fun q => by rw [q, beq_self_eq_true] at hyz; cases hyz
  unfold swappedStores
  simp only [hb, kx, ky, kz, h3, h4, List.length_cons, List.length_nil, List.head?_cons, Option.map_some, Option.getD_some, e1, hl', hl2', beq_self_eq_true, List.filterMap_cons, List.filterMap_nil, Bool.and_self, if_true]
  have ed : ([x, y, z] : List Str).eraseDups = [x, y, z] := by
    simp [List.eraseDups_cons, xy, xz, yz]
  simp [ed]
  rintro (q | q | q)
  · exfalso; cases a <;> first | (cases h1; done) | (cases q; done)
  · exfalso; cases b <;> first | (cases h2; done) | (cases q; done)
  · exfalso; cases c <;> first | (cases h0; done) | (cases q; done)
end
end SL
/-! S14: loops, stores by place. -/
namespace SL
open PySem PySem.Spec L2
section
variable {X : Cx} {Y : Ey} {G : Gm} {e a b c : Expr} {s sa sb sc : SE} {pos : Pos} {body : List Stmt} {zs : List SS}
theorem s_for {tg iter : Expr} {t : STg} {it : SIt} (hp : PassesOwn (model X.prog X.w) X.A X.env X.xe) (hc : X.calm = true) (hi : PI X tg iter (tI X.K Y G it)) (hg : PG X tg (tG X.K Y t)) (hb : PSs X body (tSs X.K Y G zs)) (hs : ∀ x, foldedSetIterable iter X.env x = pure x) :
    PS X (.For tg iter body [] pos) (tS X.K Y G (.for t it zs)) := by
  refine PS.imp (ps_for hp hc hi hg hb hs) fun D σ H ⟨δ, h, Z, R, rel, w, f⟩ => ?_
  simp only [wpS] at w
  refine ⟨δ, h, Z, _, rel, w, fun gd items δ1 h1 J H1 Z1 w1 A ok => ?_⟩
  have f1 := f.mono (A.keeps rel)
  refine ⟨fun i m σ H => m = items.length - i ∧ i ≤ items.length ∧ ∃ δ h Z, Rel X.K Y Z δ h σ H ∧ Keeps Z1 H1 Z H ∧ forLoop gd (tgS t) (fun δ h D => wpSs G zs δ h D) (items.drop i) δ h R, ⟨items.length, rfl, Nat.zero_le _, δ1, h1, Z1, A.rel, .refl, by simpa using w1⟩, ?_⟩
  rintro i m σ2 H2 ⟨rfl, hi, δ2, h2, Z2, rel2, k2, lp⟩
  by_cases hlt : i < items.length
  · rw [List.drop_eq_getElem_cons hlt] at lp
    simp only [forLoop] at lp
    obtain ⟨g, lp⟩ := lp
    obtain ⟨go, yl⟩ := (ok i δ2 h2 σ2 H2 Z2 rel2 k2 g).1 items[i] (List.getElem?_eq_getElem hlt)
    refine .inr ⟨go, fun σ' H' => ∃ δ h Z, Rel X.K Y Z δ h σ' H' ∧ Keeps Z1 H1 Z H' ∧ forLoop gd (tgS t) (fun δ h D => wpSs G zs δ h D) (items.drop (i + 1)) δ h R, fun σ' H' q => ⟨_, by omega, rfl, hlt, q⟩, fun x H' yy => ?_⟩
    obtain ⟨A2, rx⟩ := yl x H' yy
    refine ⟨items[i], δ2, h2, Z2, _, A2.rel, rx, lp, fun δ3 σ3 w3 rel3 _ _ => ?_⟩
    have k3 := k2.trans (A2.keeps rel2)
    refine ⟨δ3, h2, Z2, _, rel3, w3, ⟨fun δ' h' σ' H' Z' q r k => ⟨δ', h', Z', r, k3.trans k, q⟩, fun δ' h' σ' H' Z' q r k => f1.nx _ _ _ _ _ q r (k3.trans k), fun δ' h' σ' H' Z' q r k => ⟨δ', h', Z', r, k3.trans k, q⟩, f.rt⟩⟩
  · have e : i = items.length := by omega
    subst e
    rw [List.drop_length] at lp
    simp only [forLoop] at lp
    obtain ⟨g, q⟩ := lp
    exact .inl ⟨(ok _ δ2 h2 σ2 H2 Z2 rel2 k2 g).2 rfl, f1.nx _ _ _ _ _ q rel2 k2⟩
theorem s_whl (hp : PassesOwn (model X.prog X.w) X.A X.env X.xe) (hc : PT X c (tT (tE X.K Y G sc))) (hb : PSs X body (tSs X.K Y G zs)) : PS X (.While c body [] pos) (tS X.K Y G (.whl sc zs)) := by
  refine PS.imp (ps_while hp hc hb) fun D σ H ⟨δ, h, Z, R, rel, w, f⟩ => ?_
  simp only [wpS] at w
  obtain ⟨n, w⟩ := w
  refine ⟨fun m σ H' => ∃ δ h Z', Rel X.K Y Z' δ h σ H' ∧ Keeps Z H Z' H' ∧ whileN (fun δ h Q => wpE G sc δ h Q) (fun δ h D => wpSs G zs δ h D) m δ h R, ⟨n, δ, h, Z, rel, .refl, w⟩, ?_⟩
  rintro m σ2 H2 ⟨δ2, h2, Z2, rel2, k2, lp⟩
  cases m with
  | zero => simp only [whileN] at lp
  | succ m =>
    simp only [whileN] at lp
    refine ⟨δ2, h2, Z2, _, rel2, lp, fun r δ3 h3 v H3 Z3 ⟨k, er, q⟩ A rr => ?_⟩
    subst er
    refine ⟨k, rr.bl, ?_⟩
    have k3 := k2.trans (A.keeps rel2)
    cases k with
    | true =>
      refine iteT ⟨fun σ' H' => ∃ δ h Z', Rel X.K Y Z' δ h σ' H' ∧ Keeps Z H Z' H' ∧ whileN (fun δ h Q => wpE G sc δ h Q) (fun δ h D => wpSs G zs δ h D) m δ h R, fun σ' H' q => ⟨m, Nat.lt_succ_self m, q⟩, ?_⟩
      exact ⟨δ3, h3, Z3, _, A.rel, q, ⟨fun δ' h' σ' H' Z' q r k => ⟨δ', h', Z', r, k3.trans k, q⟩, fun δ' h' σ' H' Z' q r k => f.nx _ _ _ _ _ q r (k3.trans k), fun δ' h' σ' H' Z' q r k => ⟨δ', h', Z', r, k3.trans k, q⟩, f.rt⟩⟩
    | false => exact iteF (f.nx _ _ _ _ _ q A.rel k3)
theorem sub_assign {o i : Expr} {env : Env} (h : notSlice i = true) (v : Value) : assign (.Subscript o i pos) env v = (do
      let ov ← holding [v] (eval o env)
      let iv ← holding [v, ov] (eval i env)
      standAt pos
      holding [v, ov, iv] (setItem ov iv v)
      release [v, ov, iv] []) := by
  cases i <;> first | rfl | cases h
theorem sub_sole {o i : Expr} {l : Nat} {env : Env} : swapsWithSole [.Subscript o i pos] e l env = pure false := by
  cases e <;> rfl
theorem sub_stores {o i : Expr} {env : Env} : swappedStores [.Subscript o i pos] e env = pure none := by
  cases e <;> rfl
theorem reps_set {K : PySem.W.Frag} {Z : ZS} {H : Hp} {xs : List SV} {vs : List V} {n : Int} {j : Nat} (r : Reps K Z H xs vs) (e : ixN xs.length n = some j) : ixN vs.length n = some j := by rw [r.length]; exact e
theorem dput_reps {K : PySem.W.Frag} {Z : ZS} {H : Hp} {us : List (Key × V)} {kvs : List (Key × SV)} {k : Key} {v : V} {d : SV} (e : us.map (·.1) = kvs.map (·.1)) (r : Reps K Z H (kvs.map (·.2)) (us.map (·.2))) (rv : Rep K Z H d v) :
    (putK us k v).map (·.1) = (putD kvs k d).map (·.1) ∧ Reps K Z H ((putD kvs k d).map (·.2)) ((putK us k v).map (·.2)) := by
  unfold putK putD
  rw [any_keys e]
  by_cases hk : hasK kvs k = true
  · rw [if_pos hk, if_pos hk]
    clear hk
    induction kvs generalizing us with
    | nil =>
      have : us = [] := by simpa using e
      subst this
      exact ⟨rfl, .nil⟩
    | cons p kvs ih =>
      cases us with
      | nil => simp at e
      | cons q us =>
        simp only [List.map_cons, List.cons.injEq] at e
        simp only [List.map_cons] at r
        obtain ⟨v', vr, ev, r1, r2⟩ := r.cons_inv
        simp only [List.cons.injEq] at ev
        obtain ⟨rfl, rfl⟩ := ev
        obtain ⟨i1, i2⟩ := ih e.2 r2
        simp only [List.map_cons]
        by_cases hq : q.1 = k
        · have hp : p.1 = k := by rw [← e.1]; exact hq
          rw [if_pos hq, if_pos hp]
          exact ⟨by simp only [e.1, i1], .cons rv i2⟩
        · have hp : ¬ p.1 = k := by rw [← e.1]; exact hq
          rw [if_neg hq, if_neg hp]
          exact ⟨by simp only [e.1, i1], .cons r1 i2⟩
  · rw [if_neg hk, if_neg hk]
    simp only [List.map_append, List.map_cons, List.map_nil, e]
    exact ⟨trivial, r.append (.cons rv .nil)⟩
theorem key_of {K : PySem.W.Frag} {σ : L2.St} {Hs H : Hp} {δ : SSt} {h : SHp} {Z : ZS} {r : SV} {v : V} {k : Key} (q : RRep K Y σ Hs δ h Z H r v) (e : keyS r = some k) : v = kV k := by
  cases r with
  | int i => cases e; exact q.int
  | str z =>
    cases e
    rcases q with ⟨o, _⟩ | ⟨_, z, _⟩ | ⟨_, q⟩
    · cases o
    · cases z
    · exact (by simpa only [Rep] using q : v = V.str z)
  | _ => cases e
theorem set_or {r r' : TSet} (a : PSet X r) (b : PSet X r') : PSet X (fun o i v H Q => r o i v H Q ∨ r' o i v H Q) := by
  intro pins s σ H o i v ov iv u Q I ro ri rv h
  rcases h with h | h
  · exact a pins s σ H o i v ov iv u Q I ro ri rv h
  · exact b pins s σ H o i v ov iv u Q I ro ri rv h
theorem s_asub {o i : Expr} {so si : SE} {p : Pos} (he : PE X e (tE X.K Y G s)) (ho : PE X o (tE X.K Y G so)) (hi : PE X i (tE X.K Y G si)) (hu : X.A.units + 1 < cLine) (hn : notSlice i = true) : PS X (.Assign [.Subscript o i p] e pos) (tS X.K Y G (.asub so si s)) := by
  refine PS.imp (ps_asg he (pg_sub ho hi (set_or set_list (set_dict hu)) (sub_assign hn)) sub_sole sub_stores rfl) fun D σ H ⟨δ, h, Z, R, rel, w, f⟩ => ?_
  simp only [wpS] at w
  refine ⟨δ, h, Z, _, rel, w, fun r δ1 h1 v H1 Z1 q A rr => ?_⟩
  obtain ⟨r', δ2, Z2, q, A2, p⟩ := A.stow rr q
  refine ⟨δ2, h1, Z2, _, A2.rel, q, fun ro δ3 h3 vo H3 Z3 q3 A3 rro => ?_⟩
  obtain ⟨Z3', A3', po⟩ := A3.opd rro
  refine ⟨δ3, h3, Z3', _, A3'.rel, q3, fun rk δ4 h4 vk H4 Z4 q4 A4 rrk => ?_⟩
  have A5 := (A2.trans A3').trans A4
  have pv : Rep X.K Z4 H4 r' v := (p.keeps (A3'.keeps A2.rel)).keeps (A4.keeps A3'.rel)
  have po4 := po.keeps (A4.keeps A3'.rel)
  cases ro with
  | loc j =>
    simp only [setAtS] at q4
    cases ej : δ4[j]? with
    | none => rw [ej] at q4; exact q4.elim
    | some oj =>
      cases oj with
      | none => rw [ej] at q4; exact q4.elim
      | some dj =>
        rw [ej] at q4
        cases dj with
        | own xs =>
          obtain ⟨n, m, ek, em, q5⟩ := q4
          subst ek
          have sv : σ[j]? = some (some vo) := by
            rcases po4 with ⟨j', ej', s'⟩ | ⟨_, _, z, _⟩ | ⟨pl, _⟩
            · cases ej'; exact s'
            · cases z
            · cases pl
          obtain ⟨pa, sa, oa, n1, n2, n3, n4⟩ := A5.rel.ownSlot ej rfl
          rw [sv] at sa
          cases sa
          obtain ⟨us, eu, ru⟩ := id oa
          have k : Keeps Z4 H4 Z4 (upd H4 pa (.lst (us.set m v))) := keeps_write n2 (fun xs q => by rw [eu] at q; cases q) (fun b w q => by rw [eu] at q; cases q)
          have B := A5.writeOwn (d' := .own (xs.set m r')) (o := .lst (us.set m v)) ej rfl sv ⟨us.set m v, upd_same, (ru.set m pv).keeps k⟩
          exact .inl ⟨pa, us, n, m, rfl, rrk.int, eu, reps_set ru em, f.nx _ _ _ _ _ q5 B.rel (B.keeps rel)⟩
        | ownD kvs =>
          obtain ⟨kk, ek, hl, q5⟩ := q4
          have sv : σ[j]? = some (some vo) := by
            rcases po4 with ⟨j', ej', s'⟩ | ⟨_, _, z, _⟩ | ⟨pl, _⟩
            · cases ej'; exact s'
            · cases z
            · cases pl
          obtain ⟨pa, sa, oa, n1, n2, n3, n4⟩ := A5.rel.ownSlot ej rfl
          rw [sv] at sa
          cases sa
          obtain ⟨us, eu, hk, ru⟩ := id oa
          have k : Keeps Z4 H4 Z4 (upd H4 pa (.dK (putK us kk v))) := keeps_write n2 (fun xs q => by rw [eu] at q; cases q) (fun b w q => by rw [eu] at q; cases q)
          obtain ⟨p1, p2⟩ := dput_reps (k := kk) hk ru pv
          have B := A5.writeOwn (d' := .ownD (putD kvs kk r')) (o := .dK (putK us kk v)) ej rfl sv ⟨putK us kk v, upd_same, p1, p2.keeps k⟩
          have ll : us.length = kvs.length := by have := congrArg List.length hk; simpa using this
          exact .inr ⟨pa, _, rfl, .inl ⟨us, kk, eu, key_of rrk ek, by omega, rfl⟩, f.nx _ _ _ _ _ q5 B.rel (B.keeps rel)⟩
        | _ => exact q4.elim
  | ref pa =>
    have vo' : vo = .ref pa := by
      rcases po4 with ⟨j', ej', s'⟩ | ⟨_, _, z, _⟩ | ⟨_, q⟩
      · cases ej'
      · cases z
      · simpa only [Rep, SV.opd] using q
    subst vo'
    simp only [setAtS] at q4
    cases ej : h4 pa with
    | none => rw [ej] at q4; exact q4.elim
    | some cl =>
      rw [ej] at q4
      cases cl with
      | lst xs =>
        obtain ⟨n, m, ek, em, q5⟩ := q4
        subst ek
        obtain ⟨us, eu, ru⟩ := A5.rel.hr.cell pa _ ej
        have nz : ¬ Z4 pa := fun z => by rw [A5.rel.hr.frz pa z] at ej; cases ej
        have k : Keeps Z4 H4 Z4 (upd H4 pa (.lst (us.set m v))) := keeps_write nz (fun xs q => by rw [eu] at q; cases q) (fun b w q => by rw [eu] at q; cases q)
        have B := A5.writeCell (c' := .lst (xs.set m r')) (o := .lst (us.set m v)) ej ⟨us.set m v, upd_same, (ru.set m pv).keeps k⟩
        exact .inl ⟨pa, us, n, m, rfl, rrk.int, eu, reps_set ru em, f.nx _ _ _ _ _ q5 B.rel (B.keeps rel)⟩
      | dct kvs =>
        obtain ⟨kk, ek, hl, q5⟩ := q4
        obtain ⟨us, eu, hk, ru⟩ := A5.rel.hr.cell pa _ ej
        have nz : ¬ Z4 pa := fun z => by rw [A5.rel.hr.frz pa z] at ej; cases ej
        have k : Keeps Z4 H4 Z4 (upd H4 pa (.dK (putK us kk v))) := keeps_write nz (fun xs q => by rw [eu] at q; cases q) (fun b w q => by rw [eu] at q; cases q)
        obtain ⟨p1, p2⟩ := dput_reps (k := kk) hk ru pv
        have B := A5.writeCell (c' := .dct (putD kvs kk r')) (o := .dK (putK us kk v)) ej ⟨putK us kk v, upd_same, p1, p2.keeps k⟩
        have ll : us.length = kvs.length := by have := congrArg List.length hk; simpa using this
        exact .inr ⟨pa, _, rfl, .inl ⟨us, kk, eu, key_of rrk ek, by omega, rfl⟩, f.nx _ _ _ _ _ q5 B.rel (B.keeps rel)⟩
      | _ => exact q4.elim
  | _ => exact q4.elim
theorem ip_or : PIp X .BitOr (ipI Builtin.bitOr) := fun pins s σ H x y v u Q I r1 r2 h => iop_or pins s σ H x y v u Q I r1 r2 h
theorem s_aug {i : Nat} {x : Str} {op : Operator} {p' : Pos} (hN : X.N.Nodup) (hi : X.N[i]? = some x) (hx : Loc X.env.scope x) (hf : X.fn x = true ∨ X.env.scope.names.lookup x = some .local) (he : PE X e (tE X.K Y G s)) (ho : op = .Add ∨ op = .Sub ∨ op = .BitOr) :
    PS X (.AugAssign (.Name x p') op e pos) (tS X.K Y G (.aug i op s)) := by
  have one : ∀ {op : Operator} {g : Int → Int → Int}, PIp X op (ipI g) → (∀ {δ : SSt} {h : SHp} {R : SEnds}, wpS G (.aug i op s) δ h R → ∃ x, δ[i]? = some (some x) ∧ wpE G s δ h fun r δ1 h1 => ∃ m n, x = .int m ∧ r = .int n ∧ R.nx (δ1.set i (some (.int (g m n)))) h1) → PS X (.AugAssign (.Name x p') op e pos) (tS X.K Y G (.aug i op s)) := fun {op g} pip un => by
    refine PS.imp (ps_aug hN hi hx he pip hf) fun D σ H ⟨δ, h, Z, R, rel, w, f⟩ => ?_
    obtain ⟨x, ex, w⟩ := un w
    obtain ⟨v, ev, r⟩ := rel.slot i x ex
    refine ⟨v, ev, δ, h, Z, _, rel, w, fun r' δ1 h1 v' H1 Z1 ⟨m, n, em, en, q⟩ A rr => ?_⟩
    subst em en
    have e1 : v = .int m := by
      rcases r with ⟨o, _⟩ | ⟨_, r⟩
      · cases o
      · simpa only [Rep] using r
    exact ⟨m, n, e1, rr.int, f.nx _ _ _ _ _ q (A.rel.assign (by simp only [Rep])) (A.keeps rel)⟩
  rcases ho with rfl | rfl | rfl
  · exact one ip_add fun w => by simpa only [wpS] using w
  · exact one ip_sub fun w => by simpa only [wpS] using w
  · exact one (g := Builtin.bitOr) ip_or fun w => by simpa only [wpS] using w
end
end SL
/-! T2: a, *b, c = a list. -/
namespace SL
open PySem PySem.Spec PyProof.Rows L2
section
variable {prog : Program} {w : World} {A : Around} {E : Value → Shared → Prop} {s : Shared}
/-- a list in parts: so many ahead, a new list, the rest -/
theorem star_items {l : Addr} {items : Array Value} {n i : Nat} {Q : List Value → Shared → Prop} (hl : s.heap.IsList l items) (hh : A.handled = none) (hi : i < n) (hn : n ≤ items.size + 1) (hz : items.size ≤ 16384)
    (h : ∀ (h2 : Heap) (tk : Nat), (∀ b o, s.heap.get? b = some o → h2.get? b = some o) →
      Q (items.toList.take i ++ (.ref h2.objs.size :: (items.toList.drop i).drop (items.size + 1 - n))) { s with heap := h2.push { cls := .type "list", data := .seq ((items.toList.drop i).take (items.size + 1 - n)).toArray }, toks := tk }) : wpAny (model prog w) A (unpackItems (.ref l) n (some i)) Q E s := by
  have ne : l ≠ s.heap.objs.size := by
    obtain ⟨o, ho, _⟩ := hl
    exact Nat.ne_of_lt (Heap.lt_size ho)
  unfold unpackItems notIterableAtAll
  refine wpAny_bind (wpAny_bind (wpAny_specialOf hl.typeIs slot_list_iter.lookup (wpAny_pure ?_)))
  simp only [Bool.false_eq_true, if_false]
  refine wpAny_bind (wpAny_holding (wpAny_pyIter_list hl ?_))
  refine wpAny_bind (wpAny_holding (PySem.W.kun_draw ne i 0 _ _ ⟨_, Heap.get?_push_size _ rfl, rfl, rfl⟩ (hl.push _) (by omega) ?_))
  intro h1 it1 hs1
  have l1 : h1.IsList l items := (hl.push _).extBut hs1.extBut ne
  rw [Nat.zero_add] at it1
  obtain ⟨oi, hoi, _⟩ := _root_.id it1
  obtain ⟨ol, hol, _⟩ := _root_.id l1
  rw [List.drop_zero]
  have len1 : (items.toList.take i).length = i := by rw [List.length_take, Array.length_toList]; omega
  have len2 : (items.toList.drop i).length = items.size - i := by rw [List.length_drop, Array.length_toList]
  rw [if_neg (by rw [len1]; omega)]
  refine wpAny_bind (wpAny_holding (PySem.W.kun_collect (s := { s with heap := h1 }) (T := "list_iterator") (.inr (.inr (.inl rfl))) (Walks.list (A := A.in1) hh s.heap.objs.size l ne items) (fun _ _ st => st.1.typeIs) (k := i) (by omega) ⟨it1, l1⟩ (Heap.lt_size hoi) (Heap.lt_size hol) ?_ (by rw [sizeLine_eq]; omega)))
  intro h2 tk kp
  have mid : (items.toList.drop i).length - (n - 1 - i) = items.size + 1 - n := by rw [len2]; omega
  show wpAny _ _ (if (items.toList.drop i).length < n - 1 - i then _ else _) _ _ _
  rw [if_neg (by rw [len2]; omega)]
  show wpAny _ _ (newList ((items.toList.drop i).take ((items.toList.drop i).length - (n - 1 - i))) >>= fun d => pure (items.toList.take i ++ [d] ++ (items.toList.drop i).drop ((items.toList.drop i).length - (n - 1 - i)))) _ _ _
  rw [mid]
  refine wpAny_bind (wpAny_newObj_type (wpAny_pure ?_) (by
    show (((items.toList.drop i).take (items.size + 1 - n)).toArray).size ≤ sizeLine
    rw [List.size_toArray, List.length_take, len2, sizeLine_eq]
    omega))
  have e : items.toList.take i ++ [Value.ref h2.objs.size] ++ (items.toList.drop i).drop (items.size + 1 - n) = items.toList.take i ++ (Value.ref h2.objs.size :: (items.toList.drop i).drop (items.size + 1 - n)) := by simp
  show Q (items.toList.take i ++ [Value.ref h2.objs.size] ++ (items.toList.drop i).drop (items.size + 1 - n)) _
  rw [e]
  refine h h2 tk fun b o eb => ?_
  exact kp b o (Nat.ne_of_lt (Heap.lt_size eb)) (hs1.extBut b o (Nat.ne_of_lt (Heap.lt_size eb)) (Heap.get?_push_of_some _ eb))
end
section
variable {X : Cx} {Y : Ey} {G : Gm} {pos : Pos} {e : Expr} {s : SE}
theorem pgs_star {t : Expr} {p : Pos} {es : List Expr} {g : TG} {u : TGs} (h1 : PG X t g) (h2 : PGs X es u) : PGs X (.Starred t p :: es) (gCons g u) := by
  refine ⟨fun pins s σ H vs us Q I r h => ?_⟩
  obtain ⟨v, vr, rfl, h⟩ := h
  cases r with
  | cons r rr =>
    show wpAny _ _ (assignInOrder (assign t X.env :: (assignEach es X.env).map (·.2)) _) _ _ s
    refine assignInOrder_cons (thn (h1.run pins s σ H _ _ _ I r h) ?_)
    rintro _ s1 ⟨σ1, H1, I1, q1⟩
    exact h2.run pins s1 σ1 H1 _ _ Q I1 rr q1
def gStar (K : PySem.W.Frag) (n i : Nat) (t : TGs) : TG := fun v σ H Q => ∃ a xs, v = .ref a ∧ SqL K H a xs ∧ i < n ∧ n ≤ xs.length + 1 ∧ xs.length ≤ 16384 ∧
  ∀ D, H D = none → t (xs.take i ++ (.ref D :: (xs.drop i).drop (xs.length + 1 - n))) σ (upd H D (.lst ((xs.drop i).take (xs.length + 1 - n)))) Q
theorem vals_take2 : ∀ {xs : List V} {us : List Value} (n : Nat), Vals xs us → Vals (xs.take n) (us.take n)
  | _, _, 0, _ => by simp only [List.take_zero]; exact .nil
  | _, _, n + 1, .nil => .nil
  | _, _, n + 1, .cons a b => .cons a (vals_take2 n b)
theorem vals_drop2 : ∀ {xs : List V} {us : List Value} (n : Nat), Vals xs us → Vals (xs.drop n) (us.drop n)
  | _, _, 0, h => h
  | _, _, n + 1, .nil => .nil
  | _, _, n + 1, .cons a b => vals_drop2 n b
theorem vals_app2 : ∀ {xs ys : List V} {us ws : List Value}, Vals xs us → Vals ys ws → Vals (xs ++ ys) (us ++ ws)
  | _, _, _, _, .nil, h => h
  | _, _, _, _, .cons a b, h => .cons a (vals_app2 b h)
theorem pg_star {es : List Expr} {k n i : Nat} {t : TGs} (hc : X.calm = true) (h : PGs X es t) (hn : (assignEach es X.env).length = n) (hst : (assignEach es X.env).findIdx? (·.1) = some i) : PG X (.Tuple es k pos) (gStar X.K n i t) := by
  refine ⟨fun pins s σ H v u Q I r ⟨a, xs, ev, sq, hi, hl, hz, hw⟩ => ?_⟩
  subst ev
  cases r
  obtain ⟨its, rv, pl, _⟩ := I.list sq
  have il : s.heap.IsList a its.toArray := by
    obtain ⟨o, m, e, c, d, q⟩ := pl
    exact ⟨o, e, c, m, q⟩
  have ln : its.length = xs.length := rv.length.symm
  rw [PyProof.Rows.assign_Tuple]
  refine wpAny_bind (wpAny_standAt ?_)
  unfold unpack
  rw [hn, hst]
  refine wpAny_bind (wpAny_holding (star_items il (I.ok.hd hc) hi (by simp [ln]; exact hl) (by simp [ln]; exact hz) fun h2 tk kp => ?_))
  have J := I.kept (t' := tk) kp
  have nD : H h2.objs.size = none := J.hok.fresh (Nat.le_refl _)
  have es : its.toArray.size = xs.length := by simp [ln]
  have rm : Vals ((xs.drop i).take (xs.length + 1 - n)) ((its.drop i).take (xs.length + 1 - n)) := vals_take2 _ (vals_drop2 _ rv)
  have K1 : Inv X pins σ (upd H h2.objs.size (.lst ((xs.drop i).take (xs.length + 1 - n)))) { s with heap := h2.push { cls := .type "list", data := .seq ((its.drop i).take (xs.length + 1 - n)).toArray }, toks := tk } := by
    refine J.laid (t' := tk) (fun b o e => Heap.get?_push_of_some _ e) (Nat.le_refl _) ⟨?_, _, 0, rm, Heap.get?_push_size _ rfl⟩
    rw [List.length_take, List.length_drop, sizeLine_eq]
    omega
  have q := h.run pins _ σ _ _ (its.take i ++ (.ref h2.objs.size :: (its.drop i).drop (xs.length + 1 - n))) Q K1 (vals_app2 (vals_take2 _ rv) (.cons (show L2.RelV (.ref h2.objs.size) (Value.ref h2.objs.size) from rfl) (vals_drop2 _ (vals_drop2 _ rv)))) (hw _ nD)
  simpa only [List.toList_toArray, es] using q
/-- a frozen list made just now -/
theorem s_ust {es : List Expr} {k i : Nat} {p : Pos} {ts : List Nat} (hc : X.calm = true) (hg : PGs X es (tGs X.K Y (ts.map .nm))) (hl : es.length = ts.length) (hst : (assignEach es X.env).findIdx? (·.1) = some i) (he : PE X e (tE X.K Y G s)) (hw : swappedStores [.Tuple es k p] e X.env = pure none) : PS X (.Assign [.Tuple es k p] e pos) (tS X.K Y G (.ust ts i s)) := by
  refine PS.imp (ps_asg he (pg_star hc hg (by rw [each_length, hl]) hst) soleSwap hw rfl) fun D σ H ⟨δ, h, Z, R, rel, w, f⟩ => ?_
  simp only [wpS] at w
  refine ⟨δ, h, Z, _, rel, w, fun r δ1 h1 v H1 Z1 w1 A rr => ?_⟩
  obtain ⟨r', δ2, Z2, ⟨xs, ev, hi, hl2, hz, w2⟩, A2, p'⟩ := A.stow rr w1
  obtain ⟨a, vs, ex, rv, z⟩ := vw_ok A2.rel.hr p' ev
  rcases z with ⟨z, _⟩ | ⟨_, z, _⟩
  · cases z
  have ln := rv.length
  refine ⟨a, vs, ex, z, hi, by omega, by omega, fun Dn n => ?_⟩
  rw [ln]
  have B := A2.rel.aft_new (o := .lst ((vs.drop i).take (xs.length + 1 - ts.length))) n
  obtain ⟨fy, fo⟩ := A2.rel.fresh n
  have fr := B.rel.freeze (a := Dn) (A2.rel.hr.un n) fy fo (by rw [upd_same]; exact Option.some_ne_none _)
  have kp : Keeps Z2 H1 (fun b => Z2 b ∨ b = Dn) (upd H1 Dn (.lst ((vs.drop i).take (xs.length + 1 - ts.length)))) := by
    have k1 : Keeps Z2 H1 Z2 (upd H1 Dn (.lst ((vs.drop i).take (xs.length + 1 - ts.length)))) := keeps_upd n
    exact ⟨fun a z => .inl z, k1.hz, k1.tup, k1.frz⟩
  have r2 := rv.keeps kp
  have mid : Rep X.K (fun b => Z2 b ∨ b = Dn) (upd H1 Dn (.lst ((vs.drop i).take (xs.length + 1 - ts.length)))) (.frz ((xs.drop i).take (xs.length + 1 - ts.length))) (.ref Dn) := by
    simp only [Rep]
    exact ⟨Dn, _, rfl, ⟨upd_same, .inr rfl⟩, (r2.drop i).take _⟩
  have len : (xs.take i ++ (SV.frz ((xs.drop i).take (xs.length + 1 - ts.length)) :: (xs.drop i).drop (xs.length + 1 - ts.length))).length = (ts.map STg.nm).length := by
    simp only [List.length_append, List.length_take, List.length_cons, List.length_drop, List.length_map]
    omega
  refine ⟨_, δ2, h1, _, _, fr, (r2.take i).append (.cons mid ((r2.drop i).drop _)), len, w2, fun δ' σ' c rel' o po => ?_⟩
  exact f.nx _ _ _ _ _ c rel' (((A2.keeps rel).trans kp))
end
end SL
/-! X1: exceptions of the program's own over ValueError: an __init__ that calls the base's. -/
namespace SL
open PySem PySem.Spec PyProof.Rows L2
/-- a class whose functions are read off it -/
structure ClsR (K : PySem.W.Frag) (D : Addr) (m : Str) (f : Addr) : Prop where
  sp : PySem.W.specialIn K (.ref D) "__getattribute__" = some (some (.builtin "type.__getattribute__"))
  rd : PySem.W.readsIn K D (.type "type") = true
  fi : PySem.W.findCls K (.ref D) (.type "type") m = some (.val (.ref f))
  kp : PySem.W.keepIn K (.ref f) = true
section
variable {X : Cx} {CX : CXT} {k : Nat} {f D : Addr} {fd : FuncData} {ps : List Str} {sp : Sp} {E : XK} {x m : Str} {p1 p2 pos : Pos} {e : Expr} {es : List Expr} {t : TA}
/-- D.m(self, ..) -/
theorem pe_cfun {pl : Sem Bool} (c : ClsR X.K D m f) (hg : Gl X x) (hm : X.mg x = some (.ref D)) (F : FnOk X.prog X.w X.K X.mg X.base CX k f fd ps sp) (hr : Room k X.A) (hb : Binds X.K fd ps []) (hx : Passes CX X E) (ha : PA X (e :: es) t)
    (hdb : (x == ("__debug__" : Str)) = false)
    (hc : eval (.Call (.Attribute (.Name x p1) m p2) (e :: es) [] pos) X.env = (do
      let ov ← eval (.Name x p1) X.env
      standAt p2.atName
      let (f, first) ← holding [ov] (getMethod ov m pl)
      callWith pos f first (backTo pos (starEach (e :: es) X.env)) (backToKw pos (keywordEach [] X.env))) := by rfl)
    (he : starEach (e :: es) X.env = (false, eval e X.env) :: starEach es X.env := by rfl) (hpl : (backTo pos (starEach es X.env)).any (·.1) = false := by rfl) :
    PE X (.Call (.Attribute (.Name x p1) m p2) (e :: es) [] pos) (tCall sp [] E t) := by
  refine ⟨fun pins s σ H Q I h => PySem.W.methodCall_KW (ld_glob I hg hm ?_ hdb) hc⟩
  refine PySem.W.method_cls I.kIn c.sp (PySem.W.cls_value I.kIn c.rd c.fi rfl ?_)
  have I1 := I.tok (s.toks + 1)
  refine PySem.W.callWith_K (h₀ := X.base) I.ok.mod.kin c.kp (thn (ha.run pos pins _ σ H _ I1 h) ?_) he hpl
  rintro us s2 ⟨vs, H2, I2, r, q⟩
  exact ⟨I2.kIn, run_fn F hr hb .nil hx I2 r q⟩
/-- C() -/
theorem pmk_oex0 {C fI : Addr} (T : OexC X.K C) (iC : PySem.W.findIn X.K (.ref C) "__init__" = some (some (.ref fI))) (tI : PySem.W.typeIn X.K (.ref fI) = some (.type "function"))
    (F1 : FnOk X.prog X.w X.K X.mg X.base CX k fI fd ps sp) (hr : Room (k + 1) X.A) (hb : Binds X.K fd ps []) (hx : Passes CX X (fun _ _ _ => False)) (hg : Gl X x) (hm : X.mg x = some (.ref C)) (hdb : (x == ("__debug__" : Str)) = false) :
    PMk X (.Call (.Name x p1) [] [] pos) (tMkO C sp [] tNil) := by
  intro pins s σ H Q I h
  obtain ⟨nm, q, N, bs, bm, sn, sub, ab, col, dd, k0, k1, k2, k3, k5, hC, hbm⟩ := T.cls
  refine wpAny_Call_Name_kw (ld_glob I hg hm ?_ hdb)
  refine PySem.W.callWith_K0 I.kIn T.kC ?_
  show wpAny _ _ (call (.ref C) []) _ _ _
  have q1 := h.2
  obtain ⟨hp, g, dr, tk, os⟩ := s
  have sz : hp.objs.size ≤ hp.objs.size + 1 := Nat.le_succ _
  have hq := q1 (hp.objs.size + 1) (I.hok.fresh sz)
  have kk : ∀ b o, hp.get? b = some o → ((hp.push (PySem.W.kdv_tup [])).push (PySem.HandSPX.excO C hp.objs.size)).get? b = some o := fun b o e => Heap.get?_push_of_some _ (Heap.get?_push_of_some _ e)
  have hget : ((hp.push (PySem.W.kdv_tup [])).push (PySem.HandSPX.excO C hp.objs.size)).get? (hp.objs.size + 1) = some (PySem.HandSPX.excO C hp.objs.size) := by heap_get
  have J : Inv X pins σ (upd H (hp.objs.size + 1) (exo (hp.objs.size + 1) C none)) ⟨(hp.push (PySem.W.kdv_tup [])).push (PySem.HandSPX.excO C hp.objs.size), g, dr, tk, os⟩ := I.laid (t' := tk) (a := hp.objs.size + 1) (o := exo (hp.objs.size + 1) C none) kk sz (exo_ok hget)
  have r2 : Vals [V.ref (hp.objs.size + 1)] [Value.ref (hp.objs.size + 1)] := .cons rfl .nil
  have hl : ([Value.ref (hp.objs.size + 1)] ++ ([] : List Value)).length = ps.length := by
    have e := r2.length
    have e2 := F1.len _ _ _ _ hq
    simp at e e2 ⊢
    omega
  refine wpAny_call (PySem.HandSPX.call_own F.excBase_ValueError (fun Y => PySem.HandSPX.refsVE_contains Y bm hbm) (I.kIn _ _ hC) (PySem.W.looks_findIn I.kIn iC) (fun self => PySem.W.bind_fn I.kIn self tI) (Nat.zero_le _)
    (codeAny_mono (F1.run _ X.stack _ _ ⟨[Value.ref (hp.objs.size + 1)], []⟩ [Value.ref (hp.objs.size + 1)] _ _ (fun _ _ _ => False) (hr.make C [] []) (J.env0.make C [] []) (hb _ [Value.ref (hp.objs.size + 1)] J.kIn hl) r2 hq) fun r s' hq' => ?_))
  match r, hq' with
  | .error er, hq' => exact hx pins σ _ _ er s' J hq'
  | .ok (.ret u), hq' =>
    obtain ⟨v, H2, os2, bare2, un2, hok2, rv, ev, d, fs, ea, ed, hd1, q2⟩ := hq'
    subst ev
    obtain ⟨h2, g2, d2, t2, os'⟩ := s'
    exact ⟨rv, mk_end (raises_own T.exC T.tyC) I sz kk un2 hok2 os2 bare2 ea ed hd1 q2⟩
end
end SL
/-! X2: exceptions of the program's own over ValueError or LookupError: made, their fields set. -/
namespace SL
open PySem PySem.Spec PyProof.Rows L2 PySem.Builtin PySem.Builtin.ObjectAttr
/-- a built-in base: its name, its mro, __new__ and __init__ -/
structure XB (B nw bi : String) (bm : List Value) : Prop where
  eb : ExcBaseFacts B nw bi bm
  sf : StoreFacts B bm "object.__setattr__" "object"
theorem xb_val : XB "ValueError" "ValueError.__new__" "ValueError.__init__" [.type "ValueError", .type "Exception", .type "BaseException", .type "object"] := ⟨F.excBase_ValueError, F.store_ValueError⟩
theorem xb_look : XB "LookupError" "LookupError.__new__" "LookupError.__init__" [.type "LookupError", .type "Exception", .type "BaseException", .type "object"] := ⟨F.excBase_LookupError, F.store_LookupError⟩
/-- what the text says of a class over such a base -/
structure XCls (K : PySem.W.Frag) (nw : String) (bm : List Value) (C : Addr) : Prop where
  ini : PySem.W.excInitIn K C bm nw = true
  ov : PySem.W.excOver K C bm = true
  hd : PySem.W.hasDictIn K C = true
  sa : PySem.W.findIn K (.ref C) "__setattr__" = some (some (.builtin "object.__setattr__"))
  ex : PySem.W.subIn K (.ref C) (.type "BaseException") = some true
  ty : PySem.W.typeIn K (.ref C) = some (.type "type")
  kp : PySem.W.keepIn K (.ref C) = true
section
variable {X : Cx} {pins : List (Addr × Obj)} {σ : L2.St} {H : Hp} {s : Shared} {a C dx : Addr} {f : Str} {y : V} {u : Value} {fs : List (Str × V)} {Q : Unit → Shared → Prop} {E : Value → Shared → Prop} {A : Around} {B nw bi : String} {bm : List Value}
theorem taker_none {K : PySem.W.Frag} (h : PySem.W.findIn K (.ref C) f = some none) : PySem.W.takerIn K C f = some none := by
  unfold PySem.W.takerIn
  rw [h]
  rfl
/-- self.f = y, the first field -/
theorem xst_new (b : XB B nw bi bm) (T : XCls X.K nw bm C) (I : Inv X pins σ H s) (e : H a = some (exo a C none)) (no : PySem.W.findIn X.K (.ref C) f = some none) (ry : RelV y u)
    (h : ∀ dx s', H dx = none → dx ≠ a → Inv X pins σ (upd (upd H dx (exd dx [(f, y)])) a (exo a C (some dx))) s' → Q () s') : wpAny (model X.prog X.w) A (setAttr (.ref a) f u) Q E s := by
  obtain ⟨t1, ho⟩ := exo_at I.hok e
  obtain ⟨cd, hc, hdc⟩ := PySem.W.any_some T.hd
  have Lc := PySem.W.looks_clsIn (M := model X.prog X.w) I.kIn hc
  obtain ⟨hp, g, d, t, os⟩ := s
  have old : a < hp.objs.size := Heap.lt_size ho
  refine PySem.W.set_plain I.kIn (od := none) ⟨ho, rfl, rfl, trivial⟩ T.sa (PySem.W.osa_openX (od := none) b.sf I.kIn ⟨ho, rfl, rfl, trivial⟩ T.ov (taker_none no) fun _ => ?_)
  refine wpAny_bind (wpAny_pure (wpAny_bind (PySem.W.instanceDict_exc ho Lc hdc ?_)))
  have here : (hp.push (PySem.W.dictOf [] 0)).get? a = some (PySem.W.excObj C t1 none .none) := Heap.get?_push_of_some _ ho
  have empty : ((hp.push (PySem.W.dictOf [] 0)).update a fun o => { o with dict := some hp.objs.size }).Ns hp.objs.size (fun _ => none) :=
    ⟨PySem.W.dictOf [] 0, #[], 0, (Heap.get?_update_ne _ _ _ _ (Nat.ne_of_gt old)).trans (Heap.get?_push_at rfl rfl), rfl, fun z hz => absurd hz (by simp), fun _ => rfl⟩
  refine PySem.HandSPX.store_in_new empty fun h' tk' hn hs => ?_
  have kk : ∀ {c : Addr} {o : Obj}, c ≠ a → hp.get? c = some o → h'.get? c = some o := fun {c o} n q =>
    (hs.2 c (Nat.ne_of_lt (Heap.lt_size q))).trans ((Heap.get?_update_ne _ _ _ _ n).trans (Heap.get?_push_of_some _ q))
  have at_a : h'.get? a = some (PySem.W.excObj C t1 (some hp.objs.size) .none) := (hs.2 a (Nat.ne_of_lt old)).trans (Heap.get?_update_self _ here rfl)
  have fresh : H hp.objs.size = none := I.hok.fresh (Nat.le_refl _)
  have un_a : ∀ {c : Addr}, H c = none → c ≠ a := fun {c} n z => nomatch (z ▸ e).symm.trans n
  have ltd : ∀ {c : Addr} {o : Obj}, hp.get? c = some o → c ≠ hp.objs.size := fun {c o} q => Nat.ne_of_lt (Heap.lt_size q)
  refine h hp.objs.size _ fresh (Nat.ne_of_gt old) (I.un (t' := tk') ⟨fun c o q n _ _ => kk (un_a n) q, fun c o q n _ _ => ⟨o.slots, kk (un_a n) q⟩, fun c o q n _ => (upd_ne (un_a n)).trans ((upd_ne (ltd q)).trans n), fun c o q _ => ?_,
    fun c xs q => (upd_ne (at_ne e q exo_tup)).trans ((upd_ne (ne_of_none q fresh)).trans q), fun c o v q => (upd_ne (at_ne e q exo_frz)).trans ((upd_ne (ne_of_none q fresh)).trans q),
    fun c ps q => ⟨#[], by rw [upd_ne (at_ne e q exo_tbl), upd_ne (ne_of_none q fresh), q]; simp⟩⟩ fun c o q => ?_)
  · by_cases z : c = a
    · exact ⟨_, by rw [z]; exact at_a⟩
    · exact ⟨o, kk z q⟩
  · by_cases z : c = a
    · subst z
      rw [upd_same] at q
      cases q
      exact exo_ok at_a
    · rw [upd_ne z] at q
      by_cases z2 : c = hp.objs.size
      · subst z2
        rw [upd_same] at q
        cases q
        exact exd_ok hn (relO_put (fs := []) ry fun _ => True.intro)
      · rw [upd_ne z2] at q
        refine (I.hok c o q).stay (fun i v hi w => kk ?_ w) (fun i hi => (upd_ne (at_ne e hi exo_own)).trans ((upd_ne (ne_of_none hi fresh)).trans hi)) (fun i xs hi => (upd_ne (at_ne e hi exo_tup)).trans ((upd_ne (ne_of_none hi fresh)).trans hi))
        rcases hi with hi | hi
        · rw [hi]; exact z
        · exact at_ne e hi exo_own
/-- .. a further one -/
theorem xst_old (b : XB B nw bi bm) (T : XCls X.K nw bm C) (I : Inv X pins σ H s) (e : H a = some (exo a C (some dx))) (ed : H dx = some (exd dx fs)) (hl : fs.length ≤ 900) (no : PySem.W.findIn X.K (.ref C) f = some none) (ry : RelV y u)
    (h : ∀ s', Inv X pins σ (upd H dx (exd dx ((f, y) :: fs))) s' → Q () s') : wpAny (model X.prog X.w) A (setAttr (.ref a) f u) Q E s := by
  obtain ⟨t1, ho⟩ := exo_at I.hok e
  obtain ⟨mA, hns, rel⟩ := exd_at I.hok ed
  obtain ⟨cd, hc, hdc⟩ := PySem.W.any_some T.hd
  have Lc := PySem.W.looks_clsIn (M := model X.prog X.w) I.kIn hc
  have hw := within_of rel
  obtain ⟨hp, g, d, t, os⟩ := s
  obtain ⟨oD, _, _, hoD, _, _⟩ := hns.count hw
  have J : PySem.W.InstAt hp a (PySem.W.excObj C t1 (some dx) .none) C (some oD) := ⟨ho, rfl, rfl, hoD⟩
  refine PySem.W.set_plain I.kIn J T.sa (PySem.W.osa_openX b.sf I.kIn J T.ov (taker_none no) fun _ => ?_)
  show wpAny _ _ (storeInOwnDict (.ref a) (.ref C) (.str f t) f u _) _ _ _
  unfold storeInOwnDict ownDictForStores
  refine wpAny_bind (wpAny_pure (wpAny_bind ?_))
  unfold instanceDict
  refine wpAny_bind (wpAny_loadPart ho ?_)
  dsimp only
  refine wpAny_bind (Lc.at ?_)
  rw [hdc]
  refine wpAny_pure ?_
  refine PySem.OEX.store_in_old hns hw (by rw [List.length_map]; omega) fun h' tk' hn hs => ?_
  obtain ⟨o2, _, _, e2, _⟩ := id hn
  exact h _ (I.write (t' := tk') (x := dx) (e := dx) (o := exd dx ((f, y) :: fs)) (by rw [ed]; exact True.intro) (.inl rfl) (fun c o z q => (hs.2 c z).trans q) ⟨o2, e2⟩ (exd_ok hn (relO_put ry rel)))
/-- the base's __init__: nothing of it is told -/
theorem xini {us : List Value} {Q : Value → Shared → Prop} (b : XB B nw bi bm) (T : XCls X.K nw bm C) (I : Inv X pins σ H s) (e : H a = some (exo a C none)) (hl : us.length ≤ sizeLine) (h : ∀ s', Inv X pins σ H s' → Q .none s') :
    wpAny (model X.prog X.w) A (call (.builtin bi) (.ref a :: us)) Q E s := by
  obtain ⟨_, _, _, _, bm', _, _, _, _, _, _, _, _, _, _, _, hC, hT⟩ := PySem.W.excInit_of I.kIn T.ini
  obtain ⟨t1, ho⟩ := exo_at I.hok e
  obtain ⟨hp, g, d, t, os⟩ := s
  refine wpAny_call (PySem.HandSPX.init_base b.eb hT hC ho hl fun h' t2 k hx => h _ ?_)
  have J := I.write (t' := t) (x := a) (e := a) (o := exo a C none) (by rw [e]; exact True.intro) (.inl rfl) k ⟨_, hx⟩ (exo_ok hx)
  have same : upd H a (exo a C none) = H := funext fun c => by
    by_cases z : c = a
    · rw [z, upd_same, e]
    · exact upd_ne z
  rwa [same] at J
variable {CX : CXT} {fI : Addr} {fd : FuncData} {ps : List Str} {sp : Sp} {k : Nat}
/-- the call of the class, its __init__ kept by sp -/
theorem xmk {us : List Value} {vs : List V} {W : XK} (b : XB B nw bi bm) (T : XCls X.K nw bm C) (iC : PySem.W.findIn X.K (.ref C) "__init__" = some (some (.ref fI))) (tI : PySem.W.typeIn X.K (.ref fI) = some (.type "function"))
    (F1 : FnOk X.prog X.w X.K X.mg X.base CX k fI fd ps sp) (hr : Room (k + 1) X.A) (hb : Binds X.K fd ps []) (hx : Passes CX X (fun _ _ _ => False)) (I : Inv X pins σ H s) (r : Vals vs us) (hl : us.length ≤ sizeLine)
    (h : ∀ a, H a = none → sp (.ref a :: vs) (upd H a (exo a C none)) (fun v H2 => v = .non ∧ ∃ (d : Addr) (fs : List (Str × V)), H2 a = some (exo a C (some d)) ∧ H2 d = some (exd d fs) ∧ H d = none ∧ W (.ref C) (some d) (upd (del H2 a) d (.xd fs))) (fun _ _ _ => False)) :
    wpAny (model X.prog X.w) X.A (call (.ref C) us) (MkP X pins σ W) X.xe s := by
  obtain ⟨_, _, _, _, bm', _, _, _, _, _, _, _, _, _, _, _, hC, hT⟩ := PySem.W.excInit_of I.kIn T.ini
  obtain ⟨hp, g, dr, tk, os⟩ := s
  have sz : hp.objs.size ≤ hp.objs.size + 1 := Nat.le_succ _
  have hq := h (hp.objs.size + 1) (I.hok.fresh sz)
  have kk : ∀ c o, hp.get? c = some o → ((hp.push (PySem.W.kdv_tup us)).push (PySem.HandSPX.excO C hp.objs.size)).get? c = some o := fun c o e => Heap.get?_push_of_some _ (Heap.get?_push_of_some _ e)
  have hget : ((hp.push (PySem.W.kdv_tup us)).push (PySem.HandSPX.excO C hp.objs.size)).get? (hp.objs.size + 1) = some (PySem.HandSPX.excO C hp.objs.size) := by heap_get
  have J : Inv X pins σ (upd H (hp.objs.size + 1) (exo (hp.objs.size + 1) C none)) ⟨(hp.push (PySem.W.kdv_tup us)).push (PySem.HandSPX.excO C hp.objs.size), g, dr, tk, os⟩ := I.laid (t' := tk) (a := hp.objs.size + 1) (o := exo (hp.objs.size + 1) C none) kk sz (exo_ok hget)
  have r2 : Vals (V.ref (hp.objs.size + 1) :: vs) (Value.ref (hp.objs.size + 1) :: us) := .cons rfl r
  have hlen : (Value.ref (hp.objs.size + 1) :: us ++ ([] : List Value)).length = ps.length := by
    rw [List.append_nil, ← r2.length]
    exact F1.len _ _ _ _ hq
  refine wpAny_call (PySem.HandSPX.call_own b.eb hT hC (PySem.W.looks_findIn I.kIn iC) (fun self => PySem.W.bind_fn I.kIn self tI) hl
    (codeAny_mono (F1.run _ X.stack _ _ ⟨Value.ref (hp.objs.size + 1) :: us, []⟩ (Value.ref (hp.objs.size + 1) :: us) _ _ (fun _ _ _ => False) (hr.make C us []) (J.env0.make C us []) (by simpa using hb _ (Value.ref (hp.objs.size + 1) :: us) J.kIn hlen) r2 hq) fun r s' hq' => ?_))
  match r, hq' with
  | .error er, hq' => exact hx pins σ _ _ er s' J hq'
  | .ok (.ret v'), hq' =>
    obtain ⟨v, H2, os2, bare2, un2, hok2, rv, ev, d, fs, ea, ed, hd1, q2⟩ := hq'
    subst ev
    obtain ⟨h2, g2, d2, t2, os'⟩ := s'
    exact ⟨rv, mk_end (raises_own T.ex T.ty) I sz kk un2 hok2 os2 bare2 ea ed hd1 q2⟩
end
end SL
/-! X3: the __init__s of the program's exceptions. -/
namespace SL
open PySem PySem.Spec PyProof.Rows L2
def XCb (K : PySem.W.Frag) (bi : String) (C : Addr) : Prop := ∃ B nw bm, XB B nw bi bm ∧ XCls K nw bm C
/-- a built-in base by its name -/
structure XBase (B bi : String) : Prop where
  bt : bootBuiltins (Str.ofString B) = some (.type B)
  ty : typeOf (.type B) = pure (.type "type")
  st : Manifest.isStub B = false
  fi : ∀ K, PySem.W.findCls K (.type B) (.type "type") "__init__" = some (.val (.builtin bi))
  hh : PySem.W.handedIn (.builtin bi) = true
  nn : Str.ofString B ≠ "__name__"
  nd : (Str.ofString B == ("__debug__" : Str)) = false
theorem xbase_val : XBase "ValueError" "ValueError.__init__" := ⟨PyProof.Rows.Boot.«ValueError», PySem.OEX.typ_VE, by decide +kernel, fun K => by kernel_rfl, by decide +kernel, by decide, by decide⟩
theorem xbase_look : XBase "LookupError" "LookupError.__init__" := ⟨PyProof.Rows.Boot.«LookupError», by kernel_rfl, by decide +kernel, fun K => by kernel_rfl, by decide +kernel, by decide, by decide⟩
section
variable {X : Cx} {o e : Expr} {es : List Expr} {to te : TE} {ta : TA} {f : Str} {p p' p1 p2 pos : Pos} {B bi : String}
/-- B.__init__(self, ..) -/
def tBi (K : PySem.W.Frag) (bi : String) (ta : TA) : TE := fun σ H Q => ta σ H fun vs H1 => ∃ (a C : Addr) (ws : List V), vs = .ref a :: ws ∧ ws.length ≤ 1000 ∧ XCb K bi C ∧ H1 a = some (exo a C none) ∧ Q .non H1
theorem pe_binit {pl : Sem Bool} (b : XBase B bi) (hg : Gl X (Str.ofString B)) (hm : X.mg (Str.ofString B) = none) (ha : PA X (e :: es) ta)
    (hc : eval (.Call (.Attribute (.Name (Str.ofString B) p1) "__init__" p2) (e :: es) [] pos) X.env = (do
      let ov ← eval (.Name (Str.ofString B) p1) X.env
      standAt p2.atName
      let (f, first) ← holding [ov] (getMethod ov "__init__" pl)
      callWith pos f first (backTo pos (starEach (e :: es) X.env)) (backToKw pos (keywordEach [] X.env))))
    (he : starEach (e :: es) X.env = (false, eval e X.env) :: starEach es X.env) (hpl : (backTo pos (starEach es X.env)).any (·.1) = false) :
    PE X (.Call (.Attribute (.Name (Str.ofString B) p1) "__init__" p2) (e :: es) [] pos) (tBi X.K bi ta) := by
  refine ⟨fun pins s σ H Q I h => PySem.W.methodCall_KW (ld_blt I hg hm b.bt ?_ b.nn b.nd) hc⟩
  obtain ⟨m, fr⟩ := I.fr
  refine PySem.W.method_type fr I.ok.mod.kin b.ty b.st (b.fi _) b.hh ?_
  show wpAny _ _ (callWith pos (Value.builtin bi) [] (backTo pos (starEach (e :: es) X.env)) []) _ _ _
  refine PyProof.Rows.callWith_method1 (thn (ha.run pos pins _ σ H _ (I.tok _) h) fun us s1 ⟨vs, H1, I1, r1, a, C, ws, ev, hl, ⟨B', nw, bm, xb, T⟩, ea, q⟩ => ?_) he hpl
  subst ev
  cases r1 with
  | @cons _ u0 _ ur ra rr =>
    obtain rfl : u0 = Value.ref a := ra
    exact xini xb T I1 ea (by rw [← Paired.length rr, sizeLine_eq]; omega) fun s' J => ⟨.non, H1, J, rfl, q⟩
/-- self.f = e -/
def tXst (K : PySem.W.Frag) (f : Str) (to te : TE) : TS := fun D σ H => te σ H fun y H1 => to σ H1 fun x H2 => ∃ (a C : Addr) (bi : String), x = .ref a ∧ XCb K bi C ∧ PySem.W.findIn K (.ref C) f = some none ∧
  ((H2 a = some (exo a C none) ∧ ∀ dx, H2 dx = none → dx ≠ a → D.nx σ (upd (upd H2 dx (exd dx [(f, y)])) a (exo a C (some dx)))) ∨
    ∃ (dx : Addr) (fs : List (Str × V)), H2 a = some (exo a C (some dx)) ∧ H2 dx = some (exd dx fs) ∧ fs.length ≤ 900 ∧ D.nx σ (upd H2 dx (exd dx ((f, y) :: fs))))
theorem ps_xst (ho : PE X o to) (he : PE X e te) (hs : swapsWith e (some (.Attribute o f p')) pos.line X.env = pure false) : PS X (.Assign [.Attribute o f p'] e pos) (tXst X.K f to te) := by
  refine ⟨fun pins s σ H D I h => plainObj_wpAny_Assign_Attribute (thn (he.run pins s σ H _ I h) fun v s1 ⟨y, H1, I1, r1, q1⟩ => thn (ho.run pins s1 σ H1 _ I1 q1) fun u s2 ⟨x, H2, I2, r2, a, C, bi, ex, ⟨B', nw, bm, xb, T⟩, no, q⟩ => ?_) hs⟩
  subst ex
  obtain rfl : u = Value.ref a := r2
  rcases q with ⟨ea, q⟩ | ⟨dx, fs, ea, ed, hl, q⟩
  · exact xst_new xb T I2 ea no r1 fun dx s' n ne J => ⟨σ, _, J, q dx n ne⟩
  · exact xst_old xb T I2 ea ed hl no r1 fun s' J => ⟨σ, _, J, q⟩
end
/-- the promises of the __init__s -/
def spRoot (K : PySem.W.Frag) (bi : String) : Sp := fun vs H Q _ => ∃ (a C : Addr) (x : Str), vs = [.ref a, .str x] ∧ XCb K bi C ∧ PySem.W.findIn K (.ref C) "called" = some none ∧ H a = some (exo a C none) ∧
  ∀ dx, H dx = none → dx ≠ a → Q .non (upd (upd H dx (exd dx [("called", .str x)])) a (exo a C (some dx)))
def spSub (K : PySem.W.Frag) (bi : String) (x : Str) : Sp := fun vs H Q _ => ∃ (a C : Addr), vs = [.ref a] ∧ XCb K bi C ∧ PySem.W.findIn K (.ref C) "called" = some none ∧ H a = some (exo a C none) ∧
  ∀ dx, H dx = none → dx ≠ a → Q .non (upd (upd H dx (exd dx [("called", .str x)])) a (exo a C (some dx)))
def spFld (K : PySem.W.Frag) (bi : String) (x f : Str) : Sp := fun vs H Q _ => ∃ (a C : Addr) (y : V), vs = [.ref a, y] ∧ XCb K bi C ∧ PySem.W.findIn K (.ref C) "called" = some none ∧ PySem.W.findIn K (.ref C) f = some none ∧ H a = some (exo a C none) ∧
  ∀ dx, H dx = none → dx ≠ a → Q .non (upd (upd (upd H dx (exd dx [("called", .str x)])) a (exo a C (some dx))) dx (exd dx [(f, y), ("called", .str x)]))
/-- a class of exceptions: a root by its base, or one below a root, with a field or without -/
inductive Xk where
  | root (B bi : String)
  | sub (R : Str)
  | fld (R f : Str)
structure Xc where
  name : Str
  bi : String
  kind : Xk
def Xc.sp (K : PySem.W.Frag) (c : Xc) : Sp := match c.kind with
  | .root _ _ => spRoot K c.bi
  | .sub _ => spSub K c.bi c.name
  | .fld _ f => spFld K c.bi c.name f
/-- the first statement of an __init__ -/
def xi1 (sc : Scope) (b self : Str) (x : Option Str) : Stmt → Bool
  | .Expr (.Call (.Attribute (.Name n _) m ap) [.Name s _, .Constant (.str z) _ _] kw cp) _ => n == b && (m == ("__init__" : Str) && (s == self && (kw.isEmpty && ((ap.endLine == cp.line && sc.names.lookup b == some .globalImplicit) && !(b == ("__debug__" : Str)) && (match x with
    | some x => z == x
    | none => true)))))
  | _ => false
/-- self.f = c -/
def xi2 (self f c : Str) : Stmt → Bool
  | .Assign [.Attribute (.Name s _) g _] (.Name d _) _ => s == self && (g == f && d == c)
  | _ => false
def xiB (c : Xc) (ps : List Str) (sc : Scope) (body : List Stmt) : Bool := match c.kind, ps, body with
  | .root B bi, [self, par], [s1, s2] => bi == c.bi && (xi1 sc (Str.ofString B) self none s1 && xi2 self "called" par s2)
  | .sub R, [self], [s1] => xi1 sc R self (some c.name) s1
  | .fld R f, [self, par], [s1, s2] => xi1 sc R self (some c.name) s1 && xi2 self f par s2
  | _, _, _ => false
end SL
/-! X4: the __init__s keep their promises; C() and C(e). -/
namespace SL
open PySem PySem.Spec PyProof.Rows L2
theorem xand {a b : Bool} (h : (a && b) = true) : a = true ∧ b = true := Bool.and_eq_true_iff.mp h
theorem xi1_ok {sc : Scope} {b self : Str} {x : Option Str} {s : Stmt} (h : xi1 sc b self x s = true) : ∃ p1 p2 p3 p4 j pos pos' z, s = .Expr (.Call (.Attribute (.Name b p1) "__init__" p2) [.Name self p3, .Constant (.str z) j p4] [] pos) pos' ∧ (p2.endLine == pos.line) = true ∧
    sc.names.lookup b = some .globalImplicit ∧ (b == ("__debug__" : Str)) = false ∧ ∀ y, x = some y → z = y := by
  unfold xi1 at h
  split at h
  · obtain ⟨h1, h⟩ := xand h
    obtain ⟨h2, h⟩ := xand h
    obtain ⟨h3, h⟩ := xand h
    obtain ⟨h4, h⟩ := xand h
    obtain ⟨h5, h6⟩ := xand h
    obtain ⟨h5, h7⟩ := xand h5
    obtain ⟨h8, h5⟩ := xand h5
    cases beq_iff_eq.mp h1
    cases beq_iff_eq.mp h2
    cases beq_iff_eq.mp h3
    cases List.isEmpty_iff.mp h4
    refine ⟨_, _, _, _, _, _, _, _, rfl, h8, beq_iff_eq.mp h5, by simpa using h7, fun y e => ?_⟩
    subst e
    exact beq_iff_eq.mp h6
  · cases h
theorem xi2_ok {self f c : Str} {s : Stmt} (h : xi2 self f c s = true) : ∃ p1 p2 p3 pos, s = .Assign [.Attribute (.Name self p1) f p2] (.Name c p3) pos := by
  unfold xi2 at h
  split at h
  · obtain ⟨h1, h⟩ := xand h
    obtain ⟨h2, h3⟩ := xand h
    cases beq_iff_eq.mp h1
    cases beq_iff_eq.mp h2
    cases beq_iff_eq.mp h3
    exact ⟨_, _, _, _, rfl⟩
  · cases h
theorem call_line {o : Expr} {name : Str} {apos pos : Pos} {args : List Expr} {kws : List Keyword} {env : Env} (hb : attributeBase o name env (eval o env) = eval o env)
    (few : methodCallForm (args.length + kws.length) (backTo pos (starEach args env)) (backToKw pos (keywordEach kws env)) = true) (hl : (apos.endLine == pos.line) = true) :
    eval (.Call (.Attribute o name apos) args kws pos) env = (do
      let ov ← eval o env
      standAt apos.atName
      let (f, first) ← holding [ov] (getMethod ov name (do return (← importBound o env).getD true))
      callWith pos f first (backTo pos (starEach args env)) (backToKw pos (keywordEach kws env))) := by
  show (do
    let ov ← attributeBase o name env (eval o env)
    standAt apos.atName
    methodCall o name apos pos env ov (args.length + kws.length) (backTo pos (starEach args env)) (backToKw pos (keywordEach kws env))) = _
  have e1 : methodCallPos true o env apos pos = pure pos := by
    unfold methodCallPos
    rw [hl]
    rfl
  rw [hb]
  unfold methodCall calleeOf
  rw [few, e1]
  rfl
/-- names that are read as slots -/
def okN (x : Str) : Bool := !(x == ("__debug__" : Str)) && !(x == ("__classdict__" : Str))
theorem okN_ok {x : Str} (h : okN x = true) : (x == ("__debug__" : Str)) = false ∧ (x == ("__classdict__" : Str)) = false := by
  obtain ⟨h1, h2⟩ := xand h
  exact ⟨by simpa using h1, by simpa using h2⟩
theorem no_pass {X : Cx} : Passes (CX X.prog X.w) X (fun _ _ _ => False) := fun pins σ H s e s' I ⟨_, _, _, _, _, _, _, _, _, _, _, _, z⟩ => z.elim
section
variable {P : Program} {w : World} {K : PySem.W.Frag} {mg : Str → Option Value} {base : Heap} {x qual self par : Str} {params : Arguments} {scope : Scope} {dvs : List V} {kws : List (Str × V)} {f : Addr} {fd : FuncData} {k : Nat} {B bi : String} {s1 s2 : Stmt}
theorem lk_vis {sc : Scope} {x : Str} (h : sc.names.lookup x = some .local ∨ sc.names.lookup x = some .cell) : Vis sc x := by
  rcases h with h | h
  · exact .inl h
  · exact .inr (.inl h)
theorem root_ok (F : FunD K x qual params [s1, s2] scope dvs kws f fd) (S : FnScope [self, par] [self, par] scope) (n1 : okN self = true) (n2 : okN par = true) (b : XBase B bi) (hm : mg (Str.ofString B) = none)
    (h1 : xi1 scope (Str.ofString B) self none s1 = true) (h2 : xi2 self "called" par s2 = true) : FnOk P w K mg base (CX P w) (k + 1) f fd [self, par] (spRoot K bi) := by
  obtain ⟨p1, p2, p3, p4, j, pos, pos', z, rfl, hn, hl, hd, _⟩ := xi1_ok h1
  obtain ⟨q1, q2, q3, q4, rfl⟩ := xi2_ok h2
  obtain ⟨a1, a2⟩ := okN_ok n1
  obtain ⟨b1, b2⟩ := okN_ok n2
  refine F.ok S (fun vs H Q E ⟨a, C, y, e, _⟩ => by rw [e]; rfl) fun cdv A outer s H vs Q E hr q => ?_
  have v1 : ∀ {p}, PE (cxOf (CX P w) P w K mg base [self, par] qual scope f cdv A outer s H E) (.Name self p) (tVar 0) := fun {p} => pe_var (i := 0) rfl (lk_vis (S.par self (by simp))) a1 a2
  have v2 : ∀ {p}, PE (cxOf (CX P w) P w K mg base [self, par] qual scope f cdv A outer s H E) (.Name par p) (tVar 1) := fun {p} => pe_var (i := 1) rfl (lk_vis (S.par par (by simp))) b1 b2
  refine ⟨_, pss_cons (ps_expr (pe_binit b hl hm (pa_cons v1 (pa_cons pe_str pa_nil)) (call_line rfl rfl hn) rfl rfl) rfl) (pss_cons (ps_xst v1 v2 rfl) pss_nil), ?_⟩
  obtain ⟨a, C, y, rfl, xc, no, ea, q⟩ := q
  refine ⟨.ref a, rfl, a, C, [.str z], rfl, by simp, xc, ea, ?_⟩
  exact ⟨.str y, rfl, .ref a, rfl, a, C, bi, rfl, xc, no, .inl ⟨ea, fun dx n ne => q dx n ne⟩⟩
variable {R nm g : Str} {D fr : Addr} {fdr : FuncData} {psr : List Str}
theorem sub_ok (F : FunD K x qual params [s1] scope dvs kws f fd) (S : FnScope [self] [self] scope) (n1 : okN self = true) (c : ClsR K D "__init__" fr) (hm : mg R = some (.ref D)) (Fr : FnOk P w K mg base (CX P w) k fr fdr psr (spRoot K bi)) (hb : Binds K fdr psr [])
    (h1 : xi1 scope R self (some nm) s1 = true) : FnOk P w K mg base (CX P w) (k + 1) f fd [self] (spSub K bi nm) := by
  obtain ⟨p1, p2, p3, p4, j, pos, pos', z, rfl, hn, hl, hd, hz⟩ := xi1_ok h1
  obtain ⟨a1, a2⟩ := okN_ok n1
  obtain rfl := hz nm rfl
  refine F.ok S (fun vs H Q E ⟨a, C, e, _⟩ => by rw [e]; rfl) fun cdv A outer s H vs Q E hr q => ?_
  have v1 : ∀ {p}, PE (cxOf (CX P w) P w K mg base [self] qual scope f cdv A outer s H E) (.Name self p) (tVar 0) := fun {p} => pe_var (i := 0) rfl (lk_vis (S.par self (by simp))) a1 a2
  refine ⟨_, pss_cons (ps_expr (pe_cfun (X := cxOf (CX P w) P w K mg base [self] qual scope f cdv A outer s H E) (CX := CX P w) c hl hm Fr hr hb (no_pass (X := cxOf (CX P w) P w K mg base [self] qual scope f cdv A outer s H E)) (pa_cons v1 (pa_cons pe_str pa_nil)) hd (call_line rfl rfl hn)) rfl) pss_nil, ?_⟩
  obtain ⟨a, C, rfl, xc, no, ea, q⟩ := q
  exact ⟨.ref a, rfl, a, C, z, rfl, xc, no, ea, fun dx n ne => q dx n ne⟩
theorem fld_ok (F : FunD K x qual params [s1, s2] scope dvs kws f fd) (S : FnScope [self, par] [self, par] scope) (n1 : okN self = true) (n2 : okN par = true) (c : ClsR K D "__init__" fr) (hm : mg R = some (.ref D)) (Fr : FnOk P w K mg base (CX P w) k fr fdr psr (spRoot K bi)) (hb : Binds K fdr psr [])
    (h1 : xi1 scope R self (some nm) s1 = true) (h2 : xi2 self g par s2 = true) : FnOk P w K mg base (CX P w) (k + 1) f fd [self, par] (spFld K bi nm g) := by
  obtain ⟨p1, p2, p3, p4, j, pos, pos', z, rfl, hn, hl, hd, hz⟩ := xi1_ok h1
  obtain ⟨q1, q2, q3, q4, rfl⟩ := xi2_ok h2
  obtain ⟨a1, a2⟩ := okN_ok n1
  obtain ⟨b1, b2⟩ := okN_ok n2
  obtain rfl := hz nm rfl
  refine F.ok S (fun vs H Q E ⟨a, C, y, e, _⟩ => by rw [e]; rfl) fun cdv A outer s H vs Q E hr q => ?_
  have v1 : ∀ {p}, PE (cxOf (CX P w) P w K mg base [self, par] qual scope f cdv A outer s H E) (.Name self p) (tVar 0) := fun {p} => pe_var (i := 0) rfl (lk_vis (S.par self (by simp))) a1 a2
  have v2 : ∀ {p}, PE (cxOf (CX P w) P w K mg base [self, par] qual scope f cdv A outer s H E) (.Name par p) (tVar 1) := fun {p} => pe_var (i := 1) rfl (lk_vis (S.par par (by simp))) b1 b2
  refine ⟨_, pss_cons (ps_expr (pe_cfun (X := cxOf (CX P w) P w K mg base [self, par] qual scope f cdv A outer s H E) (CX := CX P w) c hl hm Fr hr hb (no_pass (X := cxOf (CX P w) P w K mg base [self, par] qual scope f cdv A outer s H E)) (pa_cons v1 (pa_cons pe_str pa_nil)) hd (call_line rfl rfl hn)) rfl) (pss_cons (ps_xst v1 v2 rfl) pss_nil), ?_⟩
  obtain ⟨a, C, y, rfl, xc, no, no2, ea, q⟩ := q
  refine ⟨.ref a, rfl, a, C, z, rfl, xc, no, ea, fun dx n ne => ?_⟩
  refine ⟨y, rfl, .ref a, rfl, a, C, bi, rfl, xc, no2, .inr ⟨dx, [("called", .str z)], upd_same, ?_, by simp, q dx n ne⟩⟩
  rw [upd_ne ne, upd_same]
end
/-! ### C(), C(e) -/
section
variable {X : Cx} {k : Nat} {fI C : Addr} {fd : FuncData} {ps : List Str} {bi : String} {x nm g : Str} {p pos : Pos} {e : Expr} {te : TE}
def tMk0 (C : Addr) (fs : List (Str × V)) : L2.St → Hp → XK → Prop := fun _ H Q => ∀ d, H d = none → Q (.ref C) (some d) (upd H d (.xd fs))
def tMk1 (C : Addr) (g nm : Str) (te : TE) : L2.St → Hp → XK → Prop := fun σ H Q => te σ H fun v H1 => ∀ d, H1 d = none → Q (.ref C) (some d) (upd H1 d (.xd [(g, v), ("called", .str nm)]))
def one1 (W : V → Hp → Prop) : List V → Hp → Prop
  | [v], H => W v H
  | _, _ => False
theorem one1_inv {W : V → Hp → Prop} {vs : List V} {H : Hp} (h : one1 W vs H) : ∃ v, vs = [v] ∧ W v H := by
  match vs, h with
  | [v], h => exact ⟨v, rfl, h⟩
theorem heap_back {H : Hp} {a d C : Addr} {fs fs2 : List (Str × V)} (ha : H a = none) (n : d ≠ a) : upd (del (upd (upd (upd H a (exo a C none)) d (exd d fs)) a (exo a C (some d))) a) d (.xd fs2) = upd H d (.xd fs2) := by
  funext c
  by_cases h1 : c = d
  · rw [h1, upd_same, upd_same]
  · rw [upd_ne h1, upd_ne h1]
    by_cases h2 : c = a
    · rw [h2, del_same, ha]
    · rw [del_ne h2, upd_ne h2, upd_ne h1, upd_ne h2]
theorem pmk_sub (xc : XCb X.K bi C) (no : PySem.W.findIn X.K (.ref C) "called" = some none) (iC : PySem.W.findIn X.K (.ref C) "__init__" = some (some (.ref fI))) (tI : PySem.W.typeIn X.K (.ref fI) = some (.type "function"))
    (F1 : FnOk X.prog X.w X.K X.mg X.base (CX X.prog X.w) k fI fd ps (spSub X.K bi nm)) (hr : Room (k + 1) X.A) (hb : Binds X.K fd ps []) (hg : Gl X x) (hm : X.mg x = some (.ref C)) (hdb : (x == ("__debug__" : Str)) = false) :
    PMk X (.Call (.Name x p) [] [] pos) (tMk0 C [("called", .str nm)]) := by
  intro pins s σ H Q I h
  obtain ⟨B, nw, bm, xb, T⟩ := id xc
  refine wpAny_Call_Name_kw (ld_glob I hg hm ?_ hdb)
  refine PySem.W.callWith_K0 I.kIn T.kp (xmk xb T iC tI F1 hr hb no_pass I .nil (Nat.zero_le _) fun a ha => ⟨a, C, rfl, xc, no, upd_same, fun d hd n => ⟨rfl, d, [("called", .str nm)], upd_same, ?_, ?_, ?_⟩⟩)
  · rw [upd_ne n, upd_same]
  · exact (upd_ne n).symm.trans hd
  · rw [heap_back ha n]
    exact h d ((upd_ne n).symm.trans hd)
theorem pmk_fld (xc : XCb X.K bi C) (no : PySem.W.findIn X.K (.ref C) "called" = some none) (no2 : PySem.W.findIn X.K (.ref C) g = some none) (iC : PySem.W.findIn X.K (.ref C) "__init__" = some (some (.ref fI))) (tI : PySem.W.typeIn X.K (.ref fI) = some (.type "function"))
    (F1 : FnOk X.prog X.w X.K X.mg X.base (CX X.prog X.w) k fI fd ps (spFld X.K bi nm g)) (hr : Room (k + 1) X.A) (hb : Binds X.K fd ps []) (hg : Gl X x) (hm : X.mg x = some (.ref C)) (hdb : (x == ("__debug__" : Str)) = false)
    (he : PE X e te) (hs : starEach [e] X.env = [(false, eval e X.env)]) :
    PMk X (.Call (.Name x p) [e] [] pos) (tMk1 C g nm te) := by
  intro pins s σ H Q I h
  obtain ⟨B, nw, bm, xb, T⟩ := id xc
  refine wpAny_Call_Name_kw (ld_glob I hg hm ?_ hdb)
  have h' : tCons te tNil σ H (one1 fun v H1 => ∀ d, H1 d = none → Q (.ref C) (some d) (upd H1 d (.xd [(g, v), ("called", .str nm)]))) := h
  refine PySem.W.callWith_K (h₀ := X.base) I.ok.mod.kin T.kp (thn ((pa_cons he pa_nil hs).run pos pins s σ H _ I h') fun us s1 ⟨vs, H1, I1, r1, q0⟩ => ⟨I1.kIn, ?_⟩) hs rfl
  obtain ⟨v, ev, q1⟩ := one1_inv q0
  subst ev
  refine xmk xb T iC tI F1 hr hb no_pass I1 r1 (by show us.length ≤ _; rw [← r1.length, sizeLine_eq]; simp) fun a ha => ⟨a, C, v, rfl, xc, no, no2, upd_same, fun d hd n => ⟨rfl, d, [(g, v), ("called", .str nm)], ?_, upd_same, ?_, ?_⟩⟩
  · rw [upd_ne (Ne.symm n), upd_same]
  · exact (upd_ne n).symm.trans hd
  · have e2 : upd (del (upd (upd (upd (upd H1 a (exo a C none)) d (exd d [("called", V.str nm)])) a (exo a C (some d))) d (exd d [(g, v), ("called", V.str nm)])) a) d (.xd [(g, v), ("called", V.str nm)]) = upd H1 d (.xd [(g, v), ("called", V.str nm)]) := by
      rw [← heap_back (C := C) (fs := [("called", V.str nm)]) ha n]
      funext c
      by_cases h1 : c = d
      · rw [h1, upd_same, upd_same]
      · rw [upd_ne h1, upd_ne h1]
        by_cases h2 : c = a
        · rw [h2, del_same, del_same]
        · rw [del_ne h2, del_ne h2, upd_ne h1]
    rw [e2]
    exact q1 d ((upd_ne n).symm.trans hd)
end
end SL
/-! X5: try with clauses, each with a name or without. -/
namespace SL
open PySem PySem.Spec PyProof.Rows L2
abbrev Suite := Addr → Value → Option Addr → TS
def setA (σ : L2.St) (i : Option Nat) (v : Option V) : L2.St := match i with
  | some i => σ.set i v
  | none => σ
/-- behind a suite: its name is gone -/
def gone (i : Option Nat) (D : Ends) : Ends := { nx := fun σ H => D.nx (setA σ i none) H, rt := D.rt, bk := fun σ H => D.bk (setA σ i none) H, ct := fun σ H => D.ct (setA σ i none) H }
/-- what the clauses wish of an exception -/
def wAll (K : PySem.W.Frag) (Wout : WX) (D : Ends) : List (Value × Option Nat × Suite) → WX
  | [] => Wout
  | (c, i, ts) :: r => fun cls d σ H => ∃ b, PySem.W.exmOne K cls c = some b ∧ (b = true → ∀ a, H a = none → ts a cls d (gone i D) (setA σ i (some (.ref a))) H) ∧ (b = false → wAll K Wout D r cls d σ H)
/-- the clause's name is a plain local one -/
def nmOk (X : Cx) : Option Nat → Option Str → Prop
  | none, none => True
  | some i, some n => X.N[i]? = some n ∧ X.env.kindOf n = some .local
  | _, _ => False
inductive HdL (X : Cx) : List ExceptHandler → List (Value × Option Nat × Suite) → Prop
  | nil : HdL X [] []
  | cons {x : Str} {c : Value} {i : Option Nat} {n : Option Str} {ts : Suite} {b₀ : Stmt} {suite : List Stmt} {np pos' : Pos} {hds : List ExceptHandler} {l : List (Value × Option Nat × Suite)} (hc : Names X x c) (hn : nmOk X i n)
      (hsu : ∀ (a : Addr) (oe : Obj) (cls : Value) (d : Option Addr) (pn : List (Addr × Obj)), Zc cls d oe → (∃ vs, oe.data = .fields vs) → PSs (X.suite a ((a, oe) :: pn)) (b₀ :: suite) (ts a cls d)) (r : HdL X hds l) :
      HdL X (.ExceptHandler (some (.Name x np)) n (b₀ :: suite) pos' :: hds) ((c, i, ts) :: l)
section
variable {X : Cx} {body : List Stmt} {h₀ : ExceptHandler} {hds : List ExceptHandler} {l : List (Value × Option Nat × Suite)} {pos : Pos} {tb : WX → TS} {Wout : WX}
theorem sp_un {pins : List (Addr × Obj)} {a : Addr} {q : Addr × Obj} {D : Ends} {f : Flow} {s : Shared} (ok : X.Ok) (h : SP (X.suite a (q :: (X.pn ++ pins))) [] D f s) : SP X pins D f s := by
  cases f with
  | ret u => obtain ⟨v, σ, H, S, r, w⟩ := h; exact ⟨v, σ, H, S.unsuite ok, r, w⟩
  | next => obtain ⟨σ, H, S, w⟩ := h; exact ⟨σ, H, S.unsuite ok, w⟩
  | brk => obtain ⟨σ, H, S, w⟩ := h; exact ⟨σ, H, S.unsuite ok, w⟩
  | cont => obtain ⟨σ, H, S, w⟩ := h; exact ⟨σ, H, S.unsuite ok, w⟩
theorem sp_try {pins pn' : List (Addr × Obj)} {xe : Value → Shared → Prop} {D : Ends} {f : Flow} {s : Shared} (ok : X.Ok) (h : SP (X.tr (X.pn ++ pins) xe) pn' D f s) : SP X pins D f s := by
  cases f with
  | ret u => obtain ⟨v, σ, H, S, r, w⟩ := h; exact ⟨v, σ, H, S.ofTry ok, r, w⟩
  | next => obtain ⟨σ, H, S, w⟩ := h; exact ⟨σ, H, S.ofTry ok, w⟩
  | brk => obtain ⟨σ, H, S, w⟩ := h; exact ⟨σ, H, S.ofTry ok, w⟩
  | cont => obtain ⟨σ, H, S, w⟩ := h; exact ⟨σ, H, S.ofTry ok, w⟩
theorem ps_tryL (hs : X.stack = X.env :: X.outer) (hf : X.env.frame = some X.env.locals) (hN : X.N.Nodup) (tk : Takes X Wout)
    (hb : ∀ (W : WX) (pn : List (Addr × Obj)) (xe : Value → Shared → Prop), Takes (X.tr pn xe) W → PassesOwn (model X.prog X.w) X.A X.env xe → PSs (X.tr pn xe) body (tb W))
    (hh : HdL X (h₀ :: hds) l) : PS X (.Try body (h₀ :: hds) [] [] pos) (fun D σ H => tb (wAll X.K Wout D l) D σ H) := by
  refine ⟨fun pins s σ H D I h => wpAny_Try_except ?_⟩
  have ok := I.ok
  have frs' : X.A.frames = some (X.env :: X.outer) := ok.frames.trans (by rw [hs])
  -- the clauses, one behind the other
  have walk : ∀ {hds' : List ExceptHandler} {l' : List (Value × Option Nat × Suite)}, HdL X hds' l' → ∀ {a : Addr} {B : Heap} {sI s' : Shared} {σ' : L2.St} {H' : Hp} {cls : Value} {d : Option Addr}, Inv X pins σ' H' sI →
      (∀ b o, sI.heap.get? b = some o → b ∉ frs X.stack → B.get? b = some o) → sI.heap.UpToSlots s'.heap → HandSPX.FlyingZ B (X.env :: X.outer) a (Zc cls d) s'.heap → H' a = none → s'.os = sI.os → AllBare s'.gens → wAll X.K Wout D l' cls d σ' H' →
      wpAny (model X.prog X.w) X.A (handleBy (.ref a) X.env hds') (SP X pins D) X.xe s' := by
    intro hds' l' hk
    induction hk with
    | nil =>
      intro a B sI s' σ' H' cls d J nb up fl na os ag w
      obtain ⟨k1, k2, k3, oe, vs, T, oT, ts', he, hz, hd, h1, _⟩ := id fl
      refine wpAny_handleBy_nil ?_
      unfold PySem.passOn
      refine wpAny_bind (wpAny_field he hd h1 ?_)
      rw [if_neg (by simp)]
      have goes : wpAny (model X.prog X.w) X.A (setFlight (.ref a) X.env.frame) (fun _ s4 => wpAny (model X.prog X.w) X.A (throw (.ref a) : Sem Flow) (SP X pins D) X.xe s4) X.xe s' := by
        rw [hf]
        refine HandSPX.setFlight_upZ fl fun h4 held up4 => wpAny_throw (tk _ _ ⟨a, B, sI, pins, σ', H', cls, d, rfl, J, nb, up.trans up4, .inr (.inr ?_), na, os, ag, w⟩)
        rw [hs]
        exact held
      first
        | exact wpAny_bind (wpAny_pure (wpAny_bind goes))
        | exact wpAny_bind goes
    | @cons x c i n ts b₀ suite np pos' hds2 l2 hc hn hsu r ih =>
      intro a B sI s' σ' H' cls d J nb up fl na os ag w
      obtain ⟨b, hb1, yes, no⟩ := w
      have J3 : Inv X pins σ' H' s' := J.landed nb fl.1 up os ag
      obtain ⟨oe, vs, he, hz, hd⟩ := fl.there
      have out : ∀ {h : Heap} {o : Obj} {ws : Array Value}, h.FunFrames B (X.env :: X.outer) → h.get? a = some o → o.data = .fields ws → a ∉ frs (X.env :: X.outer) := fun {h o ws} ff q dd m => by
        obtain ⟨_, o', q', nf⟩ := ff.mem m
        cases q.symm.trans q'
        exact nf _ dd
      have nfr := out fl.2.2.1 he hd
      have nL : a ≠ X.env.locals := fun z => nfr (List.mem_filterMap.mpr ⟨X.env, List.mem_cons_self, hf.trans (by rw [z])⟩)
      have nF : a ∉ X.fs := fun m => (List.mem_filterMap.mp m).elim fun e2 he2 => nfr (List.mem_filterMap.mpr ⟨e2, List.mem_cons_of_mem _ he2.1, he2.2⟩)
      have S3 := J3.suite he hd na nL nF
      refine wpAny_handleBy_cons (codeAny_handlers_test ?_) (by intro q; cases q)
      have LT : PySem.W.Looks (model X.prog X.w) s'.heap (typeOf (.ref a)) cls := fun _ _ _ _ k q => wpAny_typeOf_ref (k _ _ he) (by rw [hz.1]; exact q)
      have LM := PySem.W.exm_one (M := model X.prog X.w) J3.kIn LT hb1
      have test : ∀ {Q : Value → Shared → Prop} {E : Value → Shared → Prop}, Q c s' → wpAny (model X.prog X.w) (X.A.mark (some (.ref a))) (eval (.Name x np) X.env) Q E s' := fun {Q E} q => by
        obtain ⟨hg, hdb, hm | ⟨hm, hv, hnn⟩⟩ := hc
        · exact ld_glob (X := X.suite a ((a, oe) :: (X.pn ++ pins))) S3 hg hm q hdb
        · exact ld_blt (X := X.suite a ((a, oe) :: (X.pn ++ pins))) S3 hg hm hv q hnn hdb
      refine test (LM.here ?_)
      cases b with
      | false => exact ih J nb up fl na os ag (no rfl)
      | true =>
        have w2 := yes rfl a na
        match i, n, hn with
        | none, none, _ =>
          refine codeAny_handlers_suite (HandSPX.lands_againZ fl fun h4 fl4 up4 => ?_)
          have J4 : Inv X pins σ' H' { s' with heap := h4 } := J.landed nb fl4.1 (up.trans up4) os ag
          obtain ⟨o4, vs4, he4, hz4, hd4⟩ := fl4.there
          exact wpAny_mono ((hsu a o4 cls d (X.pn ++ pins) hz4 ⟨_, hd4⟩).run [] _ _ H' _ (J4.suite he4 hd4 na nL nF) w2) (fun f s6 q => sp_un ok q) (fun _ _ z => z.elim)
        | some i, some n, ⟨hi, hl⟩ =>
          refine codeAny_handlers_suite_as (HandSPX.lands_againZ fl fun h4 fl4 up4 => ?_)
          have J4 : Inv X pins σ' H' { s' with heap := h4 } := J.landed nb fl4.1 (up.trans up4) os ag
          obtain ⟨o4, vs4, he4, hz4, hd4⟩ := fl4.there
          refine store_ok (X := X.suite a ((a, o4) :: (X.pn ++ pins))) (v := .ref a) (J4.suite he4 hd4 na nL nF) hN hi (.inl hl) rfl (fun s5 S5 => ?_) (.inr hl)
          refine wpAny_mono ((hsu a o4 cls d (X.pn ++ pins) hz4 ⟨_, hd4⟩).run [] s5 _ H' _ S5 w2) (fun f s6 q => ?_) (fun _ _ z => z.elim)
          have q' := sp_un ok q
          cases f with
          | ret u =>
            obtain ⟨v6, σ6, H6, S6, r6, q6⟩ := q'
            exact gone_ok S6 hN hi hl fun s7 J7 => ⟨_, _, _, J7, r6, q6⟩
          | next =>
            obtain ⟨σ6, H6, S6, q6⟩ := q'
            exact gone_ok S6 hN hi hl fun s7 J7 => ⟨_, _, J7, q6⟩
          | brk =>
            obtain ⟨σ6, H6, S6, q6⟩ := q'
            exact gone_ok S6 hN hi hl fun s7 J7 => ⟨_, _, J7, q6⟩
          | cont =>
            obtain ⟨σ6, H6, S6, q6⟩ := q'
            exact gone_ok S6 hN hi hl fun s7 J7 => ⟨_, _, J7, q6⟩
  refine wpAny_mono ((hb (wAll X.K Wout D l) (X.pn ++ pins) _ (fun u s' xx => ?_) PassesOwn.looking).run [] s σ H D (I.toTry _) h) (fun f s1 q => ?_) (fun e s1 he => he)
  · obtain ⟨a, B, sI, pins', σ', H', cls, d, rfl, J', nb, up, sky, na, os, ag, w⟩ := xx
    exact Sky.land Zc.steady frs' hf (by rw [← hs]; exact sky) fun h3 fl3 up3 => walk hh (J'.ofTry ok) nb (up.trans up3) fl3 na os ag w
  · have q' := sp_try ok q
    cases f with
    | next => exact wpAny_execs_nil q'
    | ret u => exact q'
    | brk => exact q'
    | cont => exact q'
end
end SL
/-! X6: what except suites say. -/
namespace SL
open PySem PySem.Spec PyProof.Rows L2
section
variable {K : PySem.W.Frag} {Y : Ey} {σ : L2.St} {δ δ1 : SSt} {h h1 : SHp} {H H1 : Hp} {Z Z1 : ZS} {ca : Str → Addr} {x : SX} {cls : Value} {d : Option Addr}
theorem xd_un (R : Rel K Y Z δ h σ H) {e : Addr} {us : List (Str × V)} (q : H e = some (.xd us)) : h e = none ∧ ¬ Owns δ σ e := by
  constructor
  · cases z : h e with
    | none => rfl
    | some c =>
      have cr := R.hr.cell e c z
      cases c with
      | lst xs => obtain ⟨vs, e1, _⟩ := cr; rw [q] at e1; cases e1
      | dct kvs => obtain ⟨vs, e1, _⟩ := cr; rw [q] at e1; cases e1
      | ins C fs => obtain ⟨dx, vs, e1, _⟩ := cr; rw [q] at e1; cases e1
  · intro o
    obtain ⟨i, d', _, _, oa, _⟩ := R.own o
    cases d' with
    | own xs => obtain ⟨vs, e1, _⟩ := oa; rw [q] at e1; cases e1
    | ownD kvs => obtain ⟨vs, e1, _⟩ := oa; rw [q] at e1; cases e1
    | _ => exact oa.elim
theorem XRep.aft (R : Rel K Y Z δ h σ H) (A : Aft K Y σ δ h H Z δ1 h1 H1 Z1) (xr : XRep K ca Z H x cls d) : XRep K ca Z1 H1 x cls d := by
  obtain ⟨e1, e2, e, us, ed, ex, en, r⟩ := xr
  obtain ⟨n1, n2⟩ := xd_un R ex
  exact ⟨e1, e2, e, us, ed, A.fr.keep e _ ex n1 n2, en, r.keeps (A.keeps R)⟩
theorem XRep.look (xr : XRep K ca Z H x cls d) {f : Str} {r : SV} (l : x.fs.lookup f = some r) : ∃ (e : Addr) (us : List (Str × V)) (v : V), d = some e ∧ H e = some (.xd us) ∧ us.lookup f = some v ∧ Rep K Z H r v := by
  obtain ⟨_, _, e, us, ed, ex, en, rr⟩ := xr
  obtain ⟨cls', fs⟩ := x
  dsimp only at l en rr
  have key : ∀ (fs : List (Str × SV)) (us : List (Str × V)), us.map (·.1) = fs.map (·.1) → Reps K Z H (fs.map (·.2)) (us.map (·.2)) → fs.lookup f = some r → ∃ v, us.lookup f = some v ∧ Rep K Z H r v := by
    intro fs
    induction fs with
    | nil => intro us _ _ l; cases l
    | cons p fs ih =>
      intro us en rr l
      obtain ⟨g, s⟩ := p
      cases us with
      | nil => cases en
      | cons q us =>
        obtain ⟨g', v⟩ := q
        simp only [List.map_cons, List.cons.injEq] at en
        obtain ⟨eg, en⟩ := en
        subst eg
        obtain ⟨v', vr, ev, r1, r2⟩ := (show Reps K Z H (s :: fs.map (·.2)) (v :: us.map (·.2)) from rr).cons_inv
        cases ev
        rw [lookup_put] at *
        by_cases hf : f = g'
        · rw [if_pos hf]
          have l' : (if f = g' then some s else fs.lookup f) = some r := by
            simpa [List.lookup, hf] using l
          rw [if_pos hf] at l'
          cases l'
          exact ⟨v, rfl, r1⟩
        · rw [if_neg hf]
          have l' : fs.lookup f = some r := by
            have b : (f == g') = false := by simpa using hf
            simpa [List.lookup, b] using l
          exact ih us en r2 l'
  obtain ⟨v, hv', rv⟩ := key fs us en rr l
  exact ⟨e, us, v, ed, ex, hv', rv⟩
/-- the slot of the clause's name -/
theorem Rel.setA (R : Rel K Y Z δ h σ H) (i : Option Nat) (v : Option V) : Rel K Y Z (wipeO δ i) h (setA σ i v) H := by
  cases i with
  | none => exact R
  | some i =>
    have nn : ∀ {j : Nat} {e : SV}, (δ.set i none)[j]? = some (some e) → j ≠ i ∧ δ[j]? = some (some e) := fun {j e} q => by
      by_cases ij : i = j
      · subst ij
        by_cases hl : i < δ.length
        · rw [List.getElem?_set_self hl] at q; cases q
        · rw [List.getElem?_eq_none (by simpa using hl)] at q; cases q
      · rw [List.getElem?_set_ne ij] at q
        exact ⟨fun z => ij z.symm, q⟩
    have ss : ∀ {j : Nat}, j ≠ i → (σ.set i v)[j]? = σ[j]? := fun {j} n => List.getElem?_set_ne (Ne.symm n)
    refine ⟨R.hr, R.ent, by show (δ.set i none).length = (σ.set i v).length; rw [List.length_set, List.length_set]; exact R.len, fun j e q => ?_, fun j m e1 e2 w q1 q2 o1 o2 s1 s2 => ?_⟩
    · obtain ⟨n, q⟩ := nn q
      obtain ⟨w, ew, rw'⟩ := R.slot j e q
      exact ⟨w, (ss n).trans ew, rw'⟩
    · obtain ⟨n1, q1⟩ := nn q1
      obtain ⟨n2, q2⟩ := nn q2
      exact R.dist j m e1 e2 w q1 q2 o1 o2 ((ss n1).symm.trans s1) ((ss n2).symm.trans s2)
end
/-! ### readings in a suite -/
def tHv (K : PySem.W.Frag) (Y : Ey) (ca : Str → Addr) (i : Option Nat) (a : Addr) (cls : Value) (d : Option Addr) (e : HE) : TE := fun σ H Q => ∃ x δ h Z r, Rel K Y Z δ h σ H ∧ XRep K ca Z H x cls d ∧ (∀ j, i = some j → σ[j]? = some (some (.ref a))) ∧
  hv x e = some r ∧ ∀ v H' Z', Aft K Y σ δ h H Z δ h H' Z' → Rep K Z' H' r v → Q v H'
section
variable {X : Cx} {Y : Ey} {ca : Str → Addr} {i : Option Nat} {a : Addr} {cls : Value} {d : Option Addr} {oe : Obj} {pn : List (Addr × Obj)} {pos p p2 : Pos} {n f : Str} {j : Nat}
theorem hv_str {z : Str} {k : Nat} : PE X (.Constant (.str z) k pos) (tHv X.K Y ca i a cls d (.cst (.str z))) := PE.imp pe_str fun σ H Q ⟨x, δ, h, Z, r, R, xr, sl, e, q⟩ => by
  cases e
  exact q _ _ _ (.refl R) (by simp only [Rep])
theorem hv_int {z : Int} {k : Nat} : PE X (.Constant (.int z) k pos) (tHv X.K Y ca i a cls d (.cst (.int z))) := PE.imp pe_int fun σ H Q ⟨x, δ, h, Z, r, R, xr, sl, e, q⟩ => by
  cases e
  exact q _ _ _ (.refl R) (by simp only [Rep])
theorem hv_bl {z : Bool} {k : Nat} : PE X (.Constant (.bool z) k pos) (tHv X.K Y ca i a cls d (.cst (.bl z))) := PE.imp pe_bl fun σ H Q ⟨x, δ, h, Z, r, R, xr, sl, e, q⟩ => by
  cases e
  exact q _ _ _ (.refl R) (by simp only [Rep])
theorem hv_non {k : Nat} : PE X (.Constant .none k pos) (tHv X.K Y ca i a cls d (.cst .non)) := PE.imp pe_non fun σ H Q ⟨x, δ, h, Z, r, R, xr, sl, e, q⟩ => by
  cases e
  exact q _ _ _ (.refl R) (by simp only [Rep])
/-- e.f -/
theorem hv_fld (hz : Zc cls d oe) (hf : ∃ vs, oe.data = .fields vs) (hN : X.N[j]? = some n) (hvs : Vis X.env.scope n) (h1 : (n == ("__debug__" : Str)) = false) (h2 : (n == ("__classdict__" : Str)) = false) (hm : f ∈ (["called", "at", "row"] : List Str)) :
    PE (X.suite a ((a, oe) :: pn)) (.Attribute (.Name n p) f pos) (tHv X.K Y ca (some j) a cls d (.fld f)) := by
  have v1 : PE (X.suite a ((a, oe) :: pn)) (.Name n p) (tVar j) := pe_var hN hvs h1 h2
  refine ⟨fun pins s σ H Q I ⟨x, δ, h, Z, r, R, xr, sl, e, q⟩ => ?_⟩
  obtain ⟨ed, us, v, e1, e2, e3, rv⟩ := xr.look e
  have ec := xr.cls
  exact (pe_xf (a := a) (C := ca x.cls) (cls := cls) (d := d) xr.ok.xf (xr.ok.na f hm) hz hf v1 rfl).run pins s σ H Q I ⟨.ref a, sl j rfl, rfl, ec, ed, us, v, e1, e2, e3, q _ _ _ (.refl R) rv⟩
theorem hv_pair {e1 e2 : Expr} {u v : HE} {k : Nat} (h1 : PE X e1 (tHv X.K Y ca i a cls d u)) (h2 : PE X e2 (tHv X.K Y ca i a cls d v)) (n1 : notStar e1 = true) (n2 : notStar e2 = true) : PE X (.Tuple [e1, e2] k pos) (tHv X.K Y ca i a cls d (.pair u v)) := by
  refine PE.imp (pe_tup (pa_cons h1 (pa_cons h2 pa_nil (star_cons n2)) (star_cons n1))) fun σ H Q ⟨x, δ, h, Z, r, R, xr, sl, e, q⟩ => ?_
  simp only [hv] at e
  cases eu : hv x u with
  | none => rw [eu] at e; cases e
  | some ru =>
    cases ev : hv x v with
    | none => rw [eu, ev] at e; cases e
    | some rv =>
      rw [eu, ev] at e
      cases e
      refine ⟨x, δ, h, Z, ru, R, xr, sl, eu, fun w1 H1 Z1 A1 p1 => ⟨x, δ, h, Z1, rv, A1.rel, xr.aft R A1, sl, ev, fun w2 H2 Z2 A2 p2 => ⟨by rw [sizeLine_eq]; simp, fun q2 hn => ?_⟩⟩⟩
      have A := A1.trans A2
      have r2 : Reps X.K Z2 H2 [ru, rv] [w1, w2] := .cons (p1.keeps (A2.keeps A1.rel)) (.cons p2 .nil)
      obtain ⟨B, rr⟩ := A.tup_new r2 hn
      rcases rr with ⟨o, _⟩ | ⟨j', ej, _⟩ | ⟨pl, rp⟩
      · cases o
      · cases ej
      · exact q _ _ _ B rp
/-! isinstance(e, D) -/
def tIs (K : PySem.W.Frag) (Y : Ey) (ca : Str → Addr) (i : Option Nat) (a : Addr) (cls : Value) (d : Option Addr) (D : Str) : TE := fun σ H Q => ∃ x δ h Z, Rel K Y Z δ h σ H ∧ XRep K ca Z H x cls d ∧ (∀ j, i = some j → σ[j]? = some (some (.ref a))) ∧ Q (.bl (subX x.cls D)) H
def rIsX (K : PySem.W.Frag) (ca : Str → Addr) (a : Addr) (cls : Value) (d : Option Addr) : List V → Hp → VK → Prop := fun xs H Q => ∃ (c : V) (cv : Value) (b : Bool) (x : SX) (Z : ZS), xs = [.ref a, c] ∧ (∀ u, RelV c u → u = cv) ∧ XRep K ca Z H x cls d ∧ PySem.W.kitOne K (.ref (ca x.cls)) cv = some b ∧ Q (.bl b) H
theorem call_isX (hz : Zc cls d oe) (hf : ∃ vs, oe.data = .fields vs) : CallR (X.suite a ((a, oe) :: pn)) (.builtin "isinstance") (rIsX X.K ca a cls d) := by
  intro pins s σ H xs us Q I r h
  obtain ⟨c, cv, b, x, Z, rfl, hcv, xr, e, q⟩ := h
  cases r with
  | cons rx rr =>
    cases rr with
    | cons rt rr =>
      cases rr
      cases rx
      have ec := hcv _ rt
      subst ec
      obtain ⟨hget, _⟩ := I.pin (a, oe) (List.mem_append.mpr (.inl List.mem_cons_self))
      obtain ⟨vs, hv'⟩ := hf
      obtain ⟨e1, T, ed, ws, e2, e3, _⟩ := xr
      subst e1 e2
      have hx : ObjOk X.prog X.w H s.heap ed (.xd ws) := I.hok ed _ e3
      obtain ⟨mA, hns, _⟩ := hx
      obtain ⟨od, ho, _⟩ := lookIn_ns hns
      have J : PySem.W.InstAt s.heap a oe (ca x.cls) (some od) := ⟨hget, hz.1, by unfold PySem.W.notCls; rw [hv'] <;> rfl, by rw [hz.2]; exact ho⟩
      exact PySem.W.kia_one (PySem.W.kitx_exc T.cl T.xf.ga T.xf.gg T.xf.exC T.ha T.hn T.ht T.hm) I.kIn J e (fun z => nomatch z) fun tk => ⟨.bl b, H, I.kept (t' := tk) fun _ _ z => z, rfl, q⟩
theorem hv_is {D : Str} {cv : V} {cu : Value} {p0 p3 : Pos} (hz : Zc cls d oe) (hf : ∃ vs, oe.data = .fields vs) (hN : X.N[j]? = some n) (hvs : Vis X.env.scope n) (h1 : (n == ("__debug__" : Str)) = false) (h2 : (n == ("__classdict__" : Str)) = false)
    (hg : Gl X "isinstance") (hm : X.mg "isinstance" = none) (hD : PE (X.suite a ((a, oe) :: pn)) (.Name D p3) (tC cv)) (hu : ∀ u, RelV cv u → u = cu) (hk : ∀ C m, XcF X.K C m → PySem.W.kitOne X.K (.ref C) cu = some (subX m D)) :
    PE (X.suite a ((a, oe) :: pn)) (.Call (.Name "isinstance" p0) [.Name n p, .Name D p3] [] pos) (tIs X.K Y ca (some j) a cls d D) := by
  have v1 : PE (X.suite a ((a, oe) :: pn)) (.Name n p) (tVar j) := pe_var hN hvs h1 h2
  refine PE.imp (pe_callB (call_isX (ca := ca) hz hf) hg hm (by decide +kernel) (pa_cons v1 (pa_cons hD pa_nil rfl) rfl) (by decide) (by decide) rfl rfl) fun σ H Q ⟨x, δ, h, Z, R, xr, sl, q⟩ => ?_
  exact ⟨.ref a, sl j rfl, cv, cu, _, x, Z, rfl, hu, xr, hk _ _ xr.ok, q⟩
theorem hv_isi {A B : Str} {t f : SV} {c1 c2 et ef : Expr} {p3 : Pos} (h1 : PE X c1 (tIs X.K Y ca i a cls d A)) (h2 : PE X c2 (tIs X.K Y ca i a cls d B)) (q1 : plainTest c1 = true) (q2 : plainTest c2 = true) (ht : PE X et (tHv X.K Y ca i a cls d (.cst t))) (hf : PE X ef (tHv X.K Y ca i a cls d (.cst f))) :
    PE X (.IfExp (.BoolOp .And [c1, c2] p3) et ef pos) (tHv X.K Y ca i a cls d (.isi A B t f)) := by
  refine PE.imp (pe_ifExp (PW.pt (pw_and (pt_val h1 (test_plain q1)) (pw_and1 (pt_val h2 (test_plain q2))))) ht hf) fun σ H Q ⟨x, δ, h, Z, r, R, xr, sl, e, q⟩ => ?_
  simp only [hv] at e
  refine ⟨x, δ, h, Z, R, xr, sl, subX x.cls A, rfl, ?_⟩
  cases e1 : subX x.cls A with
  | false =>
    rw [e1] at e
    refine iteF (iteF ⟨x, δ, h, Z, r, R, xr, sl, ?_, q⟩)
    simpa [hv] using e
  | true =>
    rw [e1] at e
    refine iteT ⟨x, δ, h, Z, R, xr, sl, subX x.cls B, rfl, ?_⟩
    cases e2 : subX x.cls B with
    | false =>
      rw [e2] at e
      refine iteF ⟨x, δ, h, Z, r, R, xr, sl, ?_, q⟩
      simpa [hv] using e
    | true =>
      rw [e2] at e
      refine iteT ⟨x, δ, h, Z, r, R, xr, sl, ?_, q⟩
      simpa [hv] using e
end
/-! ### suites -/
def tHs (K : PySem.W.Frag) (Y : Ey) (ca : Str → Addr) (i : Option Nat) (z : HS) : Suite := fun a cls d D σ H => ∃ x δ h Z R, Rel K Y Z δ h σ H ∧ XRep K ca Z H x cls d ∧ (∀ j, i = some j → σ[j]? = some (some (.ref a))) ∧ hsS x z δ h R ∧ EndsOk K Y Z H R D
section
variable {X : Cx} {Y : Ey} {ca : Str → Addr} {i : Option Nat} {a : Addr} {cls : Value} {d : Option Addr} {pos p : Pos} {j : Nat} {e : Expr} {he : HE} {n : Str}
theorem hs_ret (h1 : PE X e (tHv X.K Y ca i a cls d he)) : PS X (.Return (some e) pos) (tHs X.K Y ca i (.ret he) a cls d) := by
  refine PS.imp (ps_ret h1) fun D σ H ⟨x, δ, h, Z, R, rel, xr, sl, ⟨r, er, w⟩, f⟩ => ⟨x, δ, h, Z, r, rel, xr, sl, er, fun v H' Z' A rp => ?_⟩
  exact f.rt _ _ _ _ _ w A.rel.hr A.rel.ent.toFr (.inr ⟨rp.plain, rp⟩)
theorem hs_asg (h1 : PE X e (tHv X.K Y ca i a cls d he)) (hN : X.N.Nodup) (hi : X.N[j]? = some n) (hx : Loc X.env.scope n) (hf : X.fn n = true ∨ X.env.scope.names.lookup n = some .local) (hs : swapsWith e (some (.Name n p)) pos.line X.env = pure false) :
    PS X (.Assign [.Name n p] e pos) (tHs X.K Y ca i (.asg j he) a cls d) := by
  refine PS.imp (ps_set hN hi hx h1 hs hf) fun D σ H ⟨x, δ, h, Z, R, rel, xr, sl, ⟨r, er, hl, w⟩, f⟩ => ⟨x, δ, h, Z, r, rel, xr, sl, er, fun v H' Z' A rp => ?_⟩
  exact f.nx _ _ _ _ _ w (A.rel.assign rp) (A.keeps rel)
/-- a constant -/
def cstV : SV → Bool
  | .int _ => true
  | .bl _ => true
  | .str _ => true
  | .non => true
  | _ => false
theorem hs_app {G : Gm} {st : Stmt} {v : SV} (hv' : cstV v = true) (h1 : PS X st (tS X.K Y G (.exp (.mth .append (.var j) [.cst v])))) : PS X st (tHs X.K Y ca i (.app j v) a cls d) := by
  refine PS.imp h1 fun D σ H ⟨x, δ, h, Z, R, rel, xr, sl, ⟨xs, ex, hl, w⟩, f⟩ => ⟨δ, h, Z, R, rel, ?_, f⟩
  simp only [wpS, wpE, wpSt]
  rw [ex]
  refine ⟨⟨xs, rfl⟩, ?_⟩
  cases v <;> first | (cases hv'; done) | exact ⟨_, xs, rfl, ex, hl, w⟩
end
/-! ### raise, try -/
/-- what is known of the class n -/
structure XOk (X : Cx) (ca : Str → Addr) (n : Str) : Prop where
  nm : n ∈ xNames
  mg : X.mg n = some (.ref (ca n))
  ga : ca n = He.ga X.K n
  hd : hdB X.K n = true
  cf : XcF X.K (ca n) n
/-- its __init__ -/
structure XIni (X : Cx) (ca : Str → Addr) (n : Str) (fo : Option Str) (k : Nat) : Prop where
  ex : ∃ (fI : Addr) (fd : FuncData) (ps : List Str) (bi : String) (m : Nat), XCb X.K bi (ca n) ∧ PySem.W.findIn X.K (.ref (ca n)) "__init__" = some (some (.ref fI)) ∧ PySem.W.typeIn X.K (.ref fI) = some (.type "function") ∧
    FnOk X.prog X.w X.K X.mg X.base (CX X.prog X.w) m fI fd ps (match fo with
      | none => spSub X.K bi n
      | some f => spFld X.K bi n f) ∧ m + 1 ≤ k ∧ Binds X.K fd ps [] ∧ ∀ f, fo = some f → f ∈ (["called", "at", "row"] : List Str)
section
variable {X : Cx} {Y : Ey} {G : Gm} {ca : Str → Addr} {pos p p2 : Pos} {n : Str} {k : Nat} {e : Expr} {s : SE}
theorem s_rais0 (o : XOk X ca n) (ini : XIni X ca n none k) (hc : X.calm = true) (hr : Room k X.A) (tk : Takes X (wX X.K Y ca G.xp)) (hg : Gl X n) (hdb : (n == ("__debug__" : Str)) = false) : PS X (.Raise (some (.Call (.Name n p) [] [] p2)) none pos) (tS X.K Y G (.rais n none)) := by
  obtain ⟨fI, fd, ps, bi, m, xc, iC, tI, F, hm, hb, _⟩ := ini.ex
  refine PS.imp (ps_raise hc tk (pmk_sub xc (o.cf.na _ (by simp)) iC tI F (hr.mono hm) hb hg o.mg hdb)) fun D σ H ⟨δ, h, Z, R, rel, w, f⟩ => fun dd hn => ?_
  simp only [wpS] at w
  refine ⟨_, δ, h, Z, rel.new hn, ⟨rfl, o.cf, dd, _, rfl, upd_same, rfl, ?_⟩, w⟩
  exact .cons (by simp only [Rep]) .nil
theorem s_rais1 {g : Str} (o : XOk X ca n) (ini : XIni X ca n (some g) k) (hc : X.calm = true) (hr : Room k X.A) (tk : Takes X (wX X.K Y ca G.xp)) (hg : Gl X n) (hdb : (n == ("__debug__" : Str)) = false) (he : PE X e (tE X.K Y G s)) (hs : notStar e = true) :
    PS X (.Raise (some (.Call (.Name n p) [e] [] p2)) none pos) (tS X.K Y G (.rais n (some (g, s)))) := by
  obtain ⟨fI, fd, ps, bi, m, xc, iC, tI, F, hm, hb, hf⟩ := ini.ex
  refine PS.imp (ps_raise hc tk (pmk_fld xc (o.cf.na _ (by simp)) (o.cf.na g (hf g rfl)) iC tI F (hr.mono hm) hb hg o.mg hdb he (star_cons hs))) fun D σ H ⟨δ, h, Z, R, rel, w, f⟩ => ?_
  simp only [wpS, wpSt] at w
  refine ⟨δ, h, Z, _, rel, w, fun r δ1 h1 v H1 Z1 w1 A rr => ?_⟩
  obtain ⟨r', δ2, Z2, ⟨dd, e1, w2⟩, A2, p'⟩ := A.stow rr w1
  cases e1
  intro d2 hn
  refine ⟨_, δ2, h1, Z2, A2.rel.new hn, ⟨rfl, o.cf, d2, _, rfl, upd_same, rfl, ?_⟩, w2⟩
  exact .cons (p'.keeps (keeps_upd hn)) (.cons (by simp only [Rep]) .nil)
/-- the last try's place is here -/
def Ey.here (Y : Ey) (H : Hp) (Z : ZS) : Ey := { Y with Ha := H, Za := Z }
theorem Rel.here {K : PySem.W.Frag} {Z : ZS} {δ : SSt} {h : SHp} {σ : L2.St} {H : Hp} (R : Rel K Y Z δ h σ H) : Rel K (Y.here H Z) Z δ h σ H := ⟨R.hr, ⟨⟨R.ent.keep, R.ent.untr, R.ent.track, R.ent.zmono, R.ent.znew⟩, .refl⟩, R.len, R.slot, R.dist⟩
theorem Rel.there {K : PySem.W.Frag} {Z Z0 : ZS} {δ : SSt} {h : SHp} {σ : L2.St} {H H0 : Hp} (a : Keeps Y.Za Y.Ha Z0 H0) (R : Rel K (Y.here H0 Z0) Z δ h σ H) : Rel K Y Z δ h σ H ∧ Keeps Z0 H0 Z H :=
  ⟨⟨R.hr, ⟨⟨R.ent.keep, R.ent.untr, R.ent.track, R.ent.zmono, R.ent.znew⟩, a.trans R.ent.anc⟩, R.len, R.slot, R.dist⟩, R.ent.anc⟩
def hdVals (X : Cx) (Y : Ey) (ca : Str → Addr) (hs : List Hd) : List (Value × Option Nat × Suite) := hs.map fun c => (.ref (ca c.c), c.i, tHs X.K Y ca c.i c.s)
theorem catch_ok {R : SEnds} {D : Ends} {Z0 : ZS} {H0 : Hp} (f : EndsOk X.K Y Z0 H0 R D) {x : SX} {δ : SSt} {h : SHp} {Z : ZS} {σ : L2.St} {H : Hp} {cls : Value} {d : Option Addr} (rel : Rel X.K Y Z δ h σ H) (kp : Keeps Z0 H0 Z H) (xr : XRep X.K ca Z H x cls d) :
    ∀ (hs : List Hd), (∀ c ∈ hs, XOk X ca c.c ∧ ∀ i, c.i = some i → i < δ.length) → catchS G.xp R hs x δ h → wAll X.K (wX X.K Y ca G.xp) D (hdVals X Y ca hs) cls d σ H
  | [], _, w => ⟨x, δ, h, Z, rel, xr, w⟩
  | c :: r, hc, w => by
    obtain ⟨o, hi⟩ := hc c (by simp)
    refine ⟨subX x.cls c.c, ?_, fun e a na => ?_, fun e => catch_ok f rel kp xr r (fun c' m => hc c' (by simp [m])) ?_⟩
    · rw [xr.cls, o.ga]
      exact xr.ok.ex c.c o.nm o.hd
    · simp only [catchS] at w
      rw [e] at w
      refine ⟨x, wipeO δ c.i, h, Z, goneS c.i R, rel.setA c.i _, ⟨xr.cls, xr.ok, xr.fs⟩, fun j ej => ?_, w, ⟨fun δ' h' σ' H' Z' q rl k => ?_, fun δ' h' σ' H' Z' q rl k => ?_, fun δ' h' σ' H' Z' q rl k => ?_, f.rt⟩⟩
      · rw [ej]
        exact List.getElem?_set_self (by rw [← rel.len]; exact hi j ej)
      · exact f.nx _ _ _ _ _ q (rl.setA c.i none) (kp.trans k)
      · exact f.bk _ _ _ _ _ q (rl.setA c.i none) (kp.trans k)
      · exact f.ct _ _ _ _ _ q (rl.setA c.i none) (kp.trans k)
    · simp only [catchS] at w
      rw [e] at w
      exact w
theorem s_try {body : List Stmt} {h₀ : ExceptHandler} {hds : List ExceptHandler} {sb : List SS} {hs : List Hd} (h1 : X.stack = X.env :: X.outer) (h2 : X.env.frame = some X.env.locals) (hN : X.N.Nodup) (tk : Takes X (wX X.K Y ca G.xp))
    (hb : ∀ (Y' : Ey) (xp : SX → SSt → SHp → Prop) (pn : List (Addr × Obj)) (xe : Value → Shared → Prop), Takes (X.tr pn xe) (wX X.K Y' ca xp) → PassesOwn (model X.prog X.w) X.A X.env xe → PSs (X.tr pn xe) body (tSs X.K Y' { G with xp := xp } sb))
    (hh : HdL X (h₀ :: hds) (hdVals X Y ca hs)) (ho : ∀ c ∈ hs, XOk X ca c.c ∧ ∀ i, c.i = some i → i < X.N.length) : PS X (.Try body (h₀ :: hds) [] [] pos) (tS X.K Y G (.try sb hs)) := by
  have tb : ∀ (W : WX) (pn : List (Addr × Obj)) (xe : Value → Shared → Prop), Takes (X.tr pn xe) W → PassesOwn (model X.prog X.w) X.A X.env xe → PSs (X.tr pn xe) body (fun D σ H => ∃ Y' xp, (∀ c d σ H, σ.length = X.N.length → wX X.K Y' ca xp c d σ H → W c d σ H) ∧ tSs X.K Y' { G with xp := xp } sb D σ H) := fun W pn xe t po => by
    refine ⟨fun pins s σ H D I ⟨Y', xp, im, w⟩ => (hb Y' xp pn xe (fun u s' ⟨a, B, sI, pins', σ', H', cls, d, e, J, nb, up, sky, na, os, ag, w'⟩ => t u s' ⟨a, B, sI, pins', σ', H', cls, d, e, J, nb, up, sky, na, os, ag, im _ _ _ _ J.len w'⟩) po).run pins s σ H D I w⟩
  refine PS.imp (ps_tryL h1 h2 hN tk tb hh) fun D σ H ⟨δ, h, Z, R, rel, w, f⟩ => ⟨Y.here H Z, catchS G.xp R hs, fun c d σ' H' hl ⟨x, δ', h', Z', rl, xr, w'⟩ => ?_, δ, h, Z, R, rel.here, ?_, ⟨fun δ' h' σ' H' Z' q rl k => ?_, fun δ' h' σ' H' Z' q rl k => ?_, fun δ' h' σ' H' Z' q rl k => ?_, f.rt⟩⟩
  · obtain ⟨rl, kp⟩ := rl.there rel.ent.anc
    exact catch_ok f rl kp xr hs (fun c' m => ⟨(ho c' m).1, fun i e => by rw [rl.len, hl]; exact (ho c' m).2 i e⟩) w'
  · simp only [wpS] at w
    exact w
  · exact f.nx _ _ _ _ _ q (rl.there rel.ent.anc).1 k
  · exact f.bk _ _ _ _ _ q (rl.there rel.ent.anc).1 k
  · exact f.ct _ _ _ _ _ q (rl.there rel.ent.anc).1 k
end
end SL
/-! O1: objects are made, their methods called; what they let out goes by the slots. -/
namespace SL
open PySem PySem.Spec PyProof.Rows L2
section
variable {X : Cx} {CX : CXT} {k n : Nat} {f C : Addr} {fd : FuncData} {ps ks : List Str} {sp : Sp} {E : L2.St → XK} {x m : Str} {p pos apos : Pos} {o e : Expr} {es : List Expr} {kws : List Keyword} {ta : TE} {t tk : TA} {g : List Value → List Value → List Value} {gV : List V → List V → List V}
def tMakeP (C : Addr) (n m : Nat) (sp : Sp) (gV : List V → List V → List V) (E : L2.St → XK) (t tk : TA) : TE := fun σ H Q => t σ H fun vs H1 => tk σ H1 fun zs H2 => vs.length = n ∧ zs.length = m ∧
  ∀ x dx, H2 x = none → H2 dx = none → dx ≠ x → sp (gV (.ref x :: vs) zs) (upd (upd H2 dx (.own x)) x (.ins C dx [])) (fun v H3 => v = .non ∧ Q (.ref x) H3) (E σ)
def tMethP (C : Addr) (m : Str) (n j : Nat) (sp : Sp) (gV : List V → List V → List V) (E : L2.St → XK) (ta : TE) (t tk : TA) : TE := fun σ H Q => ta σ H fun x H1 => ∃ a dx fs, x = .ref a ∧ H1 a = some (.ins C dx fs) ∧ fs.lookup m = none ∧
  t σ H1 fun vs H2 => tk σ H2 fun zs H3 => vs.length = n ∧ zs.length = j ∧ sp (gV (.ref a :: vs) zs) H3 Q (E σ)
theorem run_makeP {pins : List (Addr × Obj)} {σ : L2.St} {H : Hp} {s : Shared} {Q : VK} {us ws : List Value} {vs zs : List V} (M : Mk X.K C f) (F : FnG X.prog X.w X.K X.mg X.base CX k f fd ps sp) (hr : Room (k + 1) X.A) (gd : X.A.guards = some []) (hb : KBn X.K fd ps (n + 1) ks g gV)
    (hx : PassesAt CX X σ (E σ)) (I : Inv X pins σ H s) (r : Vals vs us) (rz : Vals zs ws) (l1 : vs.length = n) (l2 : zs.length = ks.length)
    (h : ∀ x dx, H x = none → H dx = none → dx ≠ x → sp (gV (.ref x :: vs) zs) (upd (upd H dx (.own x)) x (.ins C dx [])) (fun v H2 => v = .non ∧ Q (.ref x) H2) (E σ)) :
    wpAny (model X.prog X.w) X.A (call (.ref C) us (ks.zip ws)) (EP X pins σ Q) X.xe s := by
  have J := Inv.made (C := C) I
  have hq := h _ _ (I.hok.fresh (Nat.le_succ s.heap.objs.size)) (I.hok.fresh (Nat.le_refl _)) (Nat.ne_of_lt (Nat.lt_succ_self _))
  have r1 : Vals (V.ref (s.heap.objs.size + 1) :: vs) (Value.ref (s.heap.objs.size + 1) :: us) := .cons rfl r
  have l3 : (Value.ref (s.heap.objs.size + 1) :: us).length = n + 1 := by rw [← r1.length, List.length_cons, l1]
  have go := F.run _ X.stack _ _ ⟨Value.ref (s.heap.objs.size + 1) :: us, ks.zip ws⟩ _ _ _ (E σ) (hr.make C us (ks.zip ws)) (make_guards gd) (J.env0.make C us (ks.zip ws)) (hb.to _ _ ws J.kIn l3 (rz.length.symm.trans l2)) (hb.rel r1 rz) hq
  refine wpAny_call (make_map (f := f) I.kIn M.makes M.init (beq_iff_eq.mp M.fn) (codeAny_mono go fun res s' q => ?_))
  match res, q with
  | .error er, q => exact hx pins _ _ er s' J q
  | .ok (.ret u), q =>
    obtain ⟨v, H', J3, rv, ev, q3⟩ := J.after q
    subst ev
    exact ⟨rv, V.ref (s.heap.objs.size + 1), H', J3, rfl, q3⟩
theorem pe_makeP (M : Mk X.K C f) (F : FnG X.prog X.w X.K X.mg X.base CX k f fd ps sp) (hr : Room (k + 1) X.A) (gd : X.A.guards = some []) (hg : Gl X x) (hm : X.mg x = some (.ref C)) (hb : KBn X.K fd ps (n + 1) ks g gV) (hx : ∀ σ, PassesAt CX X σ (E σ)) (ha : PA X (e :: es) t) (hkw : PK X kws tk)
    (hn : kwB ks kws = true) (hdb : (x == ("__debug__" : Str)) = false) (hst : (e :: es).all notStar = true) : PE X (.Call (.Name x p) (e :: es) kws pos) (tMakeP C n ks.length sp gV E t tk) := by
  obtain ⟨n1, n2, n3, _⟩ := kw_names (env := X.env) (pos := pos) hn
  have hs := hst
  rw [List.all_cons, Bool.and_eq_true] at hs
  refine ⟨fun pins s σ H Q I h => wpAny_Call_Name_kw (ld_glob I hg hm ?_ hdb)⟩
  refine PySem.W.callWith_KW (h₀ := X.base) I.ok.mod.kin M.kp n1 (thn (ha.run pos pins s σ H _ I h) ?_) (by rw [back_any hst, n3]; rfl) (star_cons hs.1)
  rintro us s1 ⟨vs, H1, I1, r, q⟩
  refine thn (hkw.run pos pins s1 σ H1 _ I1 q) ?_
  rintro ws s2 ⟨zs, H2, I2, rz, l1, l2, q2⟩
  rw [n2]
  exact ⟨I2.kIn, run_makeP M F hr gd hb (hx σ) I2 r rz l1 l2 q2⟩
theorem pe_methP {pl : Sem Bool} (he : PE X o ta) (c : Cls X.K C) (hm : Meth X.K C m f) (F : FnG X.prog X.w X.K X.mg X.base CX k f fd ps sp) (hr : Room k X.A) (gd : X.A.guards = some []) (hb : KBn X.K fd ps (n + 1) ks g gV) (hx : ∀ σ, PassesAt CX X σ (E σ)) (ha : PA X (e :: es) t) (hkw : PK X kws tk)
    (hn : kwB ks kws = true) (hst : (e :: es).all notStar = true)
    (ht : eval (.Call (.Attribute o m apos) (e :: es) kws pos) X.env = (do
      let ov ← eval o X.env
      standAt apos.atName
      let (f, first) ← holding [ov] (getMethod ov m pl)
      callWith pos f first (backTo pos (starEach (e :: es) X.env)) (backToKw pos (keywordEach kws X.env)))) :
    PE X (.Call (.Attribute o m apos) (e :: es) kws pos) (tMethP C m n ks.length sp gV E ta t tk) := by
  obtain ⟨n1, n2, n3, _⟩ := kw_names (env := X.env) (pos := pos) hn
  have hs := hst
  rw [List.all_cons, Bool.and_eq_true] at hs
  refine ⟨fun pins s σ H Q I h => PySem.W.methodCall_KW (pl := pl) (thn (he.run pins s σ H _ I h) ?_) ht⟩
  rintro u s0 ⟨y, H0, I0, ry, a, dx, fs, ey, ea, l, q0⟩
  subst ey
  obtain rfl : u = Value.ref a := ry
  refine getmeth_ok I0 ea c hm l ?_
  refine PySem.W.callWith_KW (first := [.ref a]) (h₀ := X.base) I.ok.mod.kin hm.kp n1 (thn (ha.run pos pins s0 σ H0 _ I0 q0) ?_) (by rw [back_any hst, n3]; rfl) (star_cons hs.1)
  rintro us s1 ⟨vs, H1, I1, r, q⟩
  refine thn (hkw.run pos pins s1 σ H1 _ I1 q) ?_
  rintro ws s2 ⟨zs, H2, I2, rz, l1, l2, q2⟩
  rw [n2]
  exact ⟨I2.kIn, run_fnP (us := .ref a :: us) (vs := .ref a :: vs) F hr gd hb (hx σ) I2 (.cons rfl r) rz (by rw [List.length_cons, l1]) l2 q2⟩
theorem pe_methP0 {pl : Sem Bool} (he : PE X o ta) (c : Cls X.K C) (hm : Meth X.K C m f) (F : FnG X.prog X.w X.K X.mg X.base CX k f fd ps sp) (hr : Room k X.A) (gd : X.A.guards = some []) (hb : KBn X.K fd ps 1 [] g gV) (hx : ∀ σ, PassesAt CX X σ (E σ))
    (ht : eval (.Call (.Attribute o m apos) [] [] pos) X.env = (do
      let ov ← eval o X.env
      standAt apos.atName
      let (f, first) ← holding [ov] (getMethod ov m pl)
      callWith pos f first (backTo pos (starEach [] X.env)) (backToKw pos (keywordEach [] X.env)))) :
    PE X (.Call (.Attribute o m apos) [] [] pos) (tMethP C m 0 0 sp gV E ta tNil tNil) := by
  refine ⟨fun pins s σ H Q I h => PySem.W.methodCall_KW (pl := pl) (thn (he.run pins s σ H _ I h) ?_) ht⟩
  rintro u s0 ⟨y, H0, I0, ry, a, dx, fs, ey, ea, l, _, _, q0⟩
  subst ey
  obtain rfl : u = Value.ref a := ry
  refine getmeth_ok I0 ea c hm l ?_
  exact PySem.W.callWith_K0 (first := [.ref a]) I0.kIn hm.kp (run_fnP (us := [.ref a]) (vs := [.ref a]) (ws := []) (zs := []) F hr gd hb (hx σ) I0 (.cons rfl .nil) .nil rfl rfl q0)
end
end SL
/-! O2: objects in the layer. -/
namespace SL
open PySem PySem.Spec PyProof.Rows L2
section
variable {K : PySem.W.Frag} {Y : Ey} {σ : L2.St} {δ δ1 : SSt} {h h1 : SHp} {H H1 : Hp} {Z Z1 : ZS}
/-- a new cell -/
theorem Aft.newCell (A : Aft K Y σ δ h H Z δ1 h1 H1 Z1) {p : Addr} {o : HO} {c : Cell} (n : H1 p = none) (cr : CRep K Z1 (upd H1 p o) p c) : Aft K Y σ δ h H Z δ1 (h1.set p c) (upd H1 p o) Z1 := by
  have B := A.trans (A.rel.aft_new (o := o) n)
  have nz : ¬ Z1 p := fun z => A.rel.hr.zin p z n
  have fr := A.rel.fresh n
  refine ⟨B.rel.put nz fr.1 fr.2 cr, ⟨B.fr.keep, fun a e nn no => ?_, B.fr.track, B.fr.zmono, B.fr.znew⟩, B.own⟩
  have ne : a ≠ p := fun z => A.fr.track a e (by rw [z]; exact n)
  rw [SHp.set_ne ne]
  exact B.fr.untr a e nn no
theorem put_reps {f : Str} {d : SV} {v : V} (rv : Rep K Z H d v) : ∀ {fs : List (Str × SV)} {us : List (Str × V)}, us.map (·.1) = fs.map (·.1) → Reps K Z H (fs.map (·.2)) (us.map (·.2)) →
    (putF f v us).map (·.1) = (putS f d fs).map (·.1) ∧ Reps K Z H ((putS f d fs).map (·.2)) ((putF f v us).map (·.2))
  | [], [], _, _ => ⟨rfl, .cons rv .nil⟩
  | [], _ :: _, e, _ => by cases e
  | _ :: _, [], e, _ => by cases e
  | (g, x) :: fs, (g', y) :: us, e, r => by
    simp only [List.map_cons, List.cons.injEq] at e
    obtain ⟨rfl, e⟩ := e
    obtain ⟨y', r', ey, r1, r2⟩ := (show Reps K Z H (x :: fs.map (·.2)) (y :: us.map (·.2)) from r).cons_inv
    cases ey
    unfold putF putS
    by_cases hg : g' = f
    · rw [if_pos hg, if_pos hg]
      exact ⟨by simp [e], .cons rv r2⟩
    · rw [if_neg hg, if_neg hg]
      obtain ⟨q1, q2⟩ := put_reps rv e r2
      exact ⟨by simp [q1], .cons r1 q2⟩
theorem fld_reps {f : Str} {d : SV} : ∀ {fs : List (Str × SV)} {us : List (Str × V)}, us.map (·.1) = fs.map (·.1) → Reps K Z H (fs.map (·.2)) (us.map (·.2)) → fs.lookup f = some d → ∃ v, us.lookup f = some v ∧ Rep K Z H d v
  | [], _, _, _, l => by cases l
  | (g, x) :: fs, [], e, _, _ => by cases e
  | (g, x) :: fs, (g', y) :: us, e, r, l => by
    simp only [List.map_cons, List.cons.injEq] at e
    obtain ⟨rfl, e⟩ := e
    obtain ⟨y', r', ey, r1, r2⟩ := (show Reps K Z H (x :: fs.map (·.2)) (y :: us.map (·.2)) from r).cons_inv
    cases ey
    cases hb : (f == g') with
    | true =>
      simp only [List.lookup, hb] at l ⊢
      cases l
      exact ⟨y, rfl, r1⟩
    | false =>
      simp only [List.lookup, hb] at l ⊢
      exact fld_reps e r2 l
theorem fld_none {f : Str} : ∀ {fs : List (Str × SV)} {us : List (Str × V)}, us.map (·.1) = fs.map (·.1) → fs.lookup f = none → us.lookup f = none
  | [], [], _, _ => rfl
  | [], _ :: _, e, _ => by cases e
  | _ :: _, [], e, _ => by cases e
  | (g, x) :: fs, (g', y) :: us, e, l => by
    simp only [List.map_cons, List.cons.injEq] at e
    obtain ⟨rfl, e⟩ := e
    cases hb : (f == g') with
    | true => simp only [List.lookup, hb] at l; cases l
    | false =>
      simp only [List.lookup, hb] at l ⊢
      exact fld_none e l
end
section
variable {X : Cx} {Y : Ey} {G : Gm} {e a b c : Expr} {s sa sb sc : SE} {pos : Pos} {es : List Expr} {ss : List SE} {kws : List Keyword} {C f : Str}
theorem ref_of {K : PySem.W.Frag} {σ : L2.St} {H0 : Hp} {δ : SSt} {h : SHp} {Z : ZS} {H : Hp} {p : Addr} {v : V} (rr : RRep K Y σ H0 δ h Z H (.ref p) v) : v = .ref p := by
  rcases rr with ⟨o, _⟩ | ⟨j, ej, _⟩ | ⟨_, r⟩
  · cases o
  · cases ej
  · simpa only [Rep] using r
/-- e.f -/
theorem se_fld (c : Cls X.K (He.ga X.K C)) (n : NoAttr X.K (He.ga X.K C) f) (ha : PE X a (tE X.K Y G sa)) (hb : plainBase a = true) : PE X (.Attribute a f pos) (tE X.K Y G (.fld C sa f)) := by
  refine PE.imp (pe_fld ha (base_ok hb)) fun σ H Q ⟨δ, h, Z, R, rel, w, fn⟩ => ?_
  simp only [wpE] at w
  refine ⟨δ, h, Z, _, rel, w, fun r δ1 h1 v H1 Z1 ⟨p, fs, d, er, hp, hl, q⟩ A rr => ?_⟩
  subst er
  obtain rfl := ref_of rr
  obtain ⟨dx, us, e1, e2, e3⟩ := A.rel.hr.cell p _ hp
  obtain ⟨u, hu, ru⟩ := fld_reps e2 e3 hl
  exact ⟨p, _, dx, us, u, rfl, e1, c, n, hu, fn _ _ _ _ _ _ q A (.of ru)⟩
theorem back_all {env : Env} : ∀ {l : List Expr}, l.all notStar = true → (backTo pos (starEach l env)).all (fun x => !x.1) = true := fun {l} => by
  induction l with
  | nil => intro _; rfl
  | cons e r ih =>
    intro h
    rw [List.all_cons, Bool.and_eq_true] at h
    rw [star_cons h.1]
    show ((!false : Bool) && (backTo pos (starEach r env)).all (fun x => !x.1)) = true
    rw [ih h.2]; rfl
theorem few_gen {env : Env} {ks : List Str} {l : List Expr} (h : l.all notStar = true) (hk : kwB ks kws = true) (hl : l.length + kws.length + 1 < 30) : methodCallForm (l.length + kws.length) (backTo pos (starEach l env)) (backToKw pos (keywordEach kws env)) = true := by
  obtain ⟨n1, _, _, _⟩ := kw_names (env := env) (pos := pos) hk
  unfold methodCallForm
  rw [back_all h, n1]
  simp only [Bool.and_self, Bool.true_and, decide_eq_true_eq]
  split <;> omega
/-- o.m(..) -/
theorem se_meth {k : Nat} {g : Addr} {pn x m : Str} {apos : Pos} {ca : Str → Addr} {ks : List Str} {kss : List SE} (cl : Cls X.K (He.ga X.K C)) (hm : Meth X.K (He.ga X.K C) m g) (P : PatOk X G ca k pn x (ss.length + 1) ks g) (hr : Room k X.A) (gd : X.A.guards = some []) (tk : Takes X (wX X.K Y ca G.xp))
    (ho : PE X b (tE X.K Y G sb)) (ha : PA X (a :: es) (tArL X.K Y G ss)) (hkw : PK X kws (tArL X.K Y G kss)) (hn : kwB ks kws = true) (hl : kss.length = ks.length) (hst : (a :: es).all notStar = true) (hb : plainBase b = true) (hline : (apos.endLine == pos.line) = true) (hfew : (a :: es).length + kws.length + 1 < 30) :
    PE X (.Call (.Attribute b m apos) (a :: es) kws pos) (tE X.K Y G (.meth pn C m ks sb ss kss)) := by
  obtain ⟨pl, dss, dvs, fd, ps, sp, F, ⟨its, kb⟩, hd, hc⟩ := P.ex
  refine PE.imp (pe_methP (E := fun σ => WE (wX X.K Y ca G.xp) σ) ho cl hm F hr gd kb (fun σ => passAt tk σ) ha hkw hn hst (call_line (base_ok hb) (few_gen hst hn hfew) hline)) fun σ H Q ⟨δ, h, Z, R, rel, w, fn⟩ => ?_
  simp only [wpE] at w
  refine ⟨δ, h, Z, _, rel, w, fun r δ0 h0 v H0 Z0 ⟨p, fs, er, hp, hlk, w1⟩ A0 rr => ?_⟩
  subst er
  obtain rfl := ref_of rr
  obtain ⟨dx, us, e1, e2, e3⟩ := A0.rel.hr.cell p _ hp
  refine ⟨p, dx, us, rfl, e1, fld_none e2 hlk, δ0, h0, Z0, _, A0.rel, w1, fun rs bs δ1 h1 vs H1 Z1 q A r bo => ?_⟩
  refine ⟨δ1, h1, Z1, _, A.rel, q, fun rs2 bs2 δ2 h2 zs H2 Z2 ⟨m1, m2, q2⟩ A2 r2 bo2 => ?_⟩
  have B0 := A.trans A2
  have B := A0.trans B0
  have ra : Reps X.K Z2 H2 (.ref p :: (rs ++ rs2)) (.ref p :: (vs ++ zs)) := .cons (by simp only [Rep]) ((r.keeps (A2.keeps A.rel)).append r2)
  have boxes : ∀ b ∈ bs ++ bs2, BoxOk Y σ δ δ2.length b := fun b m => by
    rcases List.mem_append.mp m with m | m
    · exact (bo b m).mono A0.own (by rw [A2.rel.len, ← A.rel.len]; exact Nat.le_refl _)
    · exact (bo2 b m).mono (fun a o => A0.own a (A.own a o)) (Nat.le_refl _)
  refine ⟨r.length.trans m1, (r2.length.trans m2).trans hl, asmG .non pl (.ref p :: (rs ++ rs2)) dss, h2, Z2, _, _, B.rel.hr, asm_reps ra (hd _ _), hc _ _ _ _ q2, fun d h3 v H3 Z3 u hr3 fr3 ret => ?_, fun xx h3 c e H3 Z3 u hr3 fr3 xr => ?_⟩
  · have D := B.trans (B.rel.called hr3 fr3)
    obtain ⟨δ4, h4, q4, D', n1, n2⟩ := D.unbox boxes u
    exact fn _ _ _ _ _ _ q4 D' (ret_rr B n1 n2 ret)
  · have D := B.trans (B.rel.called hr3 fr3)
    obtain ⟨δ4, h4, q4, D', n1, n2⟩ := D.unbox boxes u
    exact ⟨xx, δ4, h4, Z3, D'.rel, xr, q4⟩
/-- o.m() -/
theorem se_meth0 {k : Nat} {g : Addr} {pn x m : Str} {apos : Pos} {ca : Str → Addr} (cl : Cls X.K (He.ga X.K C)) (hm : Meth X.K (He.ga X.K C) m g) (P : PatOk X G ca k pn x 1 [] g) (hr : Room k X.A) (gd : X.A.guards = some []) (tk : Takes X (wX X.K Y ca G.xp))
    (ho : PE X b (tE X.K Y G sb)) (hb : plainBase b = true) (hline : (apos.endLine == pos.line) = true) :
    PE X (.Call (.Attribute b m apos) [] [] pos) (tE X.K Y G (.meth pn C m [] sb [] [])) := by
  obtain ⟨pl, dss, dvs, fd, ps, sp, F, ⟨its, kb⟩, hd, hc⟩ := P.ex
  refine PE.imp (pe_methP0 (E := fun σ => WE (wX X.K Y ca G.xp) σ) ho cl hm F hr gd kb (fun σ => passAt tk σ) (call_line (base_ok hb) rfl hline)) fun σ H Q ⟨δ, h, Z, R, rel, w, fn⟩ => ?_
  simp only [wpE, wpAr] at w
  refine ⟨δ, h, Z, _, rel, w, fun r δ0 h0 v H0 Z0 ⟨p, fs, er, hp, hlk, _, _, q2⟩ B rr => ?_⟩
  subst er
  obtain rfl := ref_of rr
  obtain ⟨dx, us, e1, e2, e3⟩ := B.rel.hr.cell p _ hp
  have ra : Reps X.K Z0 H0 [.ref p] [.ref p] := .cons (by simp only [Rep]) .nil
  refine ⟨p, dx, us, rfl, e1, fld_none e2 hlk, rfl, rfl, asmG .non pl [.ref p] dss, h0, Z0, _, _, B.rel.hr, asm_reps ra (hd _ _), hc _ _ _ _ q2, fun d h3 v H3 Z3 u hr3 fr3 ret => ?_, fun xx h3 c e H3 Z3 u hr3 fr3 xr => ?_⟩
  · have D := B.trans (B.rel.called hr3 fr3)
    exact fn _ _ _ _ _ _ u D (ret_rr B (fun a z => z) (fun a o => .inl o) ret)
  · have D := B.trans (B.rel.called hr3 fr3)
    exact ⟨xx, δ0, h3, Z3, D.rel, xr, u⟩
/-- C(..) -/
theorem se_make {k : Nat} {g : Addr} {pn x : Str} {p0 : Pos} {ca : Str → Addr} {ks : List Str} {kss : List SE} (M : Mk X.K (He.ga X.K C) g) (P : PatOk X G ca k pn x (ss.length + 1) ks g) (hr : Room (k + 1) X.A) (gd : X.A.guards = some []) (hg : Gl X C) (hm : X.mg C = some (.ref (He.ga X.K C))) (tk : Takes X (wX X.K Y ca G.xp))
    (ha : PA X (a :: es) (tArL X.K Y G ss)) (hkw : PK X kws (tArL X.K Y G kss)) (hn : kwB ks kws = true) (hl : kss.length = ks.length) (hdb : (C == ("__debug__" : Str)) = false) (hst : (a :: es).all notStar = true) :
    PE X (.Call (.Name C p0) (a :: es) kws pos) (tE X.K Y G (.make pn C ks ss kss)) := by
  obtain ⟨pl, dss, dvs, fd, ps, sp, F, ⟨its, kb⟩, hd, hc⟩ := P.ex
  refine PE.imp (pe_makeP (E := fun σ => WE (wX X.K Y ca G.xp) σ) M F hr gd hg hm kb (fun σ => passAt tk σ) ha hkw hn hdb hst) fun σ H Q ⟨δ, h, Z, R, rel, w, fn⟩ => ?_
  simp only [wpE] at w
  refine ⟨δ, h, Z, _, rel, w, fun rs bs δ1 h1 vs H1 Z1 q A r bo => ?_⟩
  refine ⟨δ1, h1, Z1, _, A.rel, q, fun rs2 bs2 δ2 h2 zs H2 Z2 ⟨m1, m2, q2⟩ A2 r2 bo2 => ?_⟩
  have B0 := A.trans A2
  refine ⟨r.length.trans m1, (r2.length.trans m2).trans hl, fun y dx ny nd ne => ?_⟩
  have B1 := B0.trans (B0.rel.aft_new (o := .own y) nd)
  have ny1 : upd H2 dx (.own y) y = none := by rw [upd_ne (Ne.symm ne)]; exact ny
  have B : Aft X.K Y σ δ h H Z δ2 (h2.set y (.ins C [])) (upd (upd H2 dx (.own y)) y (.ins (He.ga X.K C) dx [])) Z2 := B1.newCell ny1 ⟨dx, [], upd_same, rfl, .nil⟩
  have kp : Keeps Z2 H2 Z2 (upd (upd H2 dx (.own y)) y (.ins (He.ga X.K C) dx [])) := (keeps_upd nd).trans (keeps_upd ny1)
  have ra : Reps X.K Z2 (upd (upd H2 dx (.own y)) y (.ins (He.ga X.K C) dx [])) (.ref y :: (rs ++ rs2)) (.ref y :: (vs ++ zs)) := .cons (by simp only [Rep]) (((r.keeps (A2.keeps A.rel)).append r2).keeps kp)
  have boxes : ∀ b ∈ bs ++ bs2, BoxOk Y σ δ δ2.length b := fun b m => by
    rcases List.mem_append.mp m with m | m
    · exact (bo b m).mono (fun _ o => o) (by rw [A2.rel.len, ← A.rel.len]; exact Nat.le_refl _)
    · exact (bo2 b m).mono A.own (Nat.le_refl _)
  refine ⟨asmG .non pl (.ref y :: (rs ++ rs2)) dss, _, Z2, _, _, B.rel.hr, asm_reps ra (hd _ _), hc _ _ _ _ (q2 y (B0.rel.hr.un ny)), fun d h3 v H3 Z3 ⟨ed, u⟩ hr3 fr3 ret => ?_, fun xx h3 c e H3 Z3 u hr3 fr3 xr => ?_⟩
  · subst ed
    have ev : v = .non := by
      rcases ret with ⟨o, _⟩ | ⟨_, rv⟩
      · cases o
      · simpa only [Rep] using rv
    have D := B.trans (B.rel.called hr3 fr3)
    obtain ⟨δ4, h4, q4, D', n1, n2⟩ := D.unbox boxes u
    exact ⟨ev, fn _ _ _ _ _ _ q4 D' (.of (by simp only [Rep]))⟩
  · have D := B.trans (B.rel.called hr3 fr3)
    simp only [unbox] at u
    have D2 : Aft X.K Y σ δ h H Z δ2 (h3.del y) H3 Z3 := ⟨D.rel.drop y, ⟨D.fr.keep, fun a e nn no => ?_, D.fr.track, D.fr.zmono, D.fr.znew⟩, D.own⟩
    · obtain ⟨δ4, h4, q4, D', n1, n2⟩ := D2.unbox boxes u
      exact ⟨xx, δ4, h4, Z3, D'.rel, xr, q4⟩
    · by_cases z : a = y
      · rw [z]; exact SHp.del_same
      · rw [SHp.del_ne z]
        exact D.fr.untr a e nn no
end
end SL
/-! O3: a field is set. -/
namespace SL
open PySem PySem.Spec PyProof.Rows L2
section
variable {X : Cx} {Y : Ey} {G : Gm} {e a : Expr} {s sa : SE} {pos p' : Pos} {C f : Str}
theorem s_aset (c : Cls X.K (He.ga X.K C)) (n : NoAttr X.K (He.ga X.K C) f) (ho : PE X a (tE X.K Y G sa)) (he : PE X e (tE X.K Y G s)) (hs : swapsWith e (some (.Attribute a f p')) pos.line X.env = pure false) : PS X (.Assign [.Attribute a f p'] e pos) (tS X.K Y G (.aset C sa f s)) := by
  refine PS.imp (ps_fld ho he hs) fun D σ H ⟨δ, h, Z, R, rel, w, fn⟩ => ?_
  simp only [wpS] at w
  refine ⟨δ, h, Z, _, rel, w, fun r δ1 h1 v H1 Z1 w1 A rr => ?_⟩
  obtain ⟨r', δ2, Z2, w2, A2, pv⟩ := A.stow rr w1
  refine ⟨δ2, h1, Z2, _, A2.rel, w2, fun r2 δ3 h3 v2 H3 Z3 ⟨p, fs, er, hp, hl, q⟩ A3 rr2 => ?_⟩
  subst er
  obtain rfl := ref_of rr2
  have B := A2.trans A3
  obtain ⟨dx, us, e1, e2, e3⟩ := B.rel.hr.cell p _ hp
  have hlen : us.length = fs.length := by
    have := congrArg List.length e2
    simpa using this
  refine ⟨p, _, dx, us, rfl, e1, c, n, by omega, ?_⟩
  obtain ⟨q1, q2⟩ := put_reps (f := f) (pv.keeps (A3.keeps A2.rel)) e2 e3
  have nz : ¬ Z3 p := fun z => by rw [B.rel.hr.frz p z] at hp; cases hp
  have kp : Keeps Z3 H3 Z3 (upd H3 p (.ins (He.ga X.K C) dx (putF f v us))) := keeps_write nz (fun xs z => by rw [e1] at z; cases z) (fun b u z => by rw [e1] at z; cases z)
  have W := B.writeCell (o := .ins (He.ga X.K C) dx (putF f v us)) hp (c' := .ins C (putS f r' fs)) ⟨dx, _, upd_same, q1, q2.keeps kp⟩
  exact fn.nx _ _ _ _ _ q W.rel (W.keeps rel)
end
end SL
/-! O5: list({x: True for x in e}), x nested tuples: each once, in order. -/
namespace SL
open PySem PySem.Spec PyProof.Rows L2
section
variable {X : Cx} {pins : List (Addr × Obj)} {σ : L2.St} {H : Hp} {s : Shared} {Z : ZS}
mutual
theorem nested_of (I : Inv X pins σ H s) : ∀ {d : SV} {v : V} {u : Value} {k : NestedKey}, Rep X.K Z H d v → nk d = some k → RelV v u → NestedIs s.heap k u
  | .non, _, _, _, r, e, q => by
    simp only [Rep] at r; simp only [nk] at e
    subst r; cases e; cases q
    exact .none
  | .int i, _, _, _, r, e, q => by
    simp only [Rep] at r; simp only [nk] at e
    subst r; cases e
    obtain ⟨t, rfl⟩ := q
    exact .int i t
  | .str z, _, _, _, r, e, q => by
    simp only [Rep] at r; simp only [nk] at e
    subst r; cases e
    obtain ⟨t, rfl⟩ := q
    exact .text z t
  | .tup xs, _, _, _, r, e, q => by
    obtain ⟨a, vs, ev, sq, rs⟩ := (by simpa only [Rep] using r : ∃ a vs, _ ∧ _ ∧ _)
    simp only [nk] at e
    cases ek : nks xs with
    | none => rw [ek] at e; cases e
    | some ks =>
      rw [ek] at e
      cases e
      subst ev
      cases q
      obtain ⟨its, rv, ⟨o, ho, hc, n, hd⟩, _⟩ := I.tuple sq
      exact .tup ho hc hd (by simpa using nesteds_of I rs ek rv)
  | .bl _, _, _, _, _, e, _ => by simp only [nk] at e; cases e
  | .frz _, _, _, _, _, e, _ => by simp only [nk] at e; cases e
  | .own _, _, _, _, _, e, _ => by simp only [nk] at e; cases e
  | .ownD _, _, _, _, _, e, _ => by simp only [nk] at e; cases e
  | .ref _, _, _, _, _, e, _ => by simp only [nk] at e; cases e
  | .loc _, _, _, _, _, e, _ => by simp only [nk] at e; cases e
  | .ty _, _, _, _, _, e, _ => by simp only [nk] at e; cases e
  | .lkd _, _, _, _, _, e, _ => by simp only [nk] at e; cases e
theorem nesteds_of (I : Inv X pins σ H s) : ∀ {ds : List SV} {vs : List V} {us : List Value} {ks : List NestedKey}, Reps X.K Z H ds vs → nks ds = some ks → Vals vs us → NestedAll s.heap ks us
  | [], _, _, _, r, e, q => by
    cases r.nil_inv
    simp only [nks] at e
    cases e; cases q
    exact .nil
  | d :: ds, _, _, _, r, e, q => by
    obtain ⟨v, vr, ev, r1, r2⟩ := r.cons_inv
    subst ev
    simp only [nks] at e
    cases e1 : nk d with
    | none => rw [e1] at e; cases e
    | some k =>
      cases e2 : nks ds with
      | none => rw [e1, e2] at e; cases e
      | some ks =>
        rw [e1, e2] at e
        cases e
        cases q with
        | cons q1 q2 => exact .cons (nested_of I r1 e1 q1) (nesteds_of I r2 e2 q2)
end
end
/-- the dict that is being made -/
def dN (P : Program) (w : World) (D : Addr) (xs : List (NestedKey × Addr × Value)) : HO := .ext fun h => (D == sysModules) = false ∧ ∃ o es ep, h.get? D = some o ∧ o.ExactDict ∧ o.data = .dict es ep ∧ es.toList = xs.map (entryOfKey (nestedKind P w)) ∧ (xs.map (·.1)).Nodup
theorem dN_ok {P : Program} {w : World} {H : Hp} {h : Heap} {D : Addr} {xs : List (NestedKey × Addr × Value)} (hs : (D == sysModules) = false) (hm : h.DictOfH (nestedKind P w) D xs) : ObjOk P w H h D (dN P w D xs) := by
  obtain ⟨o, es, ep, ho, hx, hd, he, _, hn⟩ := hm
  exact ⟨⟨hs, o, es, ep, ho, hx, hd, he, hn⟩, ⟨o, ho⟩, fun h1 h2 ⟨z, o', es', ep', a, r⟩ k => ⟨z, o', es', ep', k _ a, r⟩⟩
section
variable {X : Cx} {pins : List (Addr × Obj)} {σ : L2.St} {H : Hp} {s : Shared} {D a : Addr} {xs : List (NestedKey × Addr × Value)} {k : NestedKey}
theorem dN_at (I : Inv X pins σ H s) (hD : H D = some (dN X.prog X.w D xs)) (hk : ∀ x ∈ xs, NestedIs s.heap x.1 (.ref x.2.1) ∧ x.1.depth ≤ 8) : (D == sysModules) = false ∧ s.heap.DictOfH (nestedKind X.prog X.w) D xs := by
  obtain ⟨⟨hs, o, es, ep, ho, hx, hd, he, hn⟩, _⟩ := (show ObjOk X.prog X.w H s.heap D (.ext _) from I.hok D _ hD)
  exact ⟨hs, o, es, ep, ho, hx, hd, he, hk, hn⟩
theorem dN_set {E : Value → Shared → Prop} {r : Value} {Q : Unit → Shared → Prop} (I : Inv X pins σ H s) (hu : X.A.units + 8 < cLine) (hD : H D = some (dN X.prog X.w D xs)) (hk : ∀ x ∈ xs, NestedIs s.heap x.1 (.ref x.2.1) ∧ x.1.depth ≤ 8)
    (ka : NestedIs s.heap k (.ref a) ∧ k.depth ≤ 8) (hz : xs.length ≤ sizeLine) (h : ∀ s', Inv X pins σ (upd H D (dN X.prog X.w D (storedH xs k a r))) s' → Q () s') : wpAny (model X.prog X.w) X.A (dictSet D (.ref a) r) Q E s := by
  obtain ⟨hs, hm⟩ := dN_at I hD hk
  refine wpAny_dictSet_heap (knd := nestedKind X.prog X.w) (hsz := hz) hu ka hm fun h' hm' sb => h _ ?_
  obtain ⟨o, _, _, ho, _⟩ := id hm'
  exact I.write (x := D) (e := D) (o := dN X.prog X.w D (storedH xs k a r)) (by rw [hD]; exact True.intro) (.inl rfl) (fun c u z q => (sb.2 c z).trans q) ⟨o, ho⟩ (dN_ok hs hm')
end
end SL
/-! O6: list({x: True for x in e}): the dict, its keys. -/
namespace SL
open PySem PySem.Spec PyProof.Rows L2
/-- the keys found so far, each with the tuple's place -/
abbrev Kl := List (NestedKey × Addr)
def tru (xs : Kl) : List (NestedKey × Addr × Value) := xs.map fun x => (x.1, x.2, Value.bool true)
def onceK (xs : Kl) (k : NestedKey) (a : Addr) : Kl := if k ∈ xs.map (·.1) then xs else xs ++ [(k, a)]
def KeysOk (K : PySem.W.Frag) (H : Hp) (xs : Kl) : Prop := ∀ x ∈ xs, x.1.depth ≤ 8 ∧ ∃ Z d, Rep K Z H d (.ref x.2) ∧ nk d = some x.1
theorem tru_stored {xs : Kl} {k : NestedKey} {a : Addr} : storedH (tru xs) k a (.bool true) = tru (onceK xs k a) := by
  have q : (atKey (tru xs) k).isSome = decide (k ∈ xs.map (·.1)) := by
    unfold atKey tru
    rw [Option.isSome_map, List.find?_map]
    simp only [Option.isSome_map]
    rw [Bool.eq_iff_iff]
    simp [List.find?_isSome]
  unfold storedH onceK
  by_cases h : k ∈ xs.map (·.1)
  · rw [if_pos (by rw [q]; exact decide_eq_true h), if_pos h]
    unfold tru
    rw [List.map_map]
    refine List.map_congr_left fun x _ => ?_
    show putAt k (.bool true) (x.1, x.2, .bool true) = _
    unfold putAt
    split <;> rfl
  · rw [if_neg (by rw [q]; simpa using h), if_neg h]
    unfold tru
    simp
section
variable {X : Cx} {pins : List (Addr × Obj)} {σ : L2.St} {H : Hp} {s : Shared}
theorem KeysOk.is {xs : Kl} (q : KeysOk X.K H xs) (I : Inv X pins σ H s) : ∀ x ∈ tru xs, NestedIs s.heap x.1 (.ref x.2.1) ∧ x.1.depth ≤ 8 := by
  intro x hx
  unfold tru at hx
  obtain ⟨y, hy, rfl⟩ := List.mem_map.mp hx
  obtain ⟨d8, Z, d, r, e⟩ := q y hy
  exact ⟨nested_of I r e rfl, d8⟩
end
theorem dN_empty {P : Program} {w : World} {H : Hp} (h : Heap) (hb : sysModules < h.objs.size) : ObjOk P w H (h.push { cls := .type "dict", data := .dict #[] }) h.objs.size (dN P w h.objs.size (tru [])) := by
  refine ⟨⟨beq_eq_false_iff_ne.mpr fun z => Nat.ne_of_lt hb z.symm, _, #[], 0, Heap.get?_push_size _ rfl, ⟨rfl, rfl, rfl⟩, rfl, rfl, List.nodup_nil⟩, ⟨_, Heap.get?_push_size _ rfl⟩, fun h1 h2 ⟨z, o', es', ep', a, r⟩ k => ⟨z, o', es', ep', k _ a, r⟩⟩
/-- {x: True for x in e}: D the new dict -/
def tDn (P : Program) (w : World) (K : PySem.W.Frag) (wi : TI) (g : TG) (tk : TE) (vs : List Nat) : TE := fun σ H Q => wi σ H fun J H1 => ∀ D, H1 D = none → ∃ W : Nat → Nat → Hp → Prop, (∃ m, W 0 m (upd H1 D (dN P w D (tru [])))) ∧ ∀ i m H, W i m H →
  (J.stop i H ∧ Q (.ref D) H) ∨ (J.go i H ∧ ∃ Nx : Hp → Prop, (∀ H', Nx H' → ∃ m', m' < m ∧ W (i + 1) m' H') ∧ ∀ x H', J.yld i H x H' → g x (L2.wipe σ vs) H' fun σ2 H2 => L2.wipe σ2 vs = L2.wipe σ vs ∧
    tk σ2 H2 fun y H4 => ∃ xs k a, y = .ref a ∧ H4 D = some (dN P w D (tru xs)) ∧ KeysOk K H4 ((k, a) :: xs) ∧ xs.length ≤ sizeLine ∧ Nx (upd H4 D (dN P w D (tru (onceK xs k a)))))
section
variable {X : Cx}
theorem pe_dn {kx tg iter : Expr} {j : Nat} {tp : Pos} {scope : Scope} {own : List (Str × Nat)} {pos : Pos} {wi : TI} {g : TG} {tk : TE} (hu : X.A.units + 8 < cLine) (hc : X.calm = true) (hN : X.N.Nodup) (hi : PI X tg iter wi) (ok : BlkOk X.N X.env.scope scope own)
    (hg : ∀ (s : Shared) (H : Hp) (C : Addr) (cl : List (Str × Addr)) (fp : List Addr), PG (X.blk s H scope (compEnvC scope cl C X.env) fp) tg g)
    (hk : ∀ (s : Shared) (H : Hp) (C : Addr) (cl : List (Str × Addr)) (fp : List Addr), PE (X.blk s H scope (compEnvC scope cl C X.env) fp) kx tk) (hs : ∀ x, foldedSetIterable iter X.env x = pure x) :
    PE X (.DictComp kx (.Constant (.bool true) j tp) [⟨tg, iter, [], 0⟩] scope pos) (tDn X.prog X.w X.K wi g tk (own.map (·.2))) := by
  constructor
  intro pins s0 σ H Q I hw
  rw [arm_eval_DictComp]
  have clo : ∀ y ∈ scope.names, y.2 = .free → ∃ c, X.env.cells.lookup y.1 = some c := fun y hy e => by
    rcases ok.free y hy e with k | k
    · exact I.ok.has _ (Or.inl k)
    · exact I.ok.has _ (Or.inr k)
  refine wpAny_comprehension_free (use := none) rfl hs (closure_ok clo) ok.kind (fun y hy e => by rw [ok.uniq y hy, e]) ?_
  refine thn (hi.run pins s0 σ H _ I hw) fun xv s1 hx => ?_
  refine thn hx fun itv s2 ⟨it, fp, tn, J, H2, e, I2, T, st2, f2, q⟩ => ?_
  subst e
  refine wpAny_newObj_type (newEnv_comp ?_)
  generalize hD : s2.heap.objs.size = D
  have hDn : H2 D = none := I2.hok.fresh (Nat.le_of_eq hD)
  obtain ⟨W, ⟨m0, w0⟩, turn⟩ := q D hDn
  generalize hs3 : ({ s2 with heap := s2.heap.push { cls := .type "dict", data := .dict #[] } } : Shared) = s3
  have I3 : Inv X pins σ (upd H2 D (dN X.prog X.w D (tru []))) s3 := by
    subst hs3
    refine I2.laid (t' := s2.toks) (fun b o e => Heap.get?_push_of_some _ e) (Nat.le_of_eq hD) ?_
    subst hD
    exact dN_empty s2.heap I2.big
  have h3 : s3.heap = s2.heap.push { cls := .type "dict", data := .dict #[] } := by rw [← hs3]
  have f3 : ∀ b ∈ fp, FpOk X pins (upd H2 D (dN X.prog X.w D (tru []))) b ∧ b < s3.heap.objs.size := fun b hb => by
    obtain ⟨o, eo, _⟩ := T.obj _ _ st2 b hb
    have hlt := Heap.lt_size eo
    refine ⟨⟨?_, (f2 b hb).2⟩, by rw [h3, Heap.size_push]; exact Nat.lt_succ_of_lt hlt⟩
    rw [upd_ne (by subst hD; exact Nat.ne_of_lt hlt)]
    exact (f2 b hb).1
  have st3 : tn 0 s3.heap := T.keep _ _ _ st2 fun b _ o e => by rw [h3]; exact Heap.get?_push_of_some _ e
  have I4 := block_start I3 ok hN f3
  have pg := hg s3 (upd H2 D (dN X.prog X.w D (tru []))) s3.heap.objs.size (cellsFrom (s3.heap.objs.size + 1) scope.names (cloFrom X.env.cells scope.names [])) fp
  have pk := hk s3 (upd H2 D (dN X.prog X.w D (tru []))) s3.heap.objs.size (cellsFrom (s3.heap.objs.size + 1) scope.names (cloFrom X.env.cells scope.names [])) fp
  show codeAny _ _ (.compStart (.DictComp kx (.Constant (.bool true) j tp) [⟨tg, iter, [], 0⟩] scope pos) 0 (.ref it) (.ref D) (compEnvC scope (cellsFrom (s3.heap.objs.size + 1) scope.names (cloFrom X.env.cells scope.names [])) s3.heap.objs.size X.env)) (compPost (model X.prog X.w) X.A X.xe none (EP X pins σ Q) (.ref D) s3.heap.objs.size) { s3 with heap := pushCells (s3.heap.push { cls := .type "dict", data := .dict #[] }) scope.names }
  have nfp : ∀ b ∈ fp, (upd H2 D (dN X.prog X.w D (tru []))) b = none := fun b hb => (f3 b hb).1.1
  generalize hce : compEnvC scope (cellsFrom (s3.heap.objs.size + 1) scope.names (cloFrom X.env.cells scope.names [])) s3.heap.objs.size X.env = ce at I4 pg pk ⊢
  have cL : ce.locals = s3.heap.objs.size := by subst hce; rfl
  generalize hH3 : upd H2 D (dN X.prog X.w D (tru [])) = H3 at I3 I4 pg pk w0 nfp f3
  generalize hs4 : ({ s3 with heap := pushCells (s3.heap.push { cls := .type "dict", data := .dict #[] }) scope.names } : Shared) = s4 at I4 ⊢
  have st4 : tn 0 s4.heap := T.keep _ _ _ st3 fun b _ o e => by subst hs4; exact pushCells_keeps _ _ _ _ (Heap.get?_push_of_some _ e)
  have stat : ∀ {σ' : L2.St} {H' : Hp} {s' : Shared}, Inv (X.blk s3 H3 scope ce fp) [] σ' H' s' → (∀ b ∈ fp, H' b = none) → ∀ b ∈ fp, FpOk (X.blk s3 H3 scope ce fp) [] H' b := fun {σ' H' s'} I' hn b hb =>
    ⟨hn b hb, (I'.ok.exf b hb).1, I'.ok.exfs b hb, .inl hb, fun x c e => (I'.ok.exf b hb).2 x c e, fun p hp => absurd (show p ∈ ([] : List (Addr × Obj)) ++ [] from hp) (by simp)⟩
  have loop : codeAny (model X.prog X.w) X.A (.compLoop (.DictComp kx (.Constant (.bool true) j tp) [⟨tg, iter, [], 0⟩] scope pos) 0 (.ref it) (.ref D) ce) (compPost (model X.prog X.w) X.A X.xe none (EP X pins σ Q) (.ref D) s3.heap.objs.size) s4 := by
    refine compLoop_anyD (fun n s' => ∃ i H', Inv (X.blk s3 H3 scope ce fp) [] (L2.wipe σ (own.map (·.2))) H' s' ∧ tn i s'.heap ∧ (∀ b ∈ fp, H' b = none) ∧ W i n H') ?_ m0 ⟨0, H3, I4, st4, nfp, w0⟩
    rintro n s5 ⟨i, H5, I5, st5, n5, w5⟩
    rcases turn i n H5 w5 with ⟨stop, qq⟩ | ⟨go, Nx, hNx, step⟩
    · refine thnF (T.done (X.blk s3 H3 scope ce fp) rfl rfl rfl hc i [] s5 _ H5 (fun _ _ => False) I5 (stat I5 n5) st5 stop) fun r s6 ⟨hr, I6⟩ => ?_
      subst hr
      have I7 : Inv X pins σ H5 s6 := I3.call' (ch := fp) I6.os I6.base I6.hok I6.bare fun b hb => ⟨(f3 b hb).1.2.2.2.1, (f3 b hb).1.2.1, (f3 b hb).1.2.2.2.2.1, (f3 b hb).1.2.2.2.2.2⟩
      have nC : H5 s3.heap.objs.size = none := by
        have z : H5 ce.locals = none := I6.free
        rwa [cL] at z
      obtain ⟨m, hn, _⟩ := I6.loc
      have hn : s6.heap.Ns ce.locals m := hn
      rw [cL] at hn
      obtain ⟨g0, g1, g2, g3, g4, g5⟩ := I3.fpOk (Nat.le_refl _) nC
      exact ⟨m, hn, fun h'' sb => ⟨.ref D, H5, I7.turned (t' := s6.toks) (fun b o hb e => (sb.2 b hb).trans e) g0 g1 g3 g4 g5, rfl, qq⟩⟩
    · refine thnF (T.item (X.blk s3 H3 scope ce fp) rfl rfl rfl hc i [] s5 _ H5 (fun _ _ => False) I5 (stat I5 n5) st5 go) fun r s6 ⟨u, hr, h6⟩ => ?_
      subst hr
      refine thnF h6 fun _ s7 ⟨x, H7, I7, r7, y7, st7, n7⟩ => ?_
      have J7 := I7.pinned (stat I7 n7) (T.obj _ _ st7)
      refine thnF (pg.run _ s7 _ H7 x u _ J7 r7 (step x H7 y7)) fun _ s8 ⟨σ8, H8, I8, hw8, q8⟩ => ?_
      refine wpAny_tests_nil ?_
      simp only [if_true]
      refine thnF (pk.run _ s8 σ8 H8 _ I8 q8) fun z s10 ⟨yk, H10, I10, r10, xs, k, a, ey, hD10, ko, hz, nx⟩ => ?_
      refine Constant_bool ?_
      subst ey
      have ez : z = Value.ref a := r10
      subst ez
      refine dN_set (X := X.blk s3 H3 scope ce fp) (k := k) I10 hu hD10 (KeysOk.is (X := X.blk s3 H3 scope ce fp) (fun x hx => ko x (List.mem_cons_of_mem _ hx)) I10) ?_ ?_ fun s12 I12 => ?_
      · obtain ⟨d8, Z, d, rr, e⟩ := ko (k, a) (List.mem_cons_self ..)
        exact ⟨nested_of (X := X.blk s3 H3 scope ce fp) I10 rr e rfl, d8⟩
      · unfold tru; rw [List.length_map]; exact hz
      · rw [tru_stored] at I12
        obtain ⟨m', hm, w'⟩ := hNx _ nx
        have pin' : ∀ b ∈ fp, ∀ o, s7.heap.get? b = some o → s12.heap.get? b = some o ∧ (upd H10 D (dN X.prog X.w D (tru (onceK xs k a)))) b = none := fun b hb o e =>
          let z := I12.pin (b, o) (List.mem_append_right _ (List.mem_append_right _ (mem_pinsAt hb e)))
          ⟨z.1, z.2.1⟩
        have hl : (L2.wipe σ (own.map (·.2))).length = σ8.length := by rw [← hw8, wipe_length]
        refine ⟨m', hm, i + 1, _, (I12.unpinned (pins := [])).weak hl (fun l v e => ?_), T.keep _ _ _ st7 fun b hb o e => (pin' b hb o e).1, fun b hb => ?_, w'⟩
        · rw [← hw8] at e
          exact (wipe_some e).1
        · obtain ⟨o, e, _⟩ := T.obj _ _ st7 b hb
          exact (pin' b hb o e).2
  exact codeAny_compStart_dict loop (T.self X.A 0 _ _ _ st4 loop)
end
section
variable {X : Cx}
/-- list of such a dict -/
theorem call_list_dN (hc : X.calm = true) : CallR X (.type "list") (fun vs H Q => ∃ d xs, vs = [V.ref d] ∧ H d = some (dN X.prog X.w d (tru xs)) ∧ xs.length ≤ sizeLine ∧ ∀ p, H p = none → Q (.ref p) (upd H p (.lst (xs.map fun x => V.ref x.2)))) := by
  intro pins s σ H vs us Q I r h
  obtain ⟨d, xs, rfl, hd, hz, q⟩ := h
  obtain ⟨u, rfl, rx⟩ := r.one
  cases rx
  obtain ⟨⟨hs, o, es, ep, ho, hx, hdt, he, hn⟩, _⟩ := (show ObjOk X.prog X.w H s.heap d (.ext _) from I.hok d _ hd)
  have l1 : es.size = xs.length := by rw [← Array.length_toList, he]; unfold tru; simp
  refine PySem.W.kdl_call (kdl_raw hs hx hdt) (I.ok.hd hc) ho (by omega) fun h' tk acc' c' kp e it => ?_
  have ea : acc'.toList = (xs.map (·.2)).map Value.ref := by
    apply List.ext_getElem?
    intro j
    have hl : acc'.toList.length = xs.length := by rw [Array.length_toList, it.1]; exact l1
    cases hj : acc'.toList[j]? with
    | none =>
      have h1 := List.getElem?_eq_none_iff.mp hj
      rw [List.getElem?_eq_none (by simp; omega)]
    | some v =>
      obtain ⟨en, hen, hv⟩ := it.2 j v (by rw [← Array.getElem?_toList]; exact hj)
      have qe : es.toList[j]? = some en := by rw [Array.getElem?_toList]; exact hen
      rw [he] at qe
      unfold tru at qe
      rw [List.map_map, List.getElem?_map] at qe
      obtain ⟨b, hb, eb⟩ := Option.map_eq_some_iff.mp qe
      rw [List.map_map, List.getElem?_map, hb, hv, ← eb]
      rfl
  have rv : Vals (xs.map fun x => V.ref x.2) acc'.toList := by
    rw [ea]
    have e2 : (xs.map fun x => V.ref x.2) = (xs.map (·.2)).map V.ref := by rw [List.map_map]; rfl
    rw [e2]
    exact vals_refs _
  refine ⟨.ref s.heap.objs.size, _, I.laid (t' := tk) (o := .lst (xs.map fun x => V.ref x.2)) kp (Nat.le_refl _) ?_, rfl, q _ (I.hok.fresh (Nat.le_refl _))⟩
  exact ⟨by rw [List.length_map]; exact hz, acc'.toList, c', rv, by rw [Array.toArray_toList]; exact e⟩
end
section
variable {K : PySem.W.Frag} {H : Hp} {D a : Addr} {o : HO} {xs : List V}
theorem sqL_upd (n : H D = none) (s : SqL K H a xs) : SqL K (upd H D o) a xs := by
  rcases s with (h | ⟨q, h⟩) | h
  · exact .inl (.inl (by rw [upd_ne (ne_of_none h n)]; exact h))
  · exact .inl (.inr ⟨q, by rw [upd_ne (ne_of_none h n)]; exact h⟩)
  · exact .inr h
theorem sqT_upd (n : H D = none) (s : SqT K H a xs) : SqT K (upd H D o) a xs := by
  rcases s with (h | ⟨q, h⟩) | h
  · exact .inl (.inl (by rw [upd_ne (ne_of_none h n)]; exact h))
  · exact .inl (.inr ⟨q, by rw [upd_ne (ne_of_none h n)]; exact h⟩)
  · exact .inr h
end
theorem onceL_step {seen : List NestedKey} {d : SV} {k : NestedKey} {r : List SV} (e : nk d = some k) : onceL seen (d :: r) = if k ∈ seen then onceL seen r else d :: onceL (seen ++ [k]) r := by
  simp only [onceL, e]
theorem dn_loop {P : Program} {w : World} {K : PySem.W.Frag} {J : It} {us : List V} {ds : List SV} {Z : ZS} {H1 : Hp} {D : Addr} {σ : L2.St} {vs : List Nat} {i0 : Nat} {Qd : Hp → Prop} (nD : H1 D = none)
    (go : ∀ (o : HO) i, i < us.length → J.go i (upd H1 D o)) (yl : ∀ (o : HO) i x H', J.yld i (upd H1 D o) x H' → H' = upd H1 D o ∧ us[i]? = some x) (st : ∀ (o : HO), J.stop us.length (upd H1 D o))
    (rs : Reps K Z H1 ds us) (ok : ∀ y ∈ ds, onceOk y = true) (hz : ds.length ≤ sizeLine) (hi : i0 ∈ vs) (hl : i0 < σ.length)
    (fin : ∀ xs : Kl, xs.length ≤ sizeLine → Reps K Z H1 (onceL [] ds) (xs.map fun x => V.ref x.2) → Qd (upd H1 D (dN P w D (tru xs)))) :
    ∃ W : Nat → Nat → Hp → Prop, (∃ m, W 0 m (upd H1 D (dN P w D (tru [])))) ∧ ∀ i m H, W i m H →
      (J.stop i H ∧ Qd H) ∨ (J.go i H ∧ ∃ Nx : Hp → Prop, (∀ H', Nx H' → ∃ m', m' < m ∧ W (i + 1) m' H') ∧ ∀ x H', J.yld i H x H' → gName i0 x (L2.wipe σ vs) H' fun σ2 H2 => L2.wipe σ2 vs = L2.wipe σ vs ∧
        tVar i0 σ2 H2 fun y H4 => ∃ xs k a, y = .ref a ∧ H4 D = some (dN P w D (tru xs)) ∧ KeysOk K H4 ((k, a) :: xs) ∧ xs.length ≤ sizeLine ∧ Nx (upd H4 D (dN P w D (tru (onceK xs k a))))) := by
  have lu : us.length = ds.length := rs.length
  refine ⟨fun i m H => m = us.length - i ∧ i ≤ us.length ∧ ∃ (xs : Kl) (acc : List SV), H = upd H1 D (dN P w D (tru xs)) ∧ KeysOk K H1 xs ∧ xs.length ≤ i ∧ Reps K Z H1 acc (xs.map fun x => V.ref x.2) ∧ acc ++ onceL (xs.map (·.1)) (ds.drop i) = onceL [] ds,
    ⟨us.length, by simp, Nat.zero_le _, [], [], rfl, fun x hx => absurd hx (by simp), Nat.zero_le _, .nil, by simp⟩, ?_⟩
  rintro i m H ⟨rfl, hi', xs, acc, rfl, ko, hx, ra, ea⟩
  by_cases hlt : i < us.length
  · refine .inr ⟨go _ i hlt, fun H' => ∃ (xs : Kl) (acc : List SV), H' = upd H1 D (dN P w D (tru xs)) ∧ KeysOk K H1 xs ∧ xs.length ≤ i + 1 ∧ Reps K Z H1 acc (xs.map fun x => V.ref x.2) ∧ acc ++ onceL (xs.map (·.1)) (ds.drop (i + 1)) = onceL [] ds,
      fun H' q => ⟨us.length - (i + 1), by omega, rfl, hlt, q⟩, fun x H' y => ?_⟩
    obtain ⟨rfl, ex⟩ := yl _ i x H' y
    have hd : i < ds.length := by omega
    have ed : ds[i]? = some ds[i] := List.getElem?_eq_getElem hd
    obtain ⟨v, hv, rv⟩ := rs.get ed
    rw [hv] at ex
    cases ex
    rw [List.drop_eq_getElem_cons hd] at ea
    have od := ok ds[i] (List.getElem_mem hd)
    generalize ds[i] = d at *
    show L2.wipe ((L2.wipe σ vs).set i0 (some x)) vs = L2.wipe σ vs ∧ _
    refine ⟨out_wipe (is := [i0]) (fun j hj => by rw [List.mem_singleton] at hj; rw [hj]; exact hi) ⟨List.length_set, fun j hj => List.getElem?_set_ne fun z => hj (by rw [z]; simp)⟩, x, ?_, ?_⟩
    · rw [List.getElem?_set_self (by rw [wipe_length]; exact hl)]
    · unfold onceOk at od
      split at od
      · rename_i zs
        split at od
        · rename_i k ek
          obtain ⟨a, vs', ev, sq, rz⟩ := (by simpa only [Rep] using rv : ∃ a vs, _ ∧ _ ∧ _)
          subst ev
          have kd := of_decide_eq_true od
          refine ⟨xs, k, a, rfl, upd_same, fun q hq => ?_, by omega, ?_⟩
          · rcases List.mem_cons.mp hq with rfl | hq
            · exact ⟨kd, Z, .tup zs, rv.keeps (keeps_upd nD), ek⟩
            · obtain ⟨q1, Z', d', q2, q3⟩ := ko q hq
              exact ⟨q1, Z', d', q2.keeps (keeps_upd nD), q3⟩
          · rw [upd_upd]
            rw [onceL_step ek] at ea
            unfold onceK
            by_cases hk : k ∈ xs.map (·.1)
            · rw [if_pos hk] at ea ⊢
              exact ⟨xs, acc, rfl, ko, by omega, ra, ea⟩
            · rw [if_neg hk] at ea ⊢
              refine ⟨xs ++ [(k, a)], acc ++ [.tup zs], rfl, fun q hq => ?_, by simp; omega, ?_, ?_⟩
              · rcases List.mem_append.mp hq with hq | hq
                · exact ko q hq
                · rw [List.mem_singleton] at hq
                  subst hq
                  exact ⟨kd, Z, .tup zs, rv, ek⟩
              · rw [List.map_append]
                exact ra.append (.cons rv .nil)
              · rw [← ea, List.map_append, List.append_assoc]
                rfl
        · cases od
      · cases od
  · have e : i = us.length := by omega
    subst e
    refine .inl ⟨st _, fin xs (by omega) ?_⟩
    rw [List.drop_eq_nil_of_le (by omega)] at ea
    simp only [onceL, List.append_nil] at ea
    rw [← ea]
    exact ra
section
variable {X : Cx} {Y : Ey} {G : Gm} {sa : SE}
theorem se_once {x z : Str} {px pz p p2 pos tp : Pos} {j : Nat} {iter : Expr} {scope : Scope} {own : List (Str × Nat)} {i : Nat} (hu : X.A.units + 65 < cLine) (hc : X.calm = true) (hN : X.N.Nodup) (hg : Gl X "list") (hm : X.mg "list" = none) (ha : PE X iter (tE X.K Y G sa)) (ok : BlkOk X.N X.env.scope scope own) (hi : i ∈ own.map (·.2))
    (hgn : ∀ (s : Shared) (H : Hp) (C : Addr) (cl : List (Str × Addr)) (fp : List Addr), PG (X.blk s H scope (compEnvC scope cl C X.env) fp) (.Name x px) (gName i)) (hk : ∀ (s : Shared) (H : Hp) (C : Addr) (cl : List (Str × Addr)) (fp : List Addr), PE (X.blk s H scope (compEnvC scope cl C X.env) fp) (.Name z pz) (tVar i))
    (hs : ∀ x, foldedSetIterable iter X.env x = pure x) : PE X (.Call (.Name "list" p) [.DictComp (.Name z pz) (.Constant (.bool true) j tp) [⟨.Name x px, iter, [], 0⟩] scope pos] [] p2) (tE X.K Y G (.once own i sa)) := by
  refine PE.imp (pe_callTy (call_list_dN hc) hg hm (by decide +kernel) (pa_cons (pe_dn (by omega) hc hN (pi_seq ha) ok hgn hk hs) pa_nil)) fun σ H Q ⟨δ, h, Z, R, rel, w, f⟩ => ?_
  simp only [wpE] at w
  refine ⟨δ, h, Z, _, rel, w, fun r δ1 h1 v H1 Z1 q A rr => ?_⟩
  obtain ⟨y, δ2, Z2, ⟨k, xs, ev, ok8, hz, hl, q2⟩, A2, pr⟩ := A.stow rr q
  obtain ⟨ad, us, ex, rs, sq⟩ := vw_ok A2.rel.hr pr ev
  subst ex
  refine ⟨ad, rfl, ?_⟩
  have hl' : i < σ.length := by rw [← A2.rel.len]; exact hl
  have fin : ∀ (D : Addr) (nD : H1 D = none) (ks : Kl), ks.length ≤ sizeLine → Reps X.K Z2 H1 (onceL [] xs) (ks.map fun x => V.ref x.2) →
      (fun H2 => tNil σ H2 fun vs H3 => ∃ d ls, (V.ref D :: vs) = [V.ref d] ∧ H3 d = some (dN X.prog X.w d (tru ls)) ∧ ls.length ≤ sizeLine ∧ ∀ p, H3 p = none → Q (.ref p) (upd H3 p (.lst (ls.map fun x => V.ref x.2)))) (upd H1 D (dN X.prog X.w D (tru ks))) := fun D nD ks hks rk => by
    refine ⟨D, ks, rfl, upd_same, hks, fun l nl => ?_⟩
    have B := A2.trans (A2.rel.aft_new (o := dN X.prog X.w D (tru ks)) nD)
    obtain ⟨C, rc⟩ := B.own_new (rk.keeps (keeps_upd nD)) nl
    exact f _ _ _ _ _ _ q2 C rc
  rcases sq with ⟨_, sq⟩ | ⟨_, sq, _⟩
  · refine .inr ⟨us, sq, fun D nD => dn_loop nD (fun o i hi => ⟨us, us[i], sqT_upd nD sq, by simp [hi]⟩) (fun o i x H' ⟨e1, e2⟩ => ⟨e1, e2 us (sqT_upd nD sq)⟩) (fun o => ⟨us, sqT_upd nD sq, Nat.le_refl _⟩) rs ok8 hz hi hl' (fin D nD)⟩
  · refine .inl ⟨us, sq, fun D nD => dn_loop nD (fun o i hi => ⟨us, us[i], sqL_upd nD sq, by simp [hi]⟩) (fun o i x H' ⟨e1, e2⟩ => ⟨e1, e2 us (sqL_upd nD sq)⟩) (fun o => ⟨us, sqL_upd nD sq, Nat.le_refl _⟩) rs ok8 hz hi hl' (fin D nD)⟩
end
/-- a module's constant at its name -/
def GloOk (mg : Str → Option Value) (x : Str) : GC → Prop
  | .i n => ∃ t, mg x = some (.int n t)
  | .s z => ∃ t, mg x = some (.str z t)
theorem se_glob {X : Cx} {Y : Ey} {G : Gm} {x : Str} {v : GC} {pos : Pos} (hg : Gl X x) (hm : GloOk X.mg x v) (hd : (x == ("__debug__" : Str)) = false) : PE X (.Name x pos) (tE X.K Y G (.glob x v)) := by
  cases v with
  | i n =>
    obtain ⟨t, e⟩ := hm
    refine PE.imp (pe_glob (v := .int n) hg e ⟨t, rfl⟩ hd) fun σ H Q ⟨δ, h, Z, R, rel, w, f⟩ => ?_
    simp only [wpE, GC.sv] at w
    exact f _ _ _ _ _ _ w (.refl rel) (.of (by simp only [Rep]))
  | s z =>
    obtain ⟨t, e⟩ := hm
    refine PE.imp (pe_glob (v := .str z) hg e ⟨t, rfl⟩ hd) fun σ H Q ⟨δ, h, Z, R, rel, w, f⟩ => ?_
    simp only [wpE, GC.sv] at w
    exact f _ _ _ _ _ _ w (.refl rel) (.of (by simp only [Rep]))
end SL
/-! O7: list(range(n)), xs[::-1], {}. -/
namespace SL
open PySem PySem.Spec L2
section
variable {X : Cx} {Y : Ey} {G : Gm} {e a b c : Expr} {s sa sb sc : SE} {pos p1 p2 p3 : Pos}
theorem rangeS_reps {K : PySem.W.Frag} {Z : ZS} {H : Hp} : ∀ {n : Nat} {lo : Int}, Reps K Z H (rangeS lo n) ((List.range n).map fun i => V.int (lo + (i : Nat)))
  | 0, _ => .nil
  | n + 1, lo => by
    rw [List.range_succ_eq_map, List.map_cons, List.map_map]
    simp only [rangeS]
    have ih := rangeS_reps (K := K) (Z := Z) (H := H) (n := n) (lo := lo + 1)
    refine .cons (by simp [Rep]) ?_
    have e : ((fun i : Nat => V.int (lo + (i : Nat))) ∘ Nat.succ) = fun i : Nat => V.int (lo + 1 + (i : Nat)) := by
      funext i
      simp only [Function.comp, Nat.succ_eq_add_one]
      congr 1
      omega
    rw [e]
    exact ih
theorem se_lrng {p q : Pos} (hc : X.calm = true) (hg : Gl X "list") (hm : X.mg "list" = none) (hg2 : Gl X "range") (hm2 : X.mg "range" = none) (ha : PE X a (tE X.K Y G sa)) (hn : notStar a = true) : PE X (.Call (.Name "list" p) [.Call (.Name "range" q) [a] [] p1] [] pos) (tE X.K Y G (.lrng sa)) := by
  refine PE.imp (pe_listRg hc hg hm (prg_1 hg2 hm2 ha (star_cons hn))) fun σ H Q ⟨δ, h, Z, R, rel, w, f⟩ => ?_
  simp only [wpE] at w
  refine ⟨δ, h, Z, _, rel, w, fun r δ1 h1 v H1 Z1 ⟨n, er, hn, q⟩ A rr => ?_⟩
  subst er
  refine ⟨n, rr.int, RgOk.of_le (by omega) (by omega) (by omega) (by omega), fun l nl => ?_⟩
  have e : rgV 0 (n : Int) = (List.range n).map fun i => V.int (0 + (i : Nat)) := by
    unfold rgV
    rw [show ((n : Int) - 0).toNat = n by omega]
  rw [e]
  obtain ⟨B, q2⟩ := A.own_new (rangeS_reps (n := n) (lo := 0)) nl
  exact f _ _ _ _ _ _ q B q2
theorem Reps.reverse {K : PySem.W.Frag} {Z : ZS} {H : Hp} : ∀ {xs : List SV} {vs : List V}, Reps K Z H xs vs → Reps K Z H xs.reverse vs.reverse
  | [], _, r => by rw [r.nil_inv]; exact .nil
  | x :: xs, _, r => by
    obtain ⟨v, vr, e, h1, h2⟩ := r.cons_inv
    subst e
    rw [List.reverse_cons, List.reverse_cons]
    exact (Reps.reverse h2).append (.cons h1 .nil)
theorem se_rev {k : Nat} (ha : PE X a (tE X.K Y G sa)) : PE X (.Subscript a (.Slice none none (some (.UnaryOp .USub (.Constant (.int 1) k p1) p2)) p3) pos) (tE X.K Y G (.rev sa)) := by
  refine PE.imp (pe_revL ha) fun σ H Q ⟨δ, h, Z, R, rel, w, f⟩ => ?_
  simp only [wpE] at w
  refine ⟨δ, h, Z, _, rel, w, fun r δ1 h1 v H1 Z1 ⟨xs, ev, q⟩ A rr => ?_⟩
  obtain ⟨Z1', A1, pr⟩ := A.opd rr
  obtain ⟨ad, us, ex, rs, z⟩ := view_ok A1.rel pr ev
  subst ex
  rcases z with ⟨z, _⟩ | ⟨_, z, _⟩
  · cases z
  · refine ⟨ad, us, rfl, z, fun l nl => ?_⟩
    obtain ⟨B, q2⟩ := A1.own_new rs.reverse nl
    exact f _ _ _ _ _ _ q B q2
theorem se_dnew : PE X (.Dict [] [] pos) (tE X.K Y G .dnew) := by
  refine PE.imp pe_dnewK fun σ H Q ⟨δ, h, Z, R, rel, w, f⟩ => fun l nl => ?_
  simp only [wpE] at w
  have B := rel.aft_new (o := .dK []) nl
  exact f _ _ _ _ _ _ w B (.inl ⟨rfl, l, rfl, ⟨[], upd_same, rfl, .nil⟩, rel.hr.un nl, fun z => rel.hr.zin l z nl, (rel.fresh nl).1, (rel.fresh nl).2, nl⟩)
end
end SL
/-! S15: does a text stand for an expression, a statement of the program? -/
namespace SL
open PySem PySem.Spec L2

/-- the defs by their counts of parameters; the patterns of calls: a name of its own, the def's, how many are written by place, the keywords -/
structure Dfs where
  d : List (Str × Nat)
  p : List (Str × Str × Nat × List Str) := []
  x : List (Str × Option (Option Str)) := []
  of : List (Str × Str) := []
  om : List (Str × Str × Str × Nat × List Str) := []
  ok : List (Str × Str × Nat × List Str) := []
  g : List (Str × GC) := []
structure MC where
  N : List Str
  sc : Scope
  defs : Dfs
  own : Option Scope
def MC.gl (c : MC) (x : Str) : Bool := c.sc.names.lookup x == some .globalImplicit && !(x == ("__debug__" : Str))
def MC.vis (c : MC) (i : Nat) (x : Str) : Bool := c.N[i]? == some x && (match c.sc.names.lookup x with
    | some .local => true
    | some .cell => true
    | some .free => true
    | _ => false) && !(x == ("__debug__" : Str)) && !(x == ("__classdict__" : Str))
def MC.tgt (c : MC) (i : Nat) (x : Str) : Bool := c.N[i]? == some x && (match (c.own.getD c.sc).names.lookup x with
    | some .local => true
    | some .cell => true
    | _ => false)
def MC.blk (c : MC) (scope : Scope) : MC := { c with sc := relS scope c.sc, own := some scope }
def cstB : SV → Const → Bool
  | .int i, .int j => i == j
  | .bl i, .bool j => i == j
  | .str i, .str j => i == j
  | .non, .none => true
  | _, _ => false
def biB : List Str := ["len", "abs", "tuple", "list", "all", "any", "sum", "int", "str", "max", "min", "sorted", "dict", "repr", "range", "zip", "enumerate", "isinstance", "bool", "ValueError", "LookupError"]
def notIfe : Expr → Bool
  | .IfExp _ _ _ _ => false
  | _ => true
mutual
def mT (c : MC) : STg → Expr → Bool
  | .nm i, e => (match e with
    | .Name x _ => c.tgt i x
    | _ => false)
  | .tup ts, e => (match e with
    | .Tuple es _ _ => es.all notStar && mTs c ts es
    | _ => false)
def mTs (c : MC) : List STg → List Expr → Bool
  | [], es => es.isEmpty
  | t :: ts, es => (match es with
    | e :: es => mT c t e && mTs c ts es
    | [] => false)
end
def TM.name : TM → Str
  | .split => "split"
  | .join => "join"
  | .starts => "startswith"
mutual
def mE : SE → MC → Expr → Bool
  | .tm m o s, c, e => (match e with
    | .Call g xs kw pos => (match g, xs with
      | .Attribute y n apos, [z] => n == m.name && (kw.isEmpty && (mE o c y && (mE s c z && (plainBase y && (notStar z && apos.endLine == pos.line)))))
      | _, _ => false)
    | _ => false)
  | .t2 o a b, c, e => (match o with
    | .mul => (match e with
      | .BinOp x o y _ => o == .Mult && (mE a c x && mE b c y)
      | _ => false)
    | .ix => (match e with
      | .Subscript x y _ => mE a c x && (mE b c y && notSlice y)
      | _ => false)
    | .inn => (match e with
      | .Compare x os ys _ => (match os, ys with
        | [.In], [y] => mE a c x && (mE b c y && notSet y)
        | _, _ => false)
      | _ => false)
    | .notin => (match e with
      | .Compare x os ys _ => (match os, ys with
        | [.NotIn], [y] => mE a c x && (mE b c y && notSet y)
        | _, _ => false)
      | _ => false))
  | .sslc a lo hi, c, e => (match e with
    | .Subscript x y _ => (match y with
      | .Slice l u st _ => st.isNone && (mE a c x && (mO lo c l && mO hi c u))
      | _ => false)
    | _ => false)
  | .fmt a, c, e => (match e with
    | .FormattedValue x cv sp _ => cv == -1 && (sp.isNone && mE a c x)
    | _ => false)
  | .fs es, c, e => (match e with
    | .JoinedStr xs _ => !xs.isEmpty && mEs es c xs
    | _ => false)
  | .cst v, c, e => (match e with
    | .Constant k _ _ => cstB v k
    | _ => false)
  | .var i, c, e => (match e with
    | .Name x _ => c.vis i x
    | _ => false)
  | .glob x v, c, e => (match e with
    | .Name y _ => y == x && (c.gl x && decide ((x, v) ∈ c.defs.g))
    | _ => false)
  | .lrng a, c, e => (match e with
    | .Call g xs kw _ => (match g, xs with
      | .Name y _, [.Call (.Name z _) [x] kw2 _] => y == ("list" : Str) && (c.gl y && (z == ("range" : Str) && (c.gl z && (kw.isEmpty && (kw2.isEmpty && (notStar x && mE a c x))))))
      | _, _ => false)
    | _ => false)
  | .rev a, c, e => (match e with
    | .Subscript x y _ => (match y with
      | .Slice none none (some (.UnaryOp .USub (.Constant (.int 1) _ _) _)) _ => mE a c x
      | _ => false)
    | _ => false)
  | .dnew, c, e => (match e with
    | .Dict ks vs _ => ks.isEmpty && vs.isEmpty
    | _ => false)
  | .once own i a, c, e => (match e with
    | .Call g xs kw _ => (match g, xs with
      | .Name y _, [.DictComp kx vx gs scope _] => (match gs, kx, vx with
        | [⟨tg, iter, is, as⟩], .Name z _, .Constant (.bool true) _ _ => y == ("list" : Str) && (c.gl "list" && (kw.isEmpty && (as == 0 && (is.isEmpty && (blkC c.N c.sc scope own && (decide (i ∈ own.map (·.2)) && (notSet iter && (mE a c iter && (mT (c.blk scope) (.nm i) tg && (c.blk scope).vis i z)))))))))
        | _, _, _ => false)
      | _, _ => false)
    | _ => false)
  | .neg a, c, e => (match e with
    | .UnaryOp o x _ => o == .USub && mE a c x
    | _ => false)
  | .not a, c, e => (match e with
    | .UnaryOp o x _ => o == .Not && (notIfe x && mE a c x)
    | _ => false)
  | .bin op a b, c, e => (match e with
    | .BinOp x o y _ => op == o && (mE a c x && mE b c y)
    | _ => false)
  | .cmp op a b, c, e => (match e with
    | .Compare x os ys _ => (match os, ys with
      | [o], [y] => op == o && (mE a c x && (mE b c y && notSet y))
      | _, _ => false)
    | _ => false)
  | .cmp2 op op' a b d, c, e => (match e with
    | .Compare x os ys _ => (match os, ys with
      | [o, o'], [y, z] => op == o && (op' == o' && (mE a c x && (mE b c y && (mE d c z && notSet z))))
      | _, _ => false)
    | _ => false)
  | .bool an es, c, e => (match e with
    | .BoolOp o xs _ => (o == .And) == an && (!es.isEmpty && (xs.all notIfe && mEs es c xs))
    | _ => false)
  | .ife d a b, c, e => (match e with
    | .IfExp x y z _ => notIfe x && (mE d c x && (mE a c y && mE b c z))
    | _ => false)
  | .tup es, c, e => (match e with
    | .Tuple xs _ _ => xs.all notStar && mEs es c xs
    | _ => false)
  | .lst es, c, e => (match e with
    | .List xs _ => xs.all notStar && mEs es c xs
    | _ => false)
  | .ix a i, c, e => (match e with
    | .Subscript x y _ => mE a c x && (mE i c y && notSlice y)
    | _ => false)
  | .slc a lo hi, c, e => (match e with
    | .Subscript x y _ => (match y with
      | .Slice l u st _ => st.isNone && (mE a c x && (mO lo c l && mO hi c u))
      | _ => false)
    | _ => false)
  | .call f es, c, e => (match e with
    | .Call g xs kw _ => (match g with
      | .Name y _ => y == f && (c.gl f && (decide ((f, es.length) ∈ c.defs.d) && (kw.isEmpty && (!xs.isEmpty && (xs.all notStar && mEs es c xs)))))
      | _ => false)
    | _ => false)
  | .callP pn ks es kes, c, e => (match e with
    | .Call g xs kw _ => (match g with
      | .Name y _ => c.gl y && (decide ((pn, y, es.length, ks) ∈ c.defs.p) && (!xs.isEmpty && (xs.all notStar && (kwB ks kw && (decide (kes.length = ks.length) && (mEs es c xs && mK kes c kw))))))
      | _ => false)
    | _ => false)
  | .bi f es, c, e => (match e with
    | .Call g xs kw _ => (match g with
      | .Name y _ => y == f.name && (f.served && (c.gl f.name && (kw.isEmpty && (!xs.isEmpty && (xs.all notStar && mEs es c xs)))))
      | _ => false)
    | _ => false)
  | .isi a ty, c, e => (match e with
    | .Call g xs kw _ => (match g, xs with
      | .Name y _, [x, .Name t _] => y == ("isinstance" : Str) && (c.gl y && (t == (ty : Str) && (c.gl t && (tyOk ty && (kw.isEmpty && (notStar x && mE a c x))))))
      | _, _ => false)
    | _ => false)
  | .lc own t it ifs elt, c, e => (match e with
    | .ListComp el gs scope _ => (match gs with
      | [⟨tg, iter, is, as⟩] => as == 0 && (blkC c.N c.sc scope own && (t.slots.all (fun i => decide (i ∈ own.map (·.2))) && (notSet iter && (mI it c tg iter && (mT (c.blk scope) t tg && (is.all notIfe && mEs ifs (c.blk scope) is && mE elt (c.blk scope) el))))))
      | _ => false)
    | _ => false)
  | .mth m o es, c, e => (match m with
    | .append => (match e with
      | .Call g xs kw pos => (match g, xs, es with
        | .Attribute y n apos, [z], [s] => n == ("append" : Str) && (kw.isEmpty && (mE o c y && (mE s c z && (plainBase y && (notStar z && apos.endLine == pos.line)))))
        | _, _, _ => false)
      | _ => false)
    | .extend => (match e with
      | .Call g xs kw pos => (match g, xs, es with
        | .Attribute y n apos, [z], [s] => n == ("extend" : Str) && (kw.isEmpty && (mE o c y && (mE s c z && (plainBase y && (notStar z && apos.endLine == pos.line)))))
        | _, _, _ => false)
      | _ => false)
    | .popAt => (match e with
      | .Call g xs kw pos => (match g, xs, es with
        | .Attribute y n apos, [z], [s] => n == ("pop" : Str) && (kw.isEmpty && (mE o c y && (mE s c z && (plainBase y && (notStar z && apos.endLine == pos.line)))))
        | _, _, _ => false)
      | _ => false)
    | .index => (match e with
      | .Call g xs kw pos => (match g, xs, es with
        | .Attribute y n apos, [z], [s] => n == ("index" : Str) && (kw.isEmpty && (mE o c y && (mE s c z && (plainBase y && (notStar z && apos.endLine == pos.line)))))
        | _, _, _ => false)
      | _ => false)
    | .pop => (match e with
      | .Call g xs kw pos => (match g, xs, es with
        | .Attribute y n apos, [], [] => n == ("pop" : Str) && (kw.isEmpty && (mE o c y && (plainBase y && apos.endLine == pos.line)))
        | _, _, _ => false)
      | _ => false)
    | .clear => (match e with
      | .Call g xs kw pos => (match g, xs, es with
        | .Attribute y n apos, [], [] => n == ("clear" : Str) && (kw.isEmpty && (mE o c y && (plainBase y && apos.endLine == pos.line)))
        | _, _, _ => false)
      | _ => false)
    | _ => false)
  | .box a, c, e => plainTest e && mE a c e
  | .fz a, c, e => plainTest e && mE a c e
  | .drp i a, c, e => plainTest e && mE a c e
  | .fld C a f, c, e => (match e with
    | .Attribute x n _ => n == f && (decide ((C, f) ∈ c.defs.of) && (plainBase x && mE a c x))
    | _ => false)
  | .meth pn C m ks a es kes, c, e => (match e with
    | .Call g xs kw pos => (match g with
      | .Attribute y n apos => n == m && (decide ((pn, C, m, es.length, ks) ∈ c.defs.om) && (xs.all notStar && (kwB ks kw && (decide (kes.length = ks.length) && (plainBase y && (apos.endLine == pos.line && (decide (xs.length + kw.length + 1 < 30) && ((!xs.isEmpty || kw.isEmpty) && (mE a c y && (mEs es c xs && mK kes c kw))))))))))
      | _ => false)
    | _ => false)
  | .make pn C ks es kes, c, e => (match e with
    | .Call g xs kw _ => (match g with
      | .Name y _ => y == C && (c.gl C && (decide ((pn, C, es.length, ks) ∈ c.defs.ok) && (!xs.isEmpty && (xs.all notStar && (kwB ks kw && (decide (kes.length = ks.length) && (mEs es c xs && mK kes c kw)))))))
      | _ => false)
    | _ => false)
def mEs : List SE → MC → List Expr → Bool
  | [], _, es => es.isEmpty
  | s :: ss, c, es => (match es with
    | e :: es => mE s c e && mEs ss c es
    | [] => false)
def mK : List SE → MC → List Keyword → Bool
  | [], _, kw => kw.isEmpty
  | s :: ss, c, kw => (match kw with
    | ⟨_, e, _⟩ :: kw => mE s c e && mK ss c kw
    | [] => false)
def mO : Option SE → MC → Option Expr → Bool
  | none, _, e => e.isNone
  | some s, c, e => (match e with
    | some e => mE s c e
    | none => false)
def mI : SIt → MC → Expr → Expr → Bool
  | .txt a, c, tg, e => mE a c e
  | .of a, c, tg, e => mE a c e
  | .rng a, c, tg, e => (match e with
    | .Call g xs kw _ => (match g, xs with
      | .Name y _, [x] => y == ("range" : Str) && (c.gl y && (kw.isEmpty && (notStar x && mE a c x)))
      | _, _ => false)
    | _ => false)
  | .rng2 a b, c, tg, e => (match e with
    | .Call g xs kw _ => (match g, xs with
      | .Name y _, [x, z] => y == ("range" : Str) && (c.gl y && (kw.isEmpty && (notStar x && (notStar z && (mE a c x && mE b c z)))))
      | _, _ => false)
    | _ => false)
  | .zip es, c, tg, e => (match e with
    | .Call g xs kw _ => (match g, xs with
      | .Name y _, [x, z] => y == ("zip" : Str) && (c.gl y && (kw.isEmpty && (notStar x && (notStar z && (!notTup tg && mEs es c [x, z])))))
      | _, _ => false)
    | _ => false)
  | .enum es, c, tg, e => (match e with
    | .Call g xs kw _ => (match g, xs with
      | .Name y _, [x] => y == ("enumerate" : Str) && (c.gl y && (kw.isEmpty && (notStar x && (!notTup tg && mEs es c [x]))))
      | _, _ => false)
    | _ => false)
end

/-- the place where a text stands -/
structure Good (X : Cx) (Y : Ey) (G : Gm) (c : MC) (k : Nat) (ca : Str → Addr) : Prop where
  hN : X.N = c.N
  sc : X.env.scope = c.sc
  nd : X.N.Nodup
  calm : X.calm = true
  un : X.A.units + 65 < cLine
  room : Room k X.A
  gd : X.A.guards = some []
  fns : ∀ f n, (f, n) ∈ c.defs.d → ∃ a fd ps, X.mg f = some (.ref a) ∧ PySem.W.keepIn X.K (.ref a) = true ∧ FnG X.prog X.w X.K X.mg X.base (CX X.prog X.w) k a fd ps (liftSp X.K ca (G.call f)) ∧ Binds X.K fd ps []
  pat : ∀ pn x n ks, (pn, x, n, ks) ∈ c.defs.p → ∃ a, X.mg x = some (.ref a) ∧ PySem.W.keepIn X.K (.ref a) = true ∧ PatOk X G ca k pn x n ks a
  blt : ∀ x ∈ biB, X.mg x = none
  tk : Takes X (wX X.K Y ca G.xp)
  po : PassesOwn (model X.prog X.w) X.A X.env X.xe
  tg : ∀ i x, c.tgt i x = true → Loc X.env.scope x ∧ (X.fn x = true ∨ X.env.scope.names.lookup x = some .local)
  oat : ∀ C f, (C, f) ∈ c.defs.of → Cls X.K (He.ga X.K C) ∧ NoAttr X.K (He.ga X.K C) f
  omt : ∀ pn C m n ks, (pn, C, m, n, ks) ∈ c.defs.om → ∃ g x, Cls X.K (He.ga X.K C) ∧ Meth X.K (He.ga X.K C) m g ∧ PatOk X G ca k pn x (n + 1) ks g
  omk : ∀ pn C n ks, (pn, C, n, ks) ∈ c.defs.ok → ∃ g x j, Mk X.K (He.ga X.K C) g ∧ X.mg C = some (.ref (He.ga X.K C)) ∧ j + 1 ≤ k ∧ PatOk X G ca j pn x (n + 1) ks g
  glo : ∀ x v, (x, v) ∈ c.defs.g → GloOk X.mg x v
  xok : ∀ n fo, (n, fo) ∈ c.defs.x → XOk X ca n
  xin : ∀ n fo, (n, some fo) ∈ c.defs.x → XIni X ca n fo k
  fr : c.own = none → X.stack = X.env :: X.outer ∧ X.env.frame = some X.env.locals
section
variable {X : Cx} {Y : Ey} {G : Gm} {c : MC} {k : Nat} {ca : Str → Addr}
theorem Good.gl (g : Good X Y G c k ca) {x : Str} (h : c.gl x = true) : Gl X x ∧ (x == ("__debug__" : Str)) = false := by
  unfold MC.gl at h
  rw [Bool.and_eq_true] at h
  refine ⟨?_, by simpa using h.2⟩
  show X.env.scope.names.lookup x = _
  rw [g.sc]
  exact beq_iff_eq.mp h.1
theorem Good.vis (g : Good X Y G c k ca) {i : Nat} {x : Str} (h : c.vis i x = true) : X.N[i]? = some x ∧ Vis X.env.scope x ∧ (x == ("__debug__" : Str)) = false ∧ (x == ("__classdict__" : Str)) = false := by
  unfold MC.vis at h
  simp only [Bool.and_eq_true] at h
  obtain ⟨⟨⟨h1, h2⟩, h3⟩, h4⟩ := h
  refine ⟨by rw [g.hN]; exact beq_iff_eq.mp h1, ?_, by simpa using h3, by simpa using h4⟩
  unfold Vis
  rw [g.sc]
  split at h2
  · exact .inl (by assumption)
  · exact .inr (.inl (by assumption))
  · exact .inr (.inr (by assumption))
  · cases h2
theorem Good.tgN (g : Good X Y G c k ca) {i : Nat} {x : Str} (h : c.tgt i x = true) : X.N[i]? = some x := by
  unfold MC.tgt at h
  rw [Bool.and_eq_true] at h
  rw [g.hN]
  exact beq_iff_eq.mp h.1
theorem Good.blk (g : Good X Y G c k ca) (s : Shared) (H : Hp) (scope : Scope) (C : Addr) (cl : List (Str × Addr)) (fp : List Addr) : Good (X.blk s H scope (PySem.compEnvC scope cl C X.env) fp) Y G.nox (c.blk scope) k ca := by
  have hsc : (PySem.compEnvC scope cl C X.env).scope = relS scope X.env.scope := rfl
  refine ⟨g.hN, ?_, g.nd, g.calm, g.un, g.room, g.gd, g.fns, fun pn x n ks hp => (let ⟨a, h1, h2, h3⟩ := g.pat pn x n ks hp; ⟨a, h1, h2, ⟨h3.ex⟩⟩), g.blt, fun u s' x => ?_, PassesOwn.never, fun i x h => ?_, g.oat, fun pn C m n ks hp => (let ⟨f, x, h1, h2, h3⟩ := g.omt pn C m n ks hp; ⟨f, x, h1, h2, ⟨h3.ex⟩⟩), fun pn C n ks hp => (let ⟨f, x, j, h1, h2, h3, h4⟩ := g.omk pn C n ks hp; ⟨f, x, j, h1, h2, h3, ⟨h4.ex⟩⟩), g.glo, fun n fo m => (let o := g.xok n fo m; ⟨o.nm, o.mg, o.ga, o.hd, o.cf⟩), fun n fo m => ⟨(g.xin n fo m).ex⟩, fun z => nomatch z⟩
  · show (PySem.compEnvC scope cl C X.env).scope = relS scope c.sc
    rw [hsc, g.sc]
  · obtain ⟨a, B, sI, pins, σ, H, cls, d, e, I, nb, up, sky, na, os, ag, w⟩ := x
    obtain ⟨_, _, _, _, _, _, z⟩ := w
    exact z.elim
  · unfold MC.tgt at h
    rw [Bool.and_eq_true] at h
    have h2 : (match scope.names.lookup x with
      | some .local => true
      | some .cell => true
      | _ => false) = true := h.2
    show Loc (relS scope X.env.scope) x ∧ ((scope.names.lookup x == some .cell) = true ∨ (relS scope X.env.scope).names.lookup x = some .local)
    split at h2
    · rename_i e
      have q := lookup_relS_keep (sc := X.env.scope) (k := .local) (by decide) e
      exact ⟨.inl q, .inr q⟩
    · rename_i e
      have q := lookup_relS_keep (sc := X.env.scope) (k := .cell) (by decide) e
      exact ⟨.inr q, .inl (by rw [e]; rfl)⟩
    · cases h2
/-- in a try's body -/
theorem Good.tr (g : Good X Y G c k ca) {Y' : Ey} {xp : SX → SSt → SHp → Prop} {pn : List (Addr × Obj)} {xe : Value → Shared → Prop} (tk : Takes (X.tr pn xe) (wX X.K Y' ca xp)) (po : PassesOwn (model X.prog X.w) X.A X.env xe) : Good (X.tr pn xe) Y' { G with xp := xp } c k ca :=
  ⟨g.hN, g.sc, g.nd, g.calm, g.un, g.room, g.gd, g.fns, fun pn' x n ks hp => (let ⟨a, h1, h2, h3⟩ := g.pat pn' x n ks hp; ⟨a, h1, h2, ⟨h3.ex⟩⟩), g.blt, tk, po, g.tg, g.oat, fun pn C m n ks hp => (let ⟨f, x, h1, h2, h3⟩ := g.omt pn C m n ks hp; ⟨f, x, h1, h2, ⟨h3.ex⟩⟩), fun pn C n ks hp => (let ⟨f, x, j, h1, h2, h3, h4⟩ := g.omk pn C n ks hp; ⟨f, x, j, h1, h2, h3, ⟨h4.ex⟩⟩), g.glo, fun n fo m => (let o := g.xok n fo m; ⟨o.nm, o.mg, o.ga, o.hd, o.cf⟩), fun n fo m => ⟨(g.xin n fo m).ex⟩, g.fr⟩
end
/-! ### suites -/
def flds : List Str := ["called", "at", "row"]
/-- a class that isinstance is asked for -/
def isArg (c : MC) (D : Str) : Bool := c.gl D && (c.defs.x.any (fun q => q.1 == D) || (D == ("ValueError" : Str) || D == ("LookupError" : Str)))
def isCall (c : MC) (n D : Str) : Expr → Bool
  | .Call (.Name y _) [.Name m _, .Name E _] kw _ => y == ("isinstance" : Str) && (m == n && (E == D && (kw.isEmpty && (c.gl "isinstance" && isArg c D))))
  | _ => false
def mHE (c : MC) (i : Option Nat) (n : Option Str) : HE → Expr → Bool
  | .cst v, e => (match e with
    | .Constant k _ _ => cstB v k
    | _ => false)
  | .fld f, e => (match e, i, n with
    | .Attribute (.Name m _) g _, some i, some n => m == n && (c.vis i n && (g == f && flds.contains f))
    | _, _, _ => false)
  | .pair a b, e => (match e with
    | .Tuple [x, y] _ _ => notStar x && (notStar y && (mHE c i n a x && mHE c i n b y))
    | _ => false)
  | .isi A B t f, e => (match e, i, n with
    | .IfExp (.BoolOp .And [x, y] _) (.Constant k1 _ _) (.Constant k2 _ _) _, some i, some n => c.vis i n && (isCall c n A x && (isCall c n B y && (cstB t k1 && cstB f k2)))
    | _, _, _ => false)
def mHS (c : MC) (i : Option Nat) (n : Option Str) : HS → Stmt → Bool
  | .ret e, s => (match s with
    | .Return (some x) _ => mHE c i n e x
    | _ => false)
  | .asg j e, s => (match s with
    | .Assign [.Name y _] v _ => mHE c i n e v && (c.tgt j y && notComp v)
    | _ => false)
  | .app j v, s => (match s with
    | .Expr (.Call (.Attribute (.Name y _) m apos) [.Constant k _ _] kw pos) _ => m == ("append" : Str) && (c.vis j y && (cstB v k && (kw.isEmpty && apos.endLine == pos.line)))
    | _ => false)
def nmB (c : MC) (i : Option Nat) (n : Option Str) : Bool := match i, n with
  | none, none => true
  | some i, some n => c.N[i]? == some n && c.sc.names.lookup n == some .local
  | _, _ => false
def mHds (c : MC) : List Hd → List ExceptHandler → Bool
  | [], l => l.isEmpty
  | h :: hs, l => (match l with
    | .ExceptHandler (some (.Name x _)) n [st] _ :: r => x == h.c && (c.gl x && (c.defs.x.any (fun q => q.1 == x) && (nmB c h.i n && (mHS c h.i n h.s st && mHds c hs r))))
    | _ => false)
end SL
/-! S16: a text that stands for an expression keeps its reading. -/
namespace SL
open PySem PySem.Spec L2
/-- the expression keeps the text's reading, as a value and as a test -/
def Snd (X : Cx) (Y : Ey) (G : Gm) (s : SE) (e : Expr) : Prop := PE X e (tE X.K Y G s) ∧ (notIfe e = true → PT X e (tT (tE X.K Y G s)))
section
variable {X : Cx} {Y : Ey} {G : Gm} {c : MC} {k : Nat} {ca : Str → Addr}
theorem Snd.of {s : SE} {e : Expr} (h : PE X e (tE X.K Y G s)) (hp : plainTest e = true) : Snd X Y G s e := ⟨h, fun _ => pt_of h hp⟩
theorem all_cons {α : Type} {p : α → Bool} {x : α} {xs : List α} (h : (x :: xs).all p = true) : p x = true ∧ xs.all p = true := by
  rwa [List.all_cons, Bool.and_eq_true] at h
theorem pa_op {ss : List SE} {es : List Expr} (p : Paired (Snd X Y G) ss es) : es.all notStar = true → PA X es (tOpL X.K Y G ss) := by
  induction p with
  | nil => exact fun _ => pa_op_nil
  | cons a _ ih => exact fun h => pa_op_cons a.1 (ih (all_cons h).2) (all_cons h).1
theorem pa_st {ss : List SE} {es : List Expr} (p : Paired (Snd X Y G) ss es) : es.all notStar = true → PA X es (tStL X.K Y G ss) := by
  induction p with
  | nil => exact fun _ => pa_st_nil
  | cons a _ ih => exact fun h => pa_st_cons a.1 (ih (all_cons h).2) (all_cons h).1
theorem pa_ar {ss : List SE} {es : List Expr} (p : Paired (Snd X Y G) ss es) : es.all notStar = true → PA X es (tArL X.K Y G ss) := by
  induction p with
  | nil => exact fun _ => pa_ar_nil
  | cons a _ ih => exact fun h => pa_ar_cons a.1 (ih (all_cons h).2) (all_cons h).1
theorem bool_ok {pos : Pos} : ∀ {ss : List SE} {es : List Expr} {o : BoolOp} {an : Bool}, Paired (Snd X Y G) ss es → ss ≠ [] → es.all notIfe = true → (o == .And) = an → PE X (.BoolOp o es pos) (tE X.K Y G (.bool an ss)) ∧ PW X (.BoolOp o es pos) (tT (tE X.K Y G (.bool an ss)))
  | [], _, _, _, _, n, _, _ => absurd rfl n
  | [s], _, o, an, .cons a .nil, _, h, _ => ⟨sb_one a.1, sw_one (a.2 (all_cons h).1)⟩
  | s :: s2 :: ss, _, o, an, .cons a (.cons b r), _, h, e => by
    have h1 := all_cons h
    obtain ⟨i1, i2⟩ := bool_ok (pos := pos) (o := o) (an := an) (Paired.cons b r) (by simp) h1.2 e
    cases o with
    | And => cases (show true = an from e); exact ⟨sb_and a.1 i1, sw_and (a.2 h1.1) i2⟩
    | Or => cases (show false = an from e); exact ⟨sb_or a.1 i1, sw_or (a.2 h1.1) i2⟩
theorem tests_ok {X : Cx} {ss : List SE} {es : List Expr} (p : Paired (Snd X Y G) ss es) (h : es.all notIfe = true) : PTs X es (tIfs X.K Y G ss) := by
  cases p with
  | nil => exact pts_nil
  | cons a r =>
    cases r with
    | nil => exact pts_one (a.2 (all_cons h).1)
    | cons b r2 => exact ⟨fun _ _ _ _ _ _ z => z.elim⟩
theorem folded_ok {e : Expr} {env : Env} (h : notSet e = true) (x : Value) : foldedSetIterable e env x = pure x := by
  cases e <;> first | rfl | cases h
theorem mem_biB {f : Bi} : f.name ∈ biB := by
  cases f <;> simp [Bi.name, biB]
theorem ty_biB {ty : String} (h : tyOk ty = true) : (ty : Str) ∈ biB := by
  unfold tyOk at h
  split at h <;> first | (simp [biB]; done) | cases h
theorem ba {a b : Bool} (h : (a && b) = true) : a = true ∧ b = true := Bool.and_eq_true_iff.mp h
theorem kw_nil {kw : List Keyword} (h : kw.isEmpty = true) : kw = [] := List.isEmpty_iff.mp h
end

mutual
theorem soundT : ∀ (t : STg) (c : MC) (X : Cx) (Y : Ey) (G : Gm) (k : Nat) (ca : Str → Addr) (e : Expr), Good X Y G c k ca → mT c t e = true → PG X e (tG X.K Y t)
  | .nm i, c, X, Y, G, k, ca, e, g, h => by
    cases e with
    | Name x p =>
      simp only [mT] at h
      exact sg_name g.nd (g.tgN h) (g.tg i x h).1 (g.tg i x h).2
    | _ => simp only [mT] at h; cases h
  | .tup ts, c, X, Y, G, k, ca, e, g, h => by
    cases e with
    | Tuple es kk p =>
      simp only [mT] at h
      obtain ⟨h1, h2⟩ := ba h
      obtain ⟨q, hl⟩ := soundTs ts c X Y G k ca es g h2 h1
      exact sg_tup g.calm q h1 hl
    | _ => simp only [mT] at h; cases h
theorem soundTs : ∀ (ts : List STg) (c : MC) (X : Cx) (Y : Ey) (G : Gm) (k : Nat) (ca : Str → Addr) (es : List Expr), Good X Y G c k ca → mTs c ts es = true → es.all notStar = true → PGs X es (tGs X.K Y ts) ∧ es.length = ts.length
  | [], c, X, Y, G, k, ca, es, g, h, hs => by
    simp only [mTs] at h
    have e := List.isEmpty_iff.mp h
    subst e
    exact ⟨sgs_nil, rfl⟩
  | t :: ts, c, X, Y, G, k, ca, es, g, h, hs => by
    cases es with
    | nil => simp only [mTs] at h; cases h
    | cons e es =>
      simp only [mTs] at h
      obtain ⟨h1, h2⟩ := ba h
      obtain ⟨q, hl⟩ := soundTs ts c X Y G k ca es g h2 (all_cons hs).2
      exact ⟨sgs_cons (soundT t c X Y G k ca e g h1) q (all_cons hs).1, by simp [hl]⟩
end
theorem blk_pg {X : Cx} {Y : Ey} {G : Gm} {c : MC} {k : Nat} {ca : Str → Addr} {scope : Scope} {i : Nat} {x : Str} {p : Pos} (g : Good X Y G c k ca) (h : (c.blk scope).tgt i x = true) (s : Shared) (H : Hp) (C : Addr) (cl : List (Str × Addr)) (fp : List Addr) : PG (X.blk s H scope (PySem.compEnvC scope cl C X.env) fp) (.Name x p) (gName i) :=
  let gb := g.blk s H scope C cl fp
  pg_name gb.nd (gb.tgN h) (gb.tg _ _ h).1 (gb.tg _ _ h).2
theorem blk_pe {X : Cx} {Y : Ey} {G : Gm} {c : MC} {k : Nat} {ca : Str → Addr} {scope : Scope} {i : Nat} {x : Str} {p : Pos} (g : Good X Y G c k ca) (h : (c.blk scope).vis i x = true) (s : Shared) (H : Hp) (C : Addr) (cl : List (Str × Addr)) (fp : List Addr) : PE (X.blk s H scope (PySem.compEnvC scope cl C X.env) fp) (.Name x p) (tVar i) :=
  let ⟨q1, q2, q3, q4⟩ := (g.blk s H scope C cl fp).vis h
  pe_var q1 q2 q3 q4
theorem pj_all {X : Cx} {Y : Ey} {G : Gm} {ss : List SE} {es : List Expr} (p : Paired (Snd X Y G) ss es) : PJ X es (ss.map (tE X.K Y G)) := by
  induction p with
  | nil => exact .nil
  | cons a _ ih => exact .cons a.1 ih
mutual
theorem soundE : ∀ (s : SE) (c : MC) (X : Cx) (Y : Ey) (G : Gm) (k : Nat) (ca : Str → Addr) (e : Expr), Good X Y G c k ca → mE s c e = true → Snd X Y G s e
  | .tm m o s, c, X, Y, G, k, ca, e, g, h => by
    cases e with
    | Call fn xs kw p =>
      simp only [mE] at h
      split at h
      · obtain ⟨h1, t⟩ := ba h
        obtain ⟨h2, t⟩ := ba t
        obtain ⟨h3, t⟩ := ba t
        obtain ⟨h4, t⟩ := ba t
        obtain ⟨h5, t⟩ := ba t
        obtain ⟨h6, h7⟩ := ba t
        cases (beq_iff_eq.mp h1)
        cases (kw_nil h2)
        have qa := (soundE o c X Y G k ca _ g h3).1
        have qb := (soundE s c X Y G k ca _ g h4).1
        cases m with
        | split => exact .of (se_split qa qb h6 (base_ok h5) h7) rfl
        | join => exact .of (se_join qa qb h6 (base_ok h5) h7) rfl
        | starts => exact .of (se_starts qa qb h6 (base_ok h5) h7) rfl
      · cases h
    | _ => simp only [mE] at h; cases h
  | .t2 o a b, c, X, Y, G, k, ca, e, g, h => by
    cases o with
    | mul =>
      cases e with
      | BinOp x o y p =>
        simp only [mE] at h
        obtain ⟨h1, t⟩ := ba h
        obtain ⟨h2, h3⟩ := ba t
        cases (beq_iff_eq.mp h1)
        exact .of (se_smul (soundE a c X Y G k ca x g h2).1 (soundE b c X Y G k ca y g h3).1) rfl
      | _ => simp only [mE] at h; cases h
    | ix =>
      cases e with
      | Subscript x y p =>
        simp only [mE] at h
        obtain ⟨h1, t⟩ := ba h
        obtain ⟨h2, h3⟩ := ba t
        exact .of (se_six (soundE a c X Y G k ca x g h1).1 (soundE b c X Y G k ca y g h2).1 h3) rfl
      | _ => simp only [mE] at h; cases h
    | inn =>
      cases e with
      | Compare x os ys p =>
        simp only [mE] at h
        split at h
        · obtain ⟨h1, t⟩ := ba h
          obtain ⟨h2, h3⟩ := ba t
          have qa := (soundE a c X Y G k ca x g h1).1
          have qb := (soundE b c X Y G k ca _ g h2).1
          exact ⟨se_sin qa qb h3, fun _ => st_sin qa qb h3⟩
        · cases h
      | _ => simp only [mE] at h; cases h
    | notin =>
      cases e with
      | Compare x os ys p =>
        simp only [mE] at h
        split at h
        · obtain ⟨h1, t⟩ := ba h
          obtain ⟨h2, h3⟩ := ba t
          have qa := (soundE a c X Y G k ca x g h1).1
          have qb := (soundE b c X Y G k ca _ g h2).1
          exact ⟨se_snin qa qb h3, fun _ => st_snin qa qb h3⟩
        · cases h
      | _ => simp only [mE] at h; cases h
  | .sslc a lo hi, c, X, Y, G, k, ca, e, g, h => by
    cases e with
    | Subscript x y p =>
      simp only [mE] at h
      split at h
      · obtain ⟨h1, t⟩ := ba h
        obtain ⟨h2, t⟩ := ba t
        obtain ⟨h3, h4⟩ := ba t
        have e1 := Option.isNone_iff_eq_none.mp h1
        subst e1
        exact .of (se_sslc (soundE a c X Y G k ca x g h2).1 (soundO lo c X Y G k ca _ g h3) (soundO hi c X Y G k ca _ g h4)) rfl
      · cases h
    | _ => simp only [mE] at h; cases h
  | .fmt a, c, X, Y, G, k, ca, e, g, h => by
    cases e with
    | FormattedValue x cv sp p =>
      simp only [mE] at h
      obtain ⟨h1, t⟩ := ba h
      obtain ⟨h2, h3⟩ := ba t
      cases (beq_iff_eq.mp h1)
      have e1 := Option.isNone_iff_eq_none.mp h2
      subst e1
      exact .of (se_fmt (soundE a c X Y G k ca x g h3).1) rfl
    | _ => simp only [mE] at h; cases h
  | .fs es, c, X, Y, G, k, ca, e, g, h => by
    cases e with
    | JoinedStr xs p =>
      simp only [mE] at h
      obtain ⟨h1, h2⟩ := ba h
      have q := soundEs es c X Y G k ca xs g h2
      cases q with
      | nil => cases h1
      | cons a r =>
        cases r with
        | nil => exact .of (se_fs1 a.1) rfl
        | cons b r => exact .of (se_fs (pj_all (.cons a (.cons b r)))) rfl
    | _ => simp only [mE] at h; cases h
  | .cst v, c, X, Y, G, k, ca, e, g, h => by
    cases e with
    | Constant w j p =>
      simp only [mE] at h
      unfold cstB at h
      split at h
      · cases (beq_iff_eq.mp h); exact .of se_int rfl
      · cases (beq_iff_eq.mp h); exact .of se_bl rfl
      · cases (beq_iff_eq.mp h); exact .of se_str rfl
      · exact .of se_non rfl
      · cases h
    | _ => simp only [mE] at h; cases h
  | .var i, c, X, Y, G, k, ca, e, g, h => by
    cases e with
    | Name x p =>
      simp only [mE] at h
      obtain ⟨h1, h2, h3, h4⟩ := g.vis h
      exact .of (se_var h1 h2 h3 h4) rfl
    | _ => simp only [mE] at h; cases h
  | .glob x v, c, X, Y, G, k, ca, e, g, h => by
    cases e with
    | Name y p =>
      simp only [mE] at h
      obtain ⟨h1, t2⟩ := ba h
      obtain ⟨h2, h3⟩ := ba t2
      cases (beq_iff_eq.mp h1)
      exact .of (se_glob (g.gl h2).1 (g.glo _ _ (of_decide_eq_true h3)) (g.gl h2).2) rfl
    | _ => simp only [mE] at h; cases h
  | .lrng a, c, X, Y, G, k, ca, e, g, h => by
    cases e with
    | Call f xs kw p =>
      simp only [mE] at h
      split at h
      · obtain ⟨h1, t2⟩ := ba h
        obtain ⟨h2, t3⟩ := ba t2
        obtain ⟨h3, t4⟩ := ba t3
        obtain ⟨h4, t5⟩ := ba t4
        obtain ⟨h5, t6⟩ := ba t5
        obtain ⟨h6, t7⟩ := ba t6
        obtain ⟨h7, h8⟩ := ba t7
        cases (beq_iff_eq.mp h1)
        cases (beq_iff_eq.mp h3)
        cases (kw_nil h5)
        cases (kw_nil h6)
        exact .of (se_lrng g.calm (g.gl h2).1 (g.blt _ (by decide)) (g.gl h4).1 (g.blt _ (by decide)) (soundE a c X Y G k ca _ g h8).1 h7) rfl
      · cases h
    | _ => simp only [mE] at h; cases h
  | .rev a, c, X, Y, G, k, ca, e, g, h => by
    cases e with
    | Subscript x y p =>
      simp only [mE] at h
      split at h
      · exact .of (se_rev (soundE a c X Y G k ca _ g h).1) rfl
      · cases h
    | _ => simp only [mE] at h; cases h
  | .dnew, c, X, Y, G, k, ca, e, g, h => by
    cases e with
    | Dict ks vs p =>
      simp only [mE] at h
      obtain ⟨h1, h2⟩ := ba h
      cases (List.isEmpty_iff.mp h1)
      cases (List.isEmpty_iff.mp h2)
      exact .of se_dnew rfl
    | _ => simp only [mE] at h; cases h
  | .once own i a, c, X, Y, G, k, ca, e, g, h => by
    cases e with
    | Call f xs kw p =>
      simp only [mE] at h
      split at h
      · split at h
        · obtain ⟨h1, t2⟩ := ba h
          obtain ⟨h2, t3⟩ := ba t2
          obtain ⟨h3, t4⟩ := ba t3
          obtain ⟨h4, t5⟩ := ba t4
          obtain ⟨h5, t6⟩ := ba t5
          obtain ⟨h6, t7⟩ := ba t6
          obtain ⟨h7, t8⟩ := ba t7
          obtain ⟨h8, t9⟩ := ba t8
          obtain ⟨h9, t10⟩ := ba t9
          obtain ⟨h10, h11⟩ := ba t10
          cases (beq_iff_eq.mp h1)
          cases (kw_nil h3)
          cases (beq_iff_eq.mp h4)
          cases (List.isEmpty_iff.mp h5)
          simp only [mT] at h10
          split at h10
          · refine .of (se_once g.un g.calm g.nd (g.gl h2).1 (g.blt _ (by decide)) (soundE a c X Y G k ca _ g h9).1 (blkOk_by (by rw [g.hN, g.sc]; exact h6)) (of_decide_eq_true h7) (blk_pg g h10) (blk_pe g h11) (folded_ok h8)) rfl
          · cases h10
        · cases h
      · cases h
    | _ => simp only [mE] at h; cases h
  | .fld C a f, c, X, Y, G, k, ca, e, g, h => by
    cases e with
    | Attribute x n p =>
      simp only [mE] at h
      obtain ⟨h1, t⟩ := ba h
      obtain ⟨h2, t⟩ := ba t
      obtain ⟨h3, h4⟩ := ba t
      cases beq_iff_eq.mp h1
      obtain ⟨q1, q2⟩ := g.oat _ _ (of_decide_eq_true h2)
      exact .of (se_fld q1 q2 (soundE a c X Y G k ca x g h4).1 h3) rfl
    | _ => simp only [mE] at h; cases h
  | .meth pn C m ks a es kes, c, X, Y, G, k, ca, e, g, h => by
    cases e with
    | Call fn xs kw p =>
      simp only [mE] at h
      split at h
      · obtain ⟨h1, t⟩ := ba h
        obtain ⟨h2, t⟩ := ba t
        obtain ⟨h3, t⟩ := ba t
        obtain ⟨h4, t⟩ := ba t
        obtain ⟨h5, t⟩ := ba t
        obtain ⟨h6, t⟩ := ba t
        obtain ⟨h7, t⟩ := ba t
        obtain ⟨h8, t⟩ := ba t
        obtain ⟨h9, t⟩ := ba t
        obtain ⟨h10, t⟩ := ba t
        obtain ⟨h11, h12⟩ := ba t
        cases beq_iff_eq.mp h1
        obtain ⟨f, x, q1, q2, P⟩ := g.omt _ _ _ _ _ (of_decide_eq_true h2)
        have qo := soundE a c X Y G k ca _ g h10
        have q := soundEs es c X Y G k ca xs g h11
        have qk := soundK kes c X Y G k ca kw g h12
        cases xs with
        | cons z zs => exact .of (se_meth q1 q2 P g.room g.gd g.tk qo.1 (pa_ar q h3) qk h4 (of_decide_eq_true h5) h3 h6 h7 (of_decide_eq_true h8)) rfl
        | nil =>
          have ek : kw = [] := List.isEmpty_iff.mp (by simpa using h9)
          subst ek
          cases q
          cases ks with
          | cons _ _ => simp [kwB] at h4
          | nil =>
            cases kes with
            | cons _ _ => simp at h5
            | nil => exact .of (se_meth0 q1 q2 P g.room g.gd g.tk qo.1 h6 h7) rfl
      · cases h
    | _ => simp only [mE] at h; cases h
  | .make pn C ks es kes, c, X, Y, G, k, ca, e, g, h => by
    cases e with
    | Call fn xs kw p =>
      simp only [mE] at h
      split at h
      · obtain ⟨h1, t⟩ := ba h
        obtain ⟨h2, t⟩ := ba t
        obtain ⟨h3, t⟩ := ba t
        obtain ⟨h4, t⟩ := ba t
        obtain ⟨h5, t⟩ := ba t
        obtain ⟨h6, t⟩ := ba t
        obtain ⟨h7, t⟩ := ba t
        obtain ⟨h8, h9⟩ := ba t
        cases beq_iff_eq.mp h1
        obtain ⟨f, x, j, q1, q2, q3, P⟩ := g.omk _ _ _ _ (of_decide_eq_true h3)
        have q := soundEs es c X Y G k ca xs g h8
        have qk := soundK kes c X Y G k ca kw g h9
        cases xs with
        | nil => cases h4
        | cons z zs => exact .of (se_make q1 P (g.room.mono q3) g.gd (g.gl h2).1 q2 g.tk (pa_ar q h5) qk h6 (of_decide_eq_true h7) (g.gl h2).2 h5) rfl
      · cases h
    | _ => simp only [mE] at h; cases h
  | .neg a, c, X, Y, G, k, ca, e, g, h => by
    cases e with
    | UnaryOp o x p =>
      simp only [mE] at h
      obtain ⟨h1, h2⟩ := ba h
      cases (beq_iff_eq.mp h1)
      exact .of (se_neg (soundE a c X Y G k ca x g h2).1) rfl
    | _ => simp only [mE] at h; cases h
  | .not a, c, X, Y, G, k, ca, e, g, h => by
    cases e with
    | UnaryOp o x p =>
      simp only [mE] at h
      obtain ⟨h1, th2⟩ := ba h
      obtain ⟨h2, h3⟩ := ba th2
      cases (beq_iff_eq.mp h1)
      have q := soundE a c X Y G k ca x g h3
      exact ⟨se_not q.1, fun _ => st_not (q.2 h2)⟩
    | _ => simp only [mE] at h; cases h
  | .bin op a b, c, X, Y, G, k, ca, e, g, h => by
    cases e with
    | BinOp x o y p =>
      simp only [mE] at h
      obtain ⟨h1, th2⟩ := ba h
      obtain ⟨h2, h3⟩ := ba th2
      cases (beq_iff_eq.mp h1)
      exact .of (se_bin (soundE a c X Y G k ca x g h2).1 (soundE b c X Y G k ca y g h3).1) rfl
    | _ => simp only [mE] at h; cases h
  | .cmp op a b, c, X, Y, G, k, ca, e, g, h => by
    cases e with
    | Compare x os ys p =>
      simp only [mE] at h
      split at h
      · obtain ⟨h1, th2⟩ := ba h
        obtain ⟨h2, th3⟩ := ba th2
        obtain ⟨h3, h4⟩ := ba th3
        cases (beq_iff_eq.mp h1)
        have qa := (soundE a c X Y G k ca x g h2).1
        have qb := (soundE b c X Y G k ca _ g h3).1
        exact ⟨se_cmp g.un qa qb h4, fun _ => st_cmp g.un qa qb h4⟩
      · cases h
    | _ => simp only [mE] at h; cases h
  | .cmp2 op op' a b d, c, X, Y, G, k, ca, e, g, h => by
    cases e with
    | Compare x os ys p =>
      simp only [mE] at h
      split at h
      · obtain ⟨h1, th2⟩ := ba h
        obtain ⟨h0, th2⟩ := ba th2
        obtain ⟨h2, th3⟩ := ba th2
        obtain ⟨h3, th4⟩ := ba th3
        obtain ⟨h4, h5⟩ := ba th4
        cases (beq_iff_eq.mp h1)
        cases (beq_iff_eq.mp h0)
        have qa := (soundE a c X Y G k ca x g h2).1
        have qb := (soundE b c X Y G k ca _ g h3).1
        have qd := (soundE d c X Y G k ca _ g h4).1
        exact ⟨se_cmp2 g.un qa qb qd h5, fun _ => st_cmp2 g.un qa qb qd h5⟩
      · cases h
    | _ => simp only [mE] at h; cases h
  | .bool an es, c, X, Y, G, k, ca, e, g, h => by
    cases e with
    | BoolOp o xs p =>
      simp only [mE] at h
      obtain ⟨h1, th2⟩ := ba h
      obtain ⟨h2, th3⟩ := ba th2
      obtain ⟨h3, h4⟩ := ba th3
      have q := soundEs es c X Y G k ca xs g h4
      obtain ⟨r1, r2⟩ := bool_ok (pos := p) (o := o) (an := an) q (by intro z; subst z; simp at h2) h3 (by simpa using h1)
      exact ⟨r1, fun _ => r2.pt⟩
    | _ => simp only [mE] at h; cases h
  | .ife d a b, c, X, Y, G, k, ca, e, g, h => by
    cases e with
    | IfExp x y z p =>
      simp only [mE] at h
      obtain ⟨h1, th2⟩ := ba h
      obtain ⟨h2, th3⟩ := ba th2
      obtain ⟨h3, h4⟩ := ba th3
      exact ⟨se_ife ((soundE d c X Y G k ca x g h2).2 h1) (soundE a c X Y G k ca y g h3).1 (soundE b c X Y G k ca z g h4).1, fun z => by cases z⟩
    | _ => simp only [mE] at h; cases h
  | .tup es, c, X, Y, G, k, ca, e, g, h => by
    cases e with
    | Tuple xs j p =>
      simp only [mE] at h
      obtain ⟨h1, h2⟩ := ba h
      exact .of (se_tup (pa_st (soundEs es c X Y G k ca xs g h2) h1)) rfl
    | _ => simp only [mE] at h; cases h
  | .lst es, c, X, Y, G, k, ca, e, g, h => by
    cases e with
    | List xs p =>
      simp only [mE] at h
      obtain ⟨h1, h2⟩ := ba h
      exact .of (se_lst (pa_st (soundEs es c X Y G k ca xs g h2) h1)) rfl
    | _ => simp only [mE] at h; cases h
  | .ix a i, c, X, Y, G, k, ca, e, g, h => by
    cases e with
    | Subscript x y p =>
      simp only [mE] at h
      obtain ⟨h1, th2⟩ := ba h
      obtain ⟨h2, h3⟩ := ba th2
      exact .of (se_ix (soundE a c X Y G k ca x g h1).1 (soundE i c X Y G k ca y g h2).1 h3) rfl
    | _ => simp only [mE] at h; cases h
  | .slc a lo hi, c, X, Y, G, k, ca, e, g, h => by
    cases e with
    | Subscript x y p =>
      simp only [mE] at h
      split at h
      · obtain ⟨h1, th2⟩ := ba h
        obtain ⟨h2, th3⟩ := ba th2
        obtain ⟨h3, h4⟩ := ba th3
        have e1 := Option.isNone_iff_eq_none.mp h1
        subst e1
        exact .of (se_slc (soundE a c X Y G k ca x g h2).1 (soundO lo c X Y G k ca _ g h3) (soundO hi c X Y G k ca _ g h4)) rfl
      · cases h
    | _ => simp only [mE] at h; cases h
  | .call f es, c, X, Y, G, k, ca, e, g, h => by
    cases e with
    | Call fn xs kw p =>
      simp only [mE] at h
      split at h
      · obtain ⟨h1, th2⟩ := ba h
        obtain ⟨h2, th3⟩ := ba th2
        obtain ⟨h3, th4⟩ := ba th3
        obtain ⟨h4, th5⟩ := ba th4
        obtain ⟨h5, th6⟩ := ba th5
        obtain ⟨h6, h7⟩ := ba th6
        cases (beq_iff_eq.mp h1)
        cases (kw_nil h4)
        obtain ⟨a, fd, ps, hm, hk, F, hb⟩ := g.fns f es.length (of_decide_eq_true h3)
        have q := soundEs es c X Y G k ca xs g h7
        cases xs with
        | nil => cases h5
        | cons x xs => exact .of (se_call F g.room g.gd (g.gl h2).1 hm hk hb g.tk (pa_ar q h6) (g.gl h2).2 h6) rfl
      · cases h
    | _ => simp only [mE] at h; cases h
  | .callP pn ks es kes, c, X, Y, G, k, ca, e, g, h => by
    cases e with
    | Call fn xs kw p =>
      simp only [mE] at h
      split at h
      · obtain ⟨h1, th2⟩ := ba h
        obtain ⟨h2, th3⟩ := ba th2
        obtain ⟨h3, th4⟩ := ba th3
        obtain ⟨h4, th5⟩ := ba th4
        obtain ⟨h5, th6⟩ := ba th5
        obtain ⟨h6, th7⟩ := ba th6
        obtain ⟨h7, h8⟩ := ba th7
        obtain ⟨a, hm, hk, P⟩ := g.pat _ _ _ _ (of_decide_eq_true h2)
        have q := soundEs es c X Y G k ca xs g h7
        have q2 := soundK kes c X Y G k ca kw g h8
        cases xs with
        | nil => cases h3
        | cons x xs => exact .of (se_callP P g.room g.gd (g.gl h1).1 hm hk g.tk (pa_ar q h4) q2 h5 (of_decide_eq_true h6) (g.gl h1).2 h4) rfl
      · cases h
    | _ => simp only [mE] at h; cases h
  | .bi f es, c, X, Y, G, k, ca, e, g, h => by
    cases e with
    | Call fn xs kw p =>
      simp only [mE] at h
      split at h
      · obtain ⟨h1, th2⟩ := ba h
        obtain ⟨h2, th3⟩ := ba th2
        obtain ⟨h3, th4⟩ := ba th3
        obtain ⟨h4, th5⟩ := ba th4
        obtain ⟨h5, th6⟩ := ba th5
        obtain ⟨h6, h7⟩ := ba th6
        cases (beq_iff_eq.mp h1)
        cases (kw_nil h4)
        have q := soundEs es c X Y G k ca xs g h7
        cases xs with
        | nil => cases h5
        | cons x xs => exact .of (se_bi g.calm g.gd g.un h2 (g.gl h3).1 (g.blt _ mem_biB) (pa_op q h6) h6) rfl
      · cases h
    | _ => simp only [mE] at h; cases h
  | .isi a ty, c, X, Y, G, k, ca, e, g, h => by
    cases e with
    | Call fn xs kw p =>
      simp only [mE] at h
      split at h
      · obtain ⟨h1, th2⟩ := ba h
        obtain ⟨h2, th3⟩ := ba th2
        obtain ⟨h3, th4⟩ := ba th3
        obtain ⟨h4, th5⟩ := ba th4
        obtain ⟨h5, th6⟩ := ba th5
        obtain ⟨h6, th7⟩ := ba th6
        obtain ⟨h7, h8⟩ := ba th7
        cases (beq_iff_eq.mp h1)
        cases (beq_iff_eq.mp h3)
        cases (kw_nil h6)
        exact .of (se_isi (g.gl h2).1 (g.blt _ (by simp [biB])) (g.gl h4).1 (g.blt _ (ty_biB h5)) h5 (soundE a c X Y G k ca _ g h8).1 h7) rfl
      · cases h
    | _ => simp only [mE] at h; cases h
  | .lc own t it ifs elt, c, X, Y, G, k, ca, e, g, h => by
    cases e with
    | ListComp el gs scope p =>
      simp only [mE] at h
      split at h
      · obtain ⟨h1, th2⟩ := ba h
        obtain ⟨h2, th3⟩ := ba th2
        obtain ⟨h3, th4⟩ := ba th3
        obtain ⟨h4, th5⟩ := ba th4
        obtain ⟨h5, th6⟩ := ba th5
        obtain ⟨h6, th7⟩ := ba th6
        obtain ⟨h7, h8⟩ := ba th7
        obtain ⟨h9, h7⟩ := ba h7
        cases (beq_iff_eq.mp h1)
        refine .of (se_lc g.calm g.nd (soundI it c X Y G k ca _ _ g h5) (blkOk_by (by rw [g.hN, g.sc]; exact h2)) (fun i hi => of_decide_eq_true (List.all_eq_true.mp h3 i hi)) (fun s H C cl fp => ?_) (fun s H C cl fp => ?_) (fun s H C cl fp => ?_) (folded_ok h4)) rfl
        · exact soundT t _ _ Y _ k ca _ (g.blk s H scope C cl fp) h6
        · exact tests_ok (soundEs ifs _ _ Y _ k ca _ (g.blk s H scope C cl fp) h7) h9
        · exact (soundE elt _ _ Y _ k ca _ (g.blk s H scope C cl fp) h8).1
      · cases h
    | _ => simp only [mE] at h; cases h
  | .mth m o es, c, X, Y, G, k, ca, e, g, h => by
    unfold mE at h
    split at h
    · split at h
      · split at h
        · obtain ⟨h1, t2⟩ := ba h
          obtain ⟨h2, t3⟩ := ba t2
          obtain ⟨h3, t4⟩ := ba t3
          obtain ⟨h4, t5⟩ := ba t4
          obtain ⟨h5, t6⟩ := ba t5
          obtain ⟨h6, h7⟩ := ba t6
          cases (beq_iff_eq.mp h1)
          cases (kw_nil h2)
          exact .of (se_append (soundE o c X Y G k ca _ g h3).1 (soundE _ c X Y G k ca _ g h4).1 h5 h6 h7) rfl
        · cases h
      · cases h
    · split at h
      · split at h
        · obtain ⟨h1, t2⟩ := ba h
          obtain ⟨h2, t3⟩ := ba t2
          obtain ⟨h3, t4⟩ := ba t3
          obtain ⟨h4, t5⟩ := ba t4
          obtain ⟨h5, t6⟩ := ba t5
          obtain ⟨h6, h7⟩ := ba t6
          cases (beq_iff_eq.mp h1)
          cases (kw_nil h2)
          exact .of (se_extend (soundE o c X Y G k ca _ g h3).1 (soundE _ c X Y G k ca _ g h4).1 h5 h6 h7) rfl
        · cases h
      · cases h
    · split at h
      · split at h
        · obtain ⟨h1, t2⟩ := ba h
          obtain ⟨h2, t3⟩ := ba t2
          obtain ⟨h3, t4⟩ := ba t3
          obtain ⟨h4, t5⟩ := ba t4
          obtain ⟨h5, t6⟩ := ba t5
          obtain ⟨h6, h7⟩ := ba t6
          cases (beq_iff_eq.mp h1)
          cases (kw_nil h2)
          exact .of (se_pop1 (soundE o c X Y G k ca _ g h3).1 (soundE _ c X Y G k ca _ g h4).1 h5 h6 h7) rfl
        · cases h
      · cases h
    · split at h
      · split at h
        · obtain ⟨h1, t2⟩ := ba h
          obtain ⟨h2, t3⟩ := ba t2
          obtain ⟨h3, t4⟩ := ba t3
          obtain ⟨h4, t5⟩ := ba t4
          obtain ⟨h5, t6⟩ := ba t5
          obtain ⟨h6, h7⟩ := ba t6
          cases (beq_iff_eq.mp h1)
          cases (kw_nil h2)
          exact .of (se_index (soundE o c X Y G k ca _ g h3).1 (soundE _ c X Y G k ca _ g h4).1 h5 h6 h7) rfl
        · cases h
      · cases h
    · split at h
      · split at h
        · obtain ⟨h1, t2⟩ := ba h
          obtain ⟨h2, t3⟩ := ba t2
          obtain ⟨h3, t4⟩ := ba t3
          obtain ⟨h5, h7⟩ := ba t4
          cases (beq_iff_eq.mp h1)
          cases (kw_nil h2)
          exact .of (se_pop0 (soundE o c X Y G k ca _ g h3).1 h5 h7) rfl
        · cases h
      · cases h
    · split at h
      · split at h
        · obtain ⟨h1, t2⟩ := ba h
          obtain ⟨h2, t3⟩ := ba t2
          obtain ⟨h3, t4⟩ := ba t3
          obtain ⟨h5, h7⟩ := ba t4
          cases (beq_iff_eq.mp h1)
          cases (kw_nil h2)
          exact .of (se_clear (soundE o c X Y G k ca _ g h3).1 h5 h7) rfl
        · cases h
      · cases h
    · cases h
  | .box a, c, X, Y, G, k, ca, e, g, h => by
    simp only [mE] at h
    obtain ⟨h1, h2⟩ := ba h
    exact .of (se_box (soundE a c X Y G k ca e g h2).1) h1
  | .fz a, c, X, Y, G, k, ca, e, g, h => by
    simp only [mE] at h
    obtain ⟨h1, h2⟩ := ba h
    exact .of (se_fz (soundE a c X Y G k ca e g h2).1) h1
  | .drp i a, c, X, Y, G, k, ca, e, g, h => by
    simp only [mE] at h
    obtain ⟨h1, h2⟩ := ba h
    exact .of (se_drp (soundE a c X Y G k ca e g h2).1) h1
theorem soundEs : ∀ (ss : List SE) (c : MC) (X : Cx) (Y : Ey) (G : Gm) (k : Nat) (ca : Str → Addr) (es : List Expr), Good X Y G c k ca → mEs ss c es = true → Paired (Snd X Y G) ss es
  | [], c, X, Y, G, k, ca, es, g, h => by
    simp only [mEs] at h
    have e := List.isEmpty_iff.mp h
    subst e
    exact .nil
  | s :: ss, c, X, Y, G, k, ca, es, g, h => by
    cases es with
    | nil => simp only [mEs] at h; cases h
    | cons e es =>
      simp only [mEs] at h
      obtain ⟨h1, h2⟩ := ba h
      exact .cons (soundE s c X Y G k ca e g h1) (soundEs ss c X Y G k ca es g h2)
theorem soundK : ∀ (ss : List SE) (c : MC) (X : Cx) (Y : Ey) (G : Gm) (k : Nat) (ca : Str → Addr) (kw : List Keyword), Good X Y G c k ca → mK ss c kw = true → PK X kw (tArL X.K Y G ss)
  | [], c, X, Y, G, k, ca, kw, g, h => by
    simp only [mK] at h
    have e := List.isEmpty_iff.mp h
    subst e
    exact pk_ar_nil
  | s :: ss, c, X, Y, G, k, ca, kw, g, h => by
    cases kw with
    | nil => simp only [mK] at h; cases h
    | cons q kw =>
      obtain ⟨nm, e, kp⟩ := q
      simp only [mK] at h
      obtain ⟨h1, h2⟩ := ba h
      exact pk_ar_cons (soundE s c X Y G k ca e g h1).1 (soundK ss c X Y G k ca kw g h2)
theorem soundO : ∀ (s : Option SE) (c : MC) (X : Cx) (Y : Ey) (G : Gm) (k : Nat) (ca : Str → Addr) (e : Option Expr), Good X Y G c k ca → mO s c e = true → PO X e (tOO X.K Y G s)
  | none, c, X, Y, G, k, ca, e, g, h => by
    simp only [mO] at h
    have e1 := Option.isNone_iff_eq_none.mp h
    subst e1
    exact po_o_none
  | some s, c, X, Y, G, k, ca, e, g, h => by
    cases e with
    | none => simp only [mO] at h; cases h
    | some e =>
      simp only [mO] at h
      exact po_o_some (soundE s c X Y G k ca e g h).1
theorem soundI : ∀ (it : SIt) (c : MC) (X : Cx) (Y : Ey) (G : Gm) (k : Nat) (ca : Str → Addr) (tg e : Expr), Good X Y G c k ca → mI it c tg e = true → PI X tg e (tI X.K Y G it)
  | .txt a, c, X, Y, G, k, ca, tg, e, g, h => by
    simp only [mI] at h
    exact si_txt (soundE a c X Y G k ca e g h).1
  | .of a, c, X, Y, G, k, ca, tg, e, g, h => by
    simp only [mI] at h
    exact si_of (soundE a c X Y G k ca e g h).1
  | .rng a, c, X, Y, G, k, ca, tg, e, g, h => by
    cases e with
    | Call fn xs kw p =>
      simp only [mI] at h
      split at h
      · obtain ⟨h1, th2⟩ := ba h
        obtain ⟨h2, th3⟩ := ba th2
        obtain ⟨h3, th4⟩ := ba th3
        obtain ⟨h4, h5⟩ := ba th4
        cases (beq_iff_eq.mp h1)
        cases (kw_nil h3)
        exact si_range1 (g.gl h2).1 (g.blt _ (by simp [biB])) (soundE a c X Y G k ca _ g h5).1 h4
      · cases h
    | _ => simp only [mI] at h; cases h
  | .rng2 a b, c, X, Y, G, k, ca, tg, e, g, h => by
    cases e with
    | Call fn xs kw p =>
      simp only [mI] at h
      split at h
      · obtain ⟨h1, th2⟩ := ba h
        obtain ⟨h2, th3⟩ := ba th2
        obtain ⟨h3, th4⟩ := ba th3
        obtain ⟨h4, th5⟩ := ba th4
        obtain ⟨h5, th6⟩ := ba th5
        obtain ⟨h6, h7⟩ := ba th6
        cases (beq_iff_eq.mp h1)
        cases (kw_nil h3)
        exact si_range2 (g.gl h2).1 (g.blt _ (by simp [biB])) (soundE a c X Y G k ca _ g h6).1 (soundE b c X Y G k ca _ g h7).1 h4 h5
      · cases h
    | _ => simp only [mI] at h; cases h
  | .zip es, c, X, Y, G, k, ca, tg, e, g, h => by
    cases e with
    | Call fn xs kw p =>
      simp only [mI] at h
      split at h
      · obtain ⟨h1, th2⟩ := ba h
        obtain ⟨h2, th3⟩ := ba th2
        obtain ⟨h3, th4⟩ := ba th3
        obtain ⟨h4, th5⟩ := ba th4
        obtain ⟨h5, th6⟩ := ba th5
        obtain ⟨h6, h7⟩ := ba th6
        cases (beq_iff_eq.mp h1)
        cases (kw_nil h3)
        cases tg with
        | Tuple elts kk tp => exact si_zip (g.gl h2).1 (g.blt _ (by simp [biB])) (pa_st (soundEs es c X Y G k ca _ g h7) (by simp [h4, h5])) h4 h5
        | _ => cases h6
      · cases h
    | _ => simp only [mI] at h; cases h
  | .enum es, c, X, Y, G, k, ca, tg, e, g, h => by
    cases e with
    | Call fn xs kw p =>
      simp only [mI] at h
      split at h
      · obtain ⟨h1, th2⟩ := ba h
        obtain ⟨h2, th3⟩ := ba th2
        obtain ⟨h3, th4⟩ := ba th3
        obtain ⟨h4, th5⟩ := ba th4
        obtain ⟨h5, h6⟩ := ba th5
        cases (beq_iff_eq.mp h1)
        cases (kw_nil h3)
        cases tg with
        | Tuple elts kk tp => exact si_enum (g.gl h2).1 (g.blt _ (by simp [biB])) (pa_st (soundEs es c X Y G k ca _ g h6) (by simp [h4])) h4
        | _ => cases h5
      · cases h
    | _ => simp only [mI] at h; cases h
end
end SL
/-! X7: the texts of except suites stand for theirs. -/
namespace SL
open PySem PySem.Spec PyProof.Rows L2
section
variable {X : Cx} {Y : Ey} {G : Gm} {c : MC} {k : Nat} {ca : Str → Addr} {i : Option Nat} {n : Option Str} {a : Addr} {cls : Value} {d : Option Addr} {oe : Obj} {pn : List (Addr × Obj)}
theorem hv_cst {v : SV} {q : Const} {j : Nat} {pos : Pos} (h : cstB v q = true) : PE X (.Constant q j pos) (tHv X.K Y ca i a cls d (.cst v)) := by
  unfold cstB at h
  split at h
  · cases (beq_iff_eq.mp h); exact hv_int
  · cases (beq_iff_eq.mp h); exact hv_bl
  · cases (beq_iff_eq.mp h); exact hv_str
  · exact hv_non
  · cases h
theorem any_x {l : List (Str × Option (Option Str))} {D : Str} (h : l.any (fun q => q.1 == D) = true) : ∃ fo, (D, fo) ∈ l := by
  obtain ⟨⟨m, fo⟩, hm, e⟩ := List.any_eq_true.mp h
  cases beq_iff_eq.mp e
  exact ⟨fo, hm⟩
theorem isCall_ok {m D : Str} {x : Expr} {j : Nat} (g : Good X Y G c k ca) (hz : Zc cls d oe) (hf : ∃ vs, oe.data = .fields vs) (hv' : c.vis j m = true) (h : isCall c m D x = true) : PE (X.suite a ((a, oe) :: pn)) x (tIs X.K Y ca (some j) a cls d D) ∧ plainTest x = true := by
  unfold isCall at h
  split at h
  · obtain ⟨h1, t⟩ := ba h
    obtain ⟨h2, t⟩ := ba t
    obtain ⟨h3, t⟩ := ba t
    obtain ⟨h4, t⟩ := ba t
    obtain ⟨h5, h6⟩ := ba t
    cases beq_iff_eq.mp h1
    cases beq_iff_eq.mp h2
    cases beq_iff_eq.mp h3
    cases List.isEmpty_iff.mp h4
    obtain ⟨v1, v2, v3, v4⟩ := g.vis hv'
    obtain ⟨h7, h8⟩ := ba h6
    obtain ⟨gl, gd⟩ := g.gl h7
    refine ⟨?_, rfl⟩
    rcases Bool.or_eq_true_iff.mp h8 with q | q
    · obtain ⟨fo, hm⟩ := any_x q
      have o := g.xok _ fo hm
      refine hv_is (cv := .ref (ca _)) (cu := .ref (ca _)) hz hf v1 v2 v3 v4 (g.gl h5).1 (g.blt _ (by simp [biB])) (pe_glob gl o.mg rfl gd) (fun u r => r) fun C m' T => ?_
      rw [o.ga]
      exact T.kt _ o.nm o.hd
    · rcases Bool.or_eq_true_iff.mp q with q | q
      · cases beq_iff_eq.mp q
        exact hv_is (cv := .ty "ValueError") (cu := .type "ValueError") hz hf v1 v2 v3 v4 (g.gl h5).1 (g.blt _ (by simp [biB])) (pe_bltn gl (g.blt _ (by simp [biB])) PyProof.Rows.Boot.«ValueError» rfl (by decide) (by decide)) (fun u r => r) fun C m' T => T.kb _ (by simp)
      · cases beq_iff_eq.mp q
        exact hv_is (cv := .ty "LookupError") (cu := .type "LookupError") hz hf v1 v2 v3 v4 (g.gl h5).1 (g.blt _ (by simp [biB])) (pe_bltn gl (g.blt _ (by simp [biB])) PyProof.Rows.Boot.«LookupError» rfl (by decide) (by decide)) (fun u r => r) fun C m' T => T.kb _ (by simp)
  · cases h
theorem soundHE (g : Good X Y G c k ca) (hz : Zc cls d oe) (hf : ∃ vs, oe.data = .fields vs) : ∀ (he : HE) (x : Expr), mHE c i n he x = true → PE (X.suite a ((a, oe) :: pn)) x (tHv X.K Y ca i a cls d he)
  | .cst v, x, h => by
    cases x with
    | Constant q j p => simp only [mHE] at h; exact hv_cst h
    | _ => simp only [mHE] at h; cases h
  | .fld f, x, h => by
    simp only [mHE] at h
    split at h
    · obtain ⟨h1, t⟩ := ba h
      obtain ⟨h2, t⟩ := ba t
      obtain ⟨h3, h4⟩ := ba t
      cases beq_iff_eq.mp h1
      cases beq_iff_eq.mp h3
      obtain ⟨v1, v2, v3, v4⟩ := g.vis h2
      exact hv_fld hz hf v1 v2 v3 v4 (List.contains_iff_mem.mp h4)
    · cases h
  | .pair u v, x, h => by
    simp only [mHE] at h
    split at h
    · obtain ⟨h1, t⟩ := ba h
      obtain ⟨h2, t⟩ := ba t
      obtain ⟨h3, h4⟩ := ba t
      exact hv_pair (X := X.suite a ((a, oe) :: pn)) (soundHE g hz hf u _ h3) (soundHE g hz hf v _ h4) h1 h2
    · cases h
  | .isi A B t f, x, h => by
    simp only [mHE] at h
    split at h
    · obtain ⟨h1, t⟩ := ba h
      obtain ⟨h2, t⟩ := ba t
      obtain ⟨h3, t⟩ := ba t
      obtain ⟨h4, h5⟩ := ba t
      obtain ⟨q1, q2⟩ := isCall_ok g hz hf h1 h2
      obtain ⟨q3, q4⟩ := isCall_ok g hz hf h1 h3
      exact hv_isi (X := X.suite a ((a, oe) :: pn)) q1 q3 q2 q4 (hv_cst h4) (hv_cst h5)
    · cases h
theorem cst_cstV {v : SV} {q : Const} (h : cstB v q = true) : cstV v = true := by
  unfold cstB at h
  split at h <;> first | rfl | cases h
theorem soundHS (g : Good X Y G c k ca) (hz : Zc cls d oe) (hf : ∃ vs, oe.data = .fields vs) : ∀ (z : HS) (st : Stmt), mHS c i n z st = true → PS (X.suite a ((a, oe) :: pn)) st (tHs X.K Y ca i z a cls d)
  | .ret e, st, h => by
    simp only [mHS] at h
    split at h
    · exact hs_ret (X := X.suite a ((a, oe) :: pn)) (soundHE g hz hf e _ h)
    · cases h
  | .asg j e, st, h => by
    simp only [mHS] at h
    split at h
    · obtain ⟨h1, t⟩ := ba h
      obtain ⟨h2, h3⟩ := ba t
      exact hs_asg (X := X.suite a ((a, oe) :: pn)) (soundHE g hz hf e _ h1) g.nd (g.tgN h2) (g.tg _ _ h2).1 (g.tg _ _ h2).2 (noSwap h3)
    · cases h
  | .app j v, st, h => by
    simp only [mHS] at h
    split at h
    · obtain ⟨h1, t⟩ := ba h
      obtain ⟨h2, t⟩ := ba t
      obtain ⟨h3, t⟩ := ba t
      obtain ⟨h4, h5⟩ := ba t
      cases beq_iff_eq.mp h1
      cases List.isEmpty_iff.mp h4
      obtain ⟨v1, v2, v3, v4⟩ := g.vis h2
      refine hs_app (X := X.suite a ((a, oe) :: pn)) (G := G) (cst_cstV h3) (s_exp (se_append (se_var v1 v2 v3 v4) ?_ rfl rfl h5) rfl)
      unfold cstB at h3
      split at h3
      · cases (beq_iff_eq.mp h3); exact se_int
      · cases (beq_iff_eq.mp h3); exact se_bl
      · cases (beq_iff_eq.mp h3); exact se_str
      · exact se_non
      · cases h3
    · cases h
theorem ps_one {z : Suite} {st : Stmt} {a : Addr} {cls : Value} {d : Option Addr} {X : Cx} (h : PS X st (z a cls d)) (hm : ∀ D σ H, z a cls d D σ H → z a cls d { D with nx := fun σ H => D.nx σ H } σ H) : PSs X [st] (z a cls d) :=
  PSs.imp (pss_cons h pss_nil) fun D σ H w => w
theorem nmB_ok (g : Good X Y G c k ca) (h : nmB c i n = true) : nmOk X i n ∧ ∀ j, i = some j → j < X.N.length := by
  cases i with
  | none =>
    cases n with
    | none => exact ⟨trivial, fun _ e => nomatch e⟩
    | some n => cases h
  | some i =>
    cases n with
    | none => cases h
    | some n =>
      obtain ⟨h7, h8⟩ := ba (show (c.N[i]? == some n && c.sc.names.lookup n == some .local) = true from h)
      have e1 := beq_iff_eq.mp h7
      refine ⟨⟨by rw [g.hN]; exact e1, by show X.env.scope.names.lookup n = _; rw [g.sc]; exact beq_iff_eq.mp h8⟩, fun j e => ?_⟩
      cases e
      rw [g.hN]
      exact (List.getElem?_eq_some_iff.mp e1).1
theorem soundHds (g : Good X Y G c k ca) : ∀ (hs : List Hd) (l : List ExceptHandler), mHds c hs l = true → HdL X l (hdVals X Y ca hs) ∧ ∀ q ∈ hs, XOk X ca q.c ∧ ∀ i, q.i = some i → i < X.N.length
  | [], l, h => by
    simp only [mHds] at h
    cases List.isEmpty_iff.mp h
    exact ⟨.nil, fun q hq => nomatch hq⟩
  | q :: hs, l, h => by
    simp only [mHds] at h
    split at h
    · obtain ⟨h1, t⟩ := ba h
      obtain ⟨h2, t⟩ := ba t
      obtain ⟨h3, t⟩ := ba t
      obtain ⟨h4, t⟩ := ba t
      obtain ⟨h5, h6⟩ := ba t
      cases beq_iff_eq.mp h1
      obtain ⟨r1, r2⟩ := soundHds g hs _ h6
      obtain ⟨fo, hm⟩ := any_x h3
      have o := g.xok _ fo hm
      obtain ⟨gl, gd⟩ := g.gl h2
      obtain ⟨n1, n2⟩ := nmB_ok g h4
      refine ⟨.cons ⟨gl, gd, .inl o.mg⟩ n1 (fun a oe cls d pn hz hf => ps_one (z := tHs X.K Y ca q.i q.s) (soundHS g hz hf q.s _ h5) fun _ _ _ w => w) r1, fun q' hq => ?_⟩
      rcases List.mem_cons.mp hq with e | hq
      · subst e
        exact ⟨o, n2⟩
      · exact r2 q' hq
    · cases h
end
end SL
/-! S17: a text that stands for statements keeps its reading. -/
namespace SL
open PySem PySem.Spec L2
/-- the sole store is exchanged with the comprehension's end -/
def swB (c : MC) (y : Str) (py pos : Pos) (scope : Scope) : Bool := (c.sc.names.lookup y == some .local && py.line == pos.line) && !(scope.names.any fun (n, k) => n == y && (k == .local || k == .cell))
def isFn (c : MC) : Bool := match c.sc.kind with
  | .function => true
  | _ => false
/-- no exchange of stores -/
def cellN (sc : Scope) (t : Expr) : Bool := match t with
  | .Name x _ => sc.names.lookup x == some .cell
  | _ => false
def swNo (sc : Scope) (ts : List Expr) (e : Expr) : Bool := match e with
  | .Tuple vs _ _ => !(ts.length == 2 || ts.length == 3) || (vs.all (foldedForSure 8) || ts.any (cellN sc))
  | _ => true
def stB (c : MC) : Nat → Nat → List Nat → List Expr → Bool
  | _, _, [], es => es.isEmpty
  | k, i, t :: ts, es => (match es with
    | e :: es => (match e with
      | .Starred u _ => k == i && mT c (.nm t) u
      | u => !(k == i) && mT c (.nm t) u) && stB c (k + 1) i ts es
    | [] => false)
mutual
def mS : SS → MC → Stmt → Bool
  | .ust ts i e, c, s => (match s with
    | .Assign [.Tuple es _ _] v _ => mE e c v && (stB c 0 i ts es && (notTup v && decide (i < ts.length)))
    | _ => false)
  | .asg t e, c, s => (match s with
    | .Assign tgs v pos => (match tgs with
      | [.Name x px] => (match t with
        | .nm i => mE e c v && (c.tgt i x && (match v with
          | .ListComp el gs scope p => isFn c && (match e with
            | .lc own t' it ifs elt => true
            | _ => false)
          | .SetComp _ _ _ _ => false
          | .DictComp _ _ _ _ _ => false
          | _ => true))
        | _ => false)
      | [.Tuple es k p] => (match t with
        | .tup ts => mE e c v && (mT c (.tup ts) (.Tuple es k p) && swNo c.sc es v)
        | _ => false)
      | _ => false)
    | _ => false)
  | .par i j a b, c, s => (match s with
    | .Assign [.Tuple [.Name x px, .Name y py] _ _] (.Tuple [u, v] _ _) _ => c.N[i]? == some x && (c.N[j]? == some y && (!(i == j) && (c.sc.names.lookup x == some .local && (c.sc.names.lookup y == some .local && (mE a c u && (mE b c v && (isFn c && (py.line == px.line && (!(y == x) && (notStar u && (notStar v && (!([u, v].all (foldedForSure 8)) && !([u, v].all (constantsAlone 8))))))))))))))
    | _ => false)
  | .par3 i j l a b d, c, s => (match s with
    | .Assign [.Tuple [.Name x px, .Name y py, .Name z pz] _ _] (.Tuple [u, v, w] _ _) _ => (c.N[i]? == some x && (c.N[j]? == some y && c.N[l]? == some z)) && ((!(i == j) && (!(i == l) && !(j == l))) && ((c.sc.names.lookup x == some .local && (c.sc.names.lookup y == some .local && c.sc.names.lookup z == some .local)) && ((mE a c u && (mE b c v && mE d c w)) && (isFn c && ((py.line == px.line && pz.line == px.line) && ((!(y == x) && (!(z == x) && !(z == y))) && ((notStar u && (notStar v && notStar w)) && (!([u, v, w].all (foldedForSure 8)) && !([u, v, w].all (constantsAlone 8))))))))))
    | _ => false)
  | .asub o i e, c, s => (match s with
    | .Assign [.Subscript x y _] v _ => mE e c v && (mE o c x && (mE i c y && notSlice y))
    | _ => false)
  | .exp e, c, s => (match s with
    | .Expr v _ => mE e c v && notComp v
    | _ => false)
  | .ret e, c, s => (match s with
    | .Return (some v) _ => mE e c v
    | _ => false)
  | .ret0, c, s => (match s with
    | .Return none _ => true
    | _ => false)
  | .ife d a b, c, s => (match s with
    | .If v p q _ => mE d c v && (notIfe v && (mSs a c p && mSs b c q))
    | _ => false)
  | .for t it b, c, s => (match s with
    | .For tg iter p [] _ => mI it c tg iter && (mT c t tg && (mSs b c p && notSet iter))
    | _ => false)
  | .whl d b, c, s => (match s with
    | .While v p [] _ => mE d c v && (notIfe v && mSs b c p)
    | _ => false)
  | .aug i op e, c, s => (match s with
    | .AugAssign (.Name x _) o v _ => c.tgt i x && (mE e c v && (op == o && (op == .Add || (op == .Sub || op == .BitOr))))
    | _ => false)
  | .brk, c, s => (match s with
    | .Break _ => true
    | _ => false)
  | .cont, c, s => (match s with
    | .Continue _ => true
    | _ => false)
  | .pass, c, s => (match s with
    | .Pass _ => true
    | _ => false)
  | .aset C a f e, c, s => (match s with
    | .Assign [.Attribute x n _] v _ => n == f && (decide ((C, f) ∈ c.defs.of) && (notComp v && (mE a c x && mE e c v)))
    | _ => false)
  | .rais C f, c, s => (match s with
    | .Raise (some (.Call (.Name y _) xs kw _)) none _ => y == C && (c.gl C && (kw.isEmpty && (match f, xs with
      | none, [] => decide ((C, some none) ∈ c.defs.x)
      | some (g, e), [x] => decide ((C, some (some g)) ∈ c.defs.x) && (mE e c x && notStar x)
      | _, _ => false)))
    | _ => false)
  | .try b hs, c, s => (match s with
    | .Try body (h₀ :: hds) [] [] _ => c.own.isNone && (mSs b c body && mHds c hs (h₀ :: hds))
    | _ => false)
def mSs : List SS → MC → List Stmt → Bool
  | [], c, ss => ss.isEmpty
  | z :: zs, c, ss => (match ss with
    | s :: ss => mS z c s && mSs zs c ss
    | [] => false)
end
section
variable {X : Cx} {Y : Ey} {G : Gm} {c : MC} {k : Nat} {ca : Str → Addr}
theorem fnKind (g : Good X Y G c k ca) (h : isFn c = true) : X.env.scope.kind = .function := by
  rw [g.sc]
  unfold isFn at h
  split at h
  · assumption
  · cases h
theorem swLc {elt : Expr} {gs : List Comprehension} {scope : Scope} {pos py : Pos} {y : Str} {l : Nat} (g : Good X Y G c k ca) (h : isFn c = true) : swapsWith (.ListComp elt gs scope pos) (some (.Name y py)) l X.env = pure (swB c y py pos scope) := by
  have hk := fnKind g h
  have hb : X.env.blockKind = .function := by unfold Env.blockKind; rw [hk]; rfl
  have ky : X.env.kindOf y = c.sc.names.lookup y := by rw [← g.sc]; rfl
  unfold swapsWith swB
  simp only [hb, ky, Expr.pos]
  rfl
theorem fm_lt {sc : Scope} {f : Expr → Option Str} (hf : ∀ t, cellN sc t = true → f t = none) : ∀ {ts : List Expr}, ts.any (cellN sc) = true → (ts.filterMap f).length ≠ ts.length
  | [], h => by cases h
  | t :: ts, h => by
    have le : (ts.filterMap f).length ≤ ts.length := List.length_filterMap_le _ _
    rw [List.any_cons, Bool.or_eq_true] at h
    rcases h with h | h
    · rw [List.filterMap_cons_none (hf t h), List.length_cons]; omega
    · have ih := fm_lt (ts := ts) hf h
      cases e : f t with
      | none => rw [List.filterMap_cons_none e, List.length_cons]; omega
      | some b => rw [List.filterMap_cons_some e, List.length_cons, List.length_cons]; omega
theorem swNone {sc : Scope} {es : List Expr} {kt : Nat} {p : Pos} {v : Expr} {env : Env} (hs : env.scope = sc) (h : swNo sc es v = true) : swappedStores [.Tuple es kt p] v env = pure none := by
  by_cases hv : notTup v = true
  · exact noStores hv
  · cases v with
    | Tuple vs k2 p2 =>
      simp only [swNo] at h
      unfold swappedStores
      simp only
      by_cases h1 : (!(es.length == 2 || es.length == 3)) = true
      · rw [h1]; rfl
      · rw [Bool.not_eq_true] at h1
        rw [h1, Bool.false_or, Bool.or_eq_true] at h
        rcases h with h3 | h3
        · split
          · rfl
          · split
            · rfl
            · split
              · rfl
              · rfl
        · have hn := fm_lt (f := fun
            | .Name id pos => if env.kindOf id == some .local && pos.line == ((es.head?.map (·.pos.line)).getD 0) then some id else none
            | _ => none) (fun t ht => by
              unfold cellN at ht
              split at ht
              · rename_i x pos
                have hk : env.kindOf x = some .cell := by
                  unfold Env.kindOf; rw [hs]; exact beq_iff_eq.mp ht
                simp [hk]
              · cases ht) h3
          split
          · rfl
          · split
            · rfl
            · split
              · rfl
              · rename_i hh
                exfalso
                apply hh
                rw [Bool.or_eq_true]
                exact Or.inl (bne_iff_ne.mpr hn)
    | _ => exact absurd rfl hv
/-- a comprehension that an assignment to one name takes -/
theorem lc_asg {i : Nat} {y : Str} {py spos p : Pos} {el : Expr} {gs : List Comprehension} {scope : Scope} {own : List (Str × Nat)} {t : STg} {it : SIt} {ifs : List SE} {elt : SE} (g : Good X Y G c k ca) (hf : isFn c = true) (ht : c.tgt i y = true) (h : mE (.lc own t it ifs elt) c (.ListComp el gs scope p) = true) :
    PS X (.Assign [.Name y py] (.ListComp el gs scope p) spos) (tS X.K Y G (.asg (.nm i) (.lc own t it ifs elt))) := by
  have sw := swLc (elt := el) (gs := gs) (scope := scope) (pos := p) (py := py) (y := y) (l := spos.line) g hf
  cases hb : swB c y py p scope with
  | false =>
    rw [hb] at sw
    exact s_asgn g.nd (g.tgN ht) (g.tg i y ht).1 (g.tg i y ht).2 (soundE _ c X Y G k ca _ g h).1 sw
  | true =>
    rw [hb] at sw
    unfold swB at hb
    have hl := (ba (ba hb).1).1
    simp only [mE] at h
    split at h
    · obtain ⟨h1, t2⟩ := ba h
      obtain ⟨h2, t3⟩ := ba t2
      obtain ⟨h3, t4⟩ := ba t3
      obtain ⟨h4, t5⟩ := ba t4
      obtain ⟨h5, t6⟩ := ba t5
      obtain ⟨h6, t7⟩ := ba t6
      obtain ⟨t8, h8⟩ := ba t7
      obtain ⟨h9, h7⟩ := ba t8
      cases (beq_iff_eq.mp h1)
      refine s_asgLc g.calm g.nd (g.tgN ht) (by rw [g.sc]; exact beq_iff_eq.mp hl) sw (soundI it c X Y G k ca _ _ g h5) (blkOk_by (by rw [g.hN, g.sc]; exact h2)) (fun i hi => of_decide_eq_true (List.all_eq_true.mp h3 i hi)) (fun s H C cl fp => ?_) (fun s H C cl fp => ?_) (fun s H C cl fp => ?_) (folded_ok h4)
      · exact soundT t _ _ Y _ k ca _ (g.blk s H scope C cl fp) h6
      · exact tests_ok (soundEs ifs _ _ Y _ k ca _ (g.blk s H scope C cl fp) h7) h9
      · exact (soundE elt _ _ Y _ k ca _ (g.blk s H scope C cl fp) h8).1
    · cases h
end
theorem sgs_star {X : Cx} {Y : Ey} {e : Expr} {p : Pos} {es : List Expr} {t : STg} {ts : List STg} (h1 : PG X e (tG X.K Y t)) (h2 : PGs X es (tGs X.K Y ts)) : PGs X (.Starred e p :: es) (tGs X.K Y (t :: ts)) := by
  refine PGs.imp (pgs_star h1 h2) fun vs σ H Q ⟨ds, δ, h, Z, C, rel, r, hl, w, f⟩ => ?_
  cases ds with
  | nil => cases hl
  | cons d ds =>
    obtain ⟨v, vr, rfl, r1, r2⟩ := r.cons_inv
    simp only [tgsS] at w
    refine ⟨v, vr, rfl, d, δ, h, Z, _, rel, r1, w, ?_⟩
    intro δ1 σ1 w1 rel1 o1 p1
    exact ⟨ds, δ1, h, Z, _, rel1, r2, by simpa using hl, w1, fun δ2 σ2 w2 rel2 o2 p2 => f _ _ w2 rel2 (o1.trans o2) (p1.trans p2)⟩
theorem st_ok {c : MC} {X : Cx} {Y : Ey} {G : Gm} {kk : Nat} {ca : Str → Addr} (g : Good X Y G c kk ca) : ∀ (ts : List Nat) (es : List Expr) (k i : Nat), stB c k i ts es = true → PGs X es (tGs X.K Y (ts.map .nm)) ∧ es.length = ts.length ∧ (k ≤ i → i < k + ts.length → (assignEach es X.env).findIdx? (·.1) = some (i - k))
  | [], es, k, i, h => by
    simp only [stB] at h
    cases (List.isEmpty_iff.mp h)
    exact ⟨sgs_nil, rfl, fun a b => by simp at b; omega⟩
  | t :: ts, es, k, i, h => by
    cases es with
    | nil => simp only [stB] at h; cases h
    | cons e es =>
      simp only [stB] at h
      obtain ⟨h1, h2⟩ := ba h
      obtain ⟨q1, q2, q3⟩ := st_ok g ts es (k + 1) i h2
      split at h1
      · obtain ⟨h3, h4⟩ := ba h1
        obtain rfl : k = i := beq_iff_eq.mp h3
        refine ⟨sgs_star (soundT _ c X Y G kk ca _ g h4) q1, by simp [q2], fun _ _ => ?_⟩
        show List.findIdx? _ ((true, _) :: _) = _
        rw [List.findIdx?_cons]
        simp
      · rename_i ns
        obtain ⟨h3, h4⟩ := ba h1
        have ne : k ≠ i := fun z => by subst z; simp at h3
        have ns' : notStar e = true := by
          cases e <;> first | rfl | exact absurd rfl (ns _ _)
        refine ⟨sgs_cons (soundT _ c X Y G kk ca _ g h4) q1 ns', by simp [q2], fun a b => ?_⟩
        rw [each_cons ns', List.findIdx?_cons]
        have q := q3 (by omega) (by simp at b; omega)
        rw [q]
        simp
        omega
mutual
theorem soundS : ∀ (z : SS) (c : MC) (X : Cx) (Y : Ey) (G : Gm) (k : Nat) (ca : Str → Addr) (s : Stmt), Good X Y G c k ca → mS z c s = true → PS X s (tS X.K Y G z)
  | .ust ts i e, c, X, Y, G, k, ca, s, g, h => by
    unfold mS at h
    split at h
    · obtain ⟨h1, t⟩ := ba h
      obtain ⟨h2, t⟩ := ba t
      obtain ⟨h3, h4⟩ := ba t
      obtain ⟨q1, q2, q3⟩ := st_ok g ts _ 0 i h2
      exact s_ust g.calm q1 q2 (q3 (Nat.zero_le _) (by have := of_decide_eq_true h4; omega)) (soundE e c X Y G k ca _ g h1).1 (noStores h3)
    · cases h
  | .asg t e, c, X, Y, G, k, ca, s, g, h => by
    unfold mS at h
    split at h
    · split at h
      · split at h
        · obtain ⟨h1, t2⟩ := ba h
          obtain ⟨h2, h3⟩ := ba t2
          split at h3
          · obtain ⟨h4, h5⟩ := ba h3
            split at h5
            · exact lc_asg g h4 h2 h1
            · cases h5
          · cases h3
          · cases h3
          · rename_i n1 n2 n3
            refine s_asgn g.nd (g.tgN h2) (g.tg _ _ h2).1 (g.tg _ _ h2).2 (soundE e c X Y G k ca _ g h1).1 (noSwap ?_)
            unfold notComp
            split
            · exact absurd rfl (n1 _ _ _ _)
            · exact absurd rfl (n2 _ _ _ _)
            · exact absurd rfl (n3 _ _ _ _ _)
            · rfl
        · cases h
      · split at h
        · obtain ⟨h1, t2⟩ := ba h
          obtain ⟨h2, h3⟩ := ba t2
          exact s_asgt (soundT _ c X Y G k ca _ g h2) (soundE e c X Y G k ca _ g h1).1 (swNone g.sc h3)
        · cases h
      · cases h
    · cases h
  | .par i j a b, c, X, Y, G, k, ca, s, g, h => by
    unfold mS at h
    split at h
    · obtain ⟨h1, t2⟩ := ba h
      obtain ⟨h2, t3⟩ := ba t2
      obtain ⟨h3, t4⟩ := ba t3
      obtain ⟨h4, t5⟩ := ba t4
      obtain ⟨h5, t6⟩ := ba t5
      obtain ⟨h6, t7⟩ := ba t6
      obtain ⟨h7, t8⟩ := ba t7
      obtain ⟨h8, t9⟩ := ba t8
      obtain ⟨h9, t10⟩ := ba t9
      obtain ⟨h10, t11⟩ := ba t10
      obtain ⟨h11, t12⟩ := ba t11
      obtain ⟨h12, t13⟩ := ba t12
      obtain ⟨h13, h14⟩ := ba t13
      have hx := beq_iff_eq.mp h4
      have hy := beq_iff_eq.mp h5
      rw [← g.sc] at hx hy
      refine s_par g.calm g.nd (by rw [g.hN]; exact beq_iff_eq.mp h1) (by rw [g.hN]; exact beq_iff_eq.mp h2) (by simpa using h3) hx hy (pa_st (.cons (soundE a c X Y G k ca _ g h6) (.cons (soundE b c X Y G k ca _ g h7) .nil)) (by simp [h11, h12])) ?_
      exact stores2 (fnKind g h8) hx hy h9 (by simpa using h10) h11 h12 (by rwa [Bool.not_eq_true'] at h13) (by rwa [Bool.not_eq_true'] at h14)
    · cases h
  | .par3 i j l a b d, c, X, Y, G, k, ca, s, g, h => by
    unfold mS at h
    split at h
    · obtain ⟨n1, h⟩ := ba h
      obtain ⟨n2, h⟩ := ba h
      obtain ⟨n3, h⟩ := ba h
      obtain ⟨n4, h⟩ := ba h
      obtain ⟨n5, h⟩ := ba h
      obtain ⟨n6, h⟩ := ba h
      obtain ⟨n7, h⟩ := ba h
      obtain ⟨n8, n9⟩ := ba h
      obtain ⟨a1, a2⟩ := ba n1
      obtain ⟨a2, a3⟩ := ba a2
      obtain ⟨b1, b2⟩ := ba n2
      obtain ⟨b2, b3⟩ := ba b2
      obtain ⟨c1, c2⟩ := ba n3
      obtain ⟨c2, c3⟩ := ba c2
      obtain ⟨d1, d2⟩ := ba n4
      obtain ⟨d2, d3⟩ := ba d2
      obtain ⟨l1, l2⟩ := ba n6
      obtain ⟨m1, m2⟩ := ba n7
      obtain ⟨m2, m3⟩ := ba m2
      obtain ⟨s1, s2⟩ := ba n8
      obtain ⟨s2, s3⟩ := ba s2
      obtain ⟨f1, f2⟩ := ba n9
      have hx := beq_iff_eq.mp c1
      have hy := beq_iff_eq.mp c2
      have hz := beq_iff_eq.mp c3
      rw [← g.sc] at hx hy hz
      refine s_par3 g.calm g.nd (by rw [g.hN]; exact beq_iff_eq.mp a1) (by rw [g.hN]; exact beq_iff_eq.mp a2) (by rw [g.hN]; exact beq_iff_eq.mp a3) (by simpa using b1) (by simpa using b2) (by simpa using b3) hx hy hz (pa_st (.cons (soundE a c X Y G k ca _ g d1) (.cons (soundE b c X Y G k ca _ g d2) (.cons (soundE d c X Y G k ca _ g d3) .nil))) (by simp [s1, s2, s3])) ?_
      exact stores3 (fnKind g n5) hx hy hz l1 l2 (by simpa using m1) (by simpa using m2) (by simpa using m3) s1 s2 s3 (by rwa [Bool.not_eq_true'] at f1) (by rwa [Bool.not_eq_true'] at f2)
    · cases h
  | .asub o i e, c, X, Y, G, k, ca, s, g, h => by
    unfold mS at h
    split at h
    · obtain ⟨h1, t2⟩ := ba h
      obtain ⟨h2, t3⟩ := ba t2
      obtain ⟨h3, h4⟩ := ba t3
      exact s_asub (soundE e c X Y G k ca _ g h1).1 (soundE o c X Y G k ca _ g h2).1 (soundE i c X Y G k ca _ g h3).1 (by have := g.un; omega) h4
    · cases h
  | .exp e, c, X, Y, G, k, ca, s, g, h => by
    unfold mS at h
    split at h
    · obtain ⟨h1, h2⟩ := ba h
      exact s_exp (soundE e c X Y G k ca _ g h1).1 h2
    · cases h
  | .ret e, c, X, Y, G, k, ca, s, g, h => by
    unfold mS at h
    split at h
    · exact s_ret (soundE e c X Y G k ca _ g h).1
    · cases h
  | .ret0, c, X, Y, G, k, ca, s, g, h => by
    unfold mS at h
    split at h
    · exact s_ret0
    · cases h
  | .ife d a b, c, X, Y, G, k, ca, s, g, h => by
    unfold mS at h
    split at h
    · obtain ⟨h1, t2⟩ := ba h
      obtain ⟨h2, t3⟩ := ba t2
      obtain ⟨h3, h4⟩ := ba t3
      exact s_ife ((soundE d c X Y G k ca _ g h1).2 h2) (soundSs a c X Y G k ca _ g h3) (soundSs b c X Y G k ca _ g h4)
    · cases h
  | .for t it b, c, X, Y, G, k, ca, s, g, h => by
    unfold mS at h
    split at h
    · obtain ⟨h1, t2⟩ := ba h
      obtain ⟨h2, t3⟩ := ba t2
      obtain ⟨h3, h4⟩ := ba t3
      exact s_for g.po g.calm (soundI it c X Y G k ca _ _ g h1) (soundT t c X Y G k ca _ g h2) (soundSs b c X Y G k ca _ g h3) (folded_ok h4)
    · cases h
  | .whl d b, c, X, Y, G, k, ca, s, g, h => by
    unfold mS at h
    split at h
    · obtain ⟨h1, t2⟩ := ba h
      obtain ⟨h2, h3⟩ := ba t2
      exact s_whl g.po ((soundE d c X Y G k ca _ g h1).2 h2) (soundSs b c X Y G k ca _ g h3)
    · cases h
  | .aug i op e, c, X, Y, G, k, ca, s, g, h => by
    unfold mS at h
    split at h
    · obtain ⟨h1, t2⟩ := ba h
      obtain ⟨h2, t3⟩ := ba t2
      obtain ⟨h3, h4⟩ := ba t3
      cases (beq_iff_eq.mp h3)
      exact s_aug g.nd (g.tgN h1) (g.tg _ _ h1).1 (g.tg _ _ h1).2 (soundE e c X Y G k ca _ g h2).1 (by simpa using h4)
    · cases h
  | .brk, c, X, Y, G, k, ca, s, g, h => by
    unfold mS at h
    split at h
    · exact s_brk
    · cases h
  | .cont, c, X, Y, G, k, ca, s, g, h => by
    unfold mS at h
    split at h
    · exact s_cont
    · cases h
  | .pass, c, X, Y, G, k, ca, s, g, h => by
    unfold mS at h
    split at h
    · exact s_pass
    · cases h
  | .aset C a f e, c, X, Y, G, k, ca, s, g, h => by
    unfold mS at h
    split at h
    · obtain ⟨h1, t⟩ := ba h
      obtain ⟨h2, t⟩ := ba t
      obtain ⟨h3, t⟩ := ba t
      obtain ⟨h4, h5⟩ := ba t
      cases beq_iff_eq.mp h1
      obtain ⟨q1, q2⟩ := g.oat _ _ (of_decide_eq_true h2)
      exact s_aset q1 q2 (soundE a c X Y G k ca _ g h4).1 (soundE e c X Y G k ca _ g h5).1 (noSwap h3)
    · cases h
  | .rais C f, c, X, Y, G, k, ca, s, g, h => by
    unfold mS at h
    split at h
    · obtain ⟨h1, t⟩ := ba h
      obtain ⟨h2, t⟩ := ba t
      obtain ⟨h3, h4⟩ := ba t
      cases beq_iff_eq.mp h1
      cases List.isEmpty_iff.mp h3
      obtain ⟨gl, gd⟩ := g.gl h2
      split at h4
      · have hm := of_decide_eq_true h4
        exact s_rais0 (g.xok _ _ hm) (g.xin _ _ hm) g.calm g.room g.tk gl gd
      · obtain ⟨h5, t⟩ := ba h4
        obtain ⟨h6, h7⟩ := ba t
        have hm := of_decide_eq_true h5
        exact s_rais1 (g.xok _ _ hm) (g.xin _ _ hm) g.calm g.room g.tk gl gd (soundE _ c X Y G k ca _ g h6).1 h7
      · cases h4
    · cases h
  | .try b hs, c, X, Y, G, k, ca, s, g, h => by
    unfold mS at h
    split at h
    · obtain ⟨h1, t⟩ := ba h
      obtain ⟨h2, h3⟩ := ba t
      obtain ⟨f1, f2⟩ := g.fr (Option.isNone_iff_eq_none.mp h1)
      obtain ⟨q1, q2⟩ := soundHds g hs _ h3
      exact s_try f1 f2 g.nd g.tk (fun Y' xp pn xe tk po => soundSs b c (X.tr pn xe) Y' { G with xp := xp } k ca _ (g.tr tk po) h2) q1 q2
    · cases h
theorem soundSs : ∀ (zs : List SS) (c : MC) (X : Cx) (Y : Ey) (G : Gm) (k : Nat) (ca : Str → Addr) (ss : List Stmt), Good X Y G c k ca → mSs zs c ss = true → PSs X ss (tSs X.K Y G zs)
  | [], c, X, Y, G, k, ca, ss, g, h => by
    simp only [mSs] at h
    have e := List.isEmpty_iff.mp h
    subst e
    exact ss_nil
  | z :: zs, c, X, Y, G, k, ca, ss, g, h => by
    cases ss with
    | nil => simp only [mSs] at h; cases h
    | cons s ss =>
      simp only [mSs] at h
      obtain ⟨h1, h2⟩ := ba h
      exact ss_cons (soundS z c X Y G k ca s g h1) (soundSs zs c X Y G k ca ss g h2)
end
end SL
/-! S18: a def by its text. -/
namespace SL
open PySem PySem.Spec L2
/-- the slots at a def's entry -/
def st0 (n : Nat) (ds : List SV) : SSt := ds.map some ++ List.replicate (n - ds.length) none
/-- what a def's body is run with: the promises of the names, one level below; what is let out -/
def gmOf (tab : Str → Nat → SSp) (glob : Str → Option SV) (k : Nat) (X : SX → SHp → Prop) : Gm := ⟨fun f => tab f k, glob, fun x _ h => X x h⟩
def endsOf (R : SV → SHp → Prop) : SEnds := { nx := fun _ h => R .non h, rt := R }
section
variable {P : Program} {w : World} {K : PySem.W.Frag} {mg : Str → Option Value} {base : Heap}
theorem Rep.notOwn {Z : ZS} {H : Hp} {d : SV} {v : V} (r : Rep K Z H d v) : d.isOwn = false := by
  cases d <;> first | rfl | (simp only [Rep] at r)
theorem rel_start {Z : ZS} {h : SHp} {H : Hp} {ds : List SV} {vs : List V} {N : List Str} (hr : HRel K Z h H) (r : Reps K Z H ds vs) : Rel K ⟨h, H, Z, H, Z⟩ Z (st0 N.length ds) h (start N vs) H := by
  have hl := r.length
  have get : ∀ (i : Nat) (d : SV), (st0 N.length ds)[i]? = some (some d) → ds[i]? = some d := fun i d e => by
    unfold st0 at e
    by_cases hi : i < ds.length
    · rw [List.getElem?_append_left (by simpa using hi)] at e
      rw [List.getElem?_map] at e
      cases q : ds[i]? with
      | none => rw [q] at e; cases e
      | some x => rw [q] at e; simpa using e
    · rw [List.getElem?_append_right (by simpa using hi)] at e
      rw [List.getElem?_replicate] at e
      split at e <;> cases e
  refine ⟨hr, ⟨.refl, .refl⟩, ?_, fun i d e => ?_, fun i j d e v h1 h2 h3 => ?_⟩
  · simp [st0, L2.start, hl]
  · obtain ⟨v, ev, rv⟩ := r.get (get i d e)
    refine ⟨v, ?_, .inr ⟨rv.notOwn, rv⟩⟩
    unfold L2.start
    have hi : i < vs.length := by
      cases Nat.lt_or_ge i vs.length with
      | inl h => exact h
      | inr h => rw [List.getElem?_eq_none h] at ev; cases ev
    rw [List.getElem?_append_left (by simpa using hi), List.getElem?_map, ev]
    rfl
  · obtain ⟨v, _, rv⟩ := r.get (get i d h1)
    rw [rv.notOwn] at h3
    cases h3
/-- a def's datum: its place in the text -/
structure Df where
  name : Str
  ps : List Str
  N : List Str
  body : List SS
  dfl : List He.Dv := []
  kwd : List (Str × He.Dv) := []
  own : Str × Option Str := (name, none)
  fname : Str := name
  kwo : Bool := false
def Df.mc (d : Df) (sc : Scope) (defs : Dfs) : MC := ⟨d.N, sc, defs, none⟩
def Df.dvs (K : PySem.W.Frag) (d : Df) : List V := d.dfl.map (He.Dv.v K)
def Df.kws (K : PySem.W.Frag) (d : Df) : List (Str × V) := d.kwd.map fun q => (q.1, q.2.v K)
def Df.scB (d : Df) (sc : Scope) : Bool := (match sc.kind with
    | .function => true
    | _ => false) && (!sc.isCoroutine && (!sc.isGenerator && (decide d.N.Nodup && (d.N.take d.ps.length == d.ps && (d.ps.all (fun x => sc.names.lookup x == some .local || sc.names.lookup x == some .cell) && sc.names.all (fun y => !(y.2 == .free)))))))
theorem Df.sc {d : Df} {sc : Scope} (h : d.scB sc = true) : FnScope d.N d.ps sc := by
  unfold Df.scB at h
  obtain ⟨h1, t2⟩ := ba h
  obtain ⟨h2, t3⟩ := ba t2
  obtain ⟨h3, t4⟩ := ba t3
  obtain ⟨h4, t5⟩ := ba t4
  obtain ⟨h5, t6⟩ := ba t5
  obtain ⟨h6, h7⟩ := ba t6
  refine ⟨?_, by simpa using h2, by simpa using h3, of_decide_eq_true h4, beq_iff_eq.mp h5, fun x hx => ?_, fun y hy => ?_⟩
  · split at h1
    · assumption
    · cases h1
  · have := List.all_eq_true.mp h6 x hx
    simpa using this
  · have := List.all_eq_true.mp h7 y hy
    simpa using this
/-- what stands at a def's name -/
structure Has (K : PySem.W.Frag) (mg : Str → Option Value) (x : Str) (n : Nat) (ps : List Str) (f : Addr) (fd : FuncData) : Prop where
  mg : mg x = some (.ref f)
  kp : PySem.W.keepIn K (.ref f) = true
  bs : Binds K fd ps []
/-- the classes of objects -/
structure OsOk (P : Program) (w : World) (K : PySem.W.Frag) (mg : Str → Option Value) (base : Heap) (ca : Str → Addr) (m : Nat) (call : Str → SSp) (d : Dfs) : Prop where
  oat : ∀ C f, (C, f) ∈ d.of → Cls K (He.ga K C) ∧ NoAttr K (He.ga K C) f
  omt : ∀ pn C n i ks, (pn, C, n, i, ks) ∈ d.om → ∃ g x, Cls K (He.ga K C) ∧ Meth K (He.ga K C) n g ∧ PatK P w K mg base call ca m pn x (i + 1) ks g
  omk : ∀ pn C i ks, (pn, C, i, ks) ∈ d.ok → ∃ g x j, Mk K (He.ga K C) g ∧ mg C = some (.ref (He.ga K C)) ∧ j + 1 ≤ m ∧ PatK P w K mg base call ca j pn x (i + 1) ks g
  glo : ∀ x v, (x, v) ∈ d.g → GloOk mg x v
/-- the classes of exceptions -/
structure XsOk (P : Program) (w : World) (K : PySem.W.Frag) (mg : Str → Option Value) (base : Heap) (ca : Str → Addr) (m : Nat) (l : List (Str × Option (Option Str))) : Prop where
  ok : ∀ n fo, (n, fo) ∈ l → n ∈ xNames ∧ mg n = some (.ref (ca n)) ∧ ca n = He.ga K n ∧ hdB K n = true ∧ XcF K (ca n) n
  ini : ∀ n fo, (n, some fo) ∈ l → ∃ (fI : Addr) (fd : FuncData) (ps : List Str) (bi : String) (j : Nat), XCb K bi (ca n) ∧ PySem.W.findIn K (.ref (ca n)) "__init__" = some (some (.ref fI)) ∧ PySem.W.typeIn K (.ref fI) = some (.type "function") ∧
    FnOk P w K mg base (CX P w) j fI fd ps (match fo with
      | none => spSub K bi n
      | some f => spFld K bi n f) ∧ j + 1 ≤ m ∧ Binds K fd ps [] ∧ ∀ f, fo = some f → f ∈ (["called", "at", "row"] : List Str)
theorem df_ok {d : Df} {params : Arguments} {body : List Stmt} {scope : Scope} {f : Addr} {fd : FuncData} {x qual : Str} {k m : Nat} {sp : SSp} {ca : Str → Addr} {defs : Dfs} {dvs : List V} {kws : List (Str × V)} {tab : Str → Nat → SSp} {glob : Str → Option SV}
    (F : FunD K x qual params body scope dvs kws f fd) (hs : d.scB scope = true) (hm : mSs d.body (d.mc scope defs) body = true) (len : ∀ ds h R X, sp ds h R X → ds.length = d.ps.length)
    (fns : ∀ g n, (g, n) ∈ defs.d → ∃ a fd ps, mg g = some (.ref a) ∧ PySem.W.keepIn K (.ref a) = true ∧ FnG P w K mg base (CX P w) m a fd ps (liftSp K ca (tab g k)) ∧ Binds K fd ps [])
    (pat : ∀ pn x n ks, (pn, x, n, ks) ∈ defs.p → ∃ a, mg x = some (.ref a) ∧ PySem.W.keepIn K (.ref a) = true ∧ PatK P w K mg base (fun x => tab x k) ca m pn x n ks a)
    (os : OsOk P w K mg base ca m (fun x => tab x k) defs) (xs : XsOk P w K mg base ca m defs.x)
    (blt : ∀ y ∈ biB, mg y = none) (h : ∀ ds h R X, sp ds h R X → wpSs (gmOf tab glob k X) d.body (st0 d.N.length ds) h (endsOf R)) : FnG P w K mg base (CX P w) (m + 1) f fd d.ps (liftSp K ca sp) := by
  refine fnG_of F (Df.sc hs) (fun vs H Q E q => ?_) fun cdv A outer s H vs Q E hr gd q => ?_
  · obtain ⟨ds, h', Z, R, X, _, r, q, _⟩ := q
    rw [r.length, len _ _ _ _ q]
  · obtain ⟨ds, h', Z, R, X, hrel, r, q, c1, c2⟩ := q
    refine ⟨tSs K ⟨h', H, Z, H, Z⟩ (gmOf tab glob k X) d.body, soundSs d.body (d.mc scope defs) _ _ _ m ca body ?_ hm, st0 d.N.length ds, h', Z, endsOf R, rel_start hrel r, h _ _ _ _ q, ⟨fun δ' h1 σ' H' Z' q1 rel kk => ?_, fun δ' h1 σ' H' Z' q1 => q1.elim, fun δ' h1 σ' H' Z' q1 => q1.elim, fun d h1 v H' Z' q1 hr1 fr ret => c1 _ _ _ _ _ q1 hr1 fr ret⟩⟩
    · refine ⟨rfl, rfl, (Df.sc hs).nd, rfl, ?_, hr, deeper_guards gd, fns, fun pn x n ks hp => (let ⟨a, h1, h2, h3⟩ := pat pn x n ks hp; ⟨a, h1, h2, h3⟩), blt, ?_, passes_of rfl, fun i x hx => ?_, os.oat, fun pn C m n ks hp => (let ⟨f, x, h1, h2, h3⟩ := os.omt pn C m n ks hp; ⟨f, x, h1, h2, ⟨h3.ex⟩⟩), fun pn C n ks hp => (let ⟨f, x, j, h1, h2, h3, h4⟩ := os.omk pn C n ks hp; ⟨f, x, j, h1, h2, h3, ⟨h4.ex⟩⟩), os.glo, fun n fo hm => (let ⟨h1, h2, h3, h4, h5⟩ := xs.ok n fo hm; ⟨h1, h2, h3, h4, h5⟩), fun n fo hm => ⟨xs.ini n fo hm⟩, fun _ => ⟨rfl, rfl⟩⟩
      · have := hr.un
        show (A.deeper _).units + 65 < cLine
        omega
      · refine Takes.imp (takes_of (E := E) rfl rfl rfl rfl) fun c d σ H ⟨x, δ, h1, Z1, rel, xr, q⟩ => ?_
        exact c2 _ _ _ _ _ _ q rel.hr rel.ent.toFr xr
      · unfold MC.tgt at hx
        have hx := (ba hx).2
        refine ⟨?_, .inl rfl⟩
        show scope.names.lookup x = _ ∨ scope.names.lookup x = _
        have hx : (match scope.names.lookup x with
          | some .local => true
          | some .cell => true
          | _ => false) = true := hx
        split at hx
        · exact .inl (by assumption)
        · exact .inr (by assumption)
        · cases hx
    · exact c1 _ _ _ _ _ q1 rel.hr rel.ent.toFr (.inr ⟨rfl, by simp only [Rep]⟩)
end
end SL
/-! S19: all the defs of a law; the law's end. -/
namespace SL
open PySem PySem.Spec L2
/-- a def of the text at its place -/
structure At (K : PySem.W.Frag) (mg : Str → Option Value) (p : Df × Stmt) (f : Addr) (fd : FuncData) : Prop where
  fn : FunD K p.1.fname p.1.name (defArgs p.2) (defBody p.2) (defScope p.2) (p.1.dvs K) (p.1.kws K) f fd
  mg : p.1.own.2 = none → mg p.1.name = some (.ref f)
  bs : p.1.kwo = false → p.1.dfl = [] → p.1.kwd = [] → Binds K fd p.1.ps []
def matchB (defs : Dfs) (p : Df × Stmt) : Bool := p.1.scB (defScope p.2) && mSs p.1.body (p.1.mc (defScope p.2) defs) (defBody p.2)
def coverB (defs : Dfs) (L : List (Df × Stmt)) : Bool := defs.d.all fun x => L.any fun p => p.1.name == x.1 && (p.1.dfl.isEmpty && (p.1.kwd.isEmpty && (p.1.own.2.isNone && !p.1.kwo)))
/-- a pattern of calls -/
structure Cp where
  pn : Str
  x : Str
  n : Nat
  ks : List Str
  pl : List Pl
  dss : List SV := []
def Cp.row (c : Cp) : Str × Str × Nat × List Str := (c.pn, c.x, c.n, c.ks)
/-- the pattern binds the def's parameters -/
def CpOk (c : Cp) (p : Df × Stmt) : Prop := p.1.name = c.x ∧ p.1.own.2 = none ∧ ∀ K f fd, FunD K p.1.fname p.1.name (defArgs p.2) (defBody p.2) (defScope p.2) (p.1.dvs K) (p.1.kws K) f fd → ∃ dvs, KbP K fd p.1.ps c.n c.ks c.pl dvs ∧ ∀ Z H, Reps K Z H c.dss dvs
def CpTab (cps : List Cp) (tab : Str → Nat → SSp) : Prop := ∀ c ∈ cps, ∀ k args h R E, tab c.pn k args h R E → tab c.x k (asmG .non c.pl args c.dss) h R E
/-- the texts keep the promises of the table, level by level -/
def Kept (tab : Str → Nat → SSp) (glob : Str → Option SV) (d : Df) : Prop := ∀ k args h R X, tab d.name (k + 1) args h R X → args.length = d.ps.length ∧ wpSs (gmOf tab glob k X) d.body (st0 d.N.length args) h (endsOf R)
section
variable {P : Program} {w : World} {K : PySem.W.Frag} {mg : Str → Option Value} {base : Heap}
theorem fam {L : List (Df × Stmt)} {defs : Dfs} {cps : List Cp} {tab : Str → Nat → SSp} {glob : Str → Option SV} {ca : Str → Addr} (hF : ∀ p ∈ L, ∃ f fd, At K mg p f fd) (hm : L.all (matchB defs) = true) (hc : coverB defs L = true) (z : ∀ f args h R X, ¬ tab f 0 args h R X) (hw : ∀ p ∈ L, Kept tab glob p.1) (blt : ∀ y ∈ biB, mg y = none) (xs : ∀ m, 3 ≤ m → XsOk P w K mg base ca m defs.x)
    (os : ∀ k, (∀ j, j ≤ k → ∀ p ∈ L, ∀ f fd, At K mg p f fd → FnG P w K mg base (CX P w) (j + 3) f fd p.1.ps (liftSp K ca (tab p.1.name j))) → OsOk P w K mg base ca (k + 3) (fun x => tab x k) defs)
    (ed : defs.p = cps.map Cp.row) (hcp : ∀ c ∈ cps, ∃ p ∈ L, CpOk c p) (hct : CpTab cps tab) :
    ∀ k, ∀ p ∈ L, ∀ f fd, At K mg p f fd → FnG P w K mg base (CX P w) (k + 3) f fd p.1.ps (liftSp K ca (tab p.1.name k)) := by
  suffices all : ∀ k j, j ≤ k → ∀ p ∈ L, ∀ f fd, At K mg p f fd → FnG P w K mg base (CX P w) (j + 3) f fd p.1.ps (liftSp K ca (tab p.1.name j)) from fun k => all k k (Nat.le_refl k)
  intro k
  induction k with
  | zero =>
    intro j hj p hp f fd a
    obtain rfl : j = 0 := by omega
    exact ⟨fun vs H Q E ⟨ds, h, Z, R, X, _, _, q, _⟩ => (z _ _ _ _ _ q).elim, fun A outer s H args us vs Q E _ _ _ _ _ ⟨ds, h, Z, R, X, _, _, q, _⟩ => (z _ _ _ _ _ q).elim⟩
  | succ k below =>
    intro j hj p hp f fd a
    by_cases hjk : j ≤ k
    · exact below j hjk p hp f fd a
    obtain rfl : j = k + 1 := by omega
    have ih := below k (Nat.le_refl k)
    obtain ⟨h1, h2⟩ := ba (show (p.1.scB (defScope p.2) && mSs p.1.body (p.1.mc (defScope p.2) defs) (defBody p.2)) = true from List.all_eq_true.mp hm p hp)
    refine df_ok a.fn h1 h2 (fun ds h R X q => (hw p hp k ds h R X q).1) (fun g n hg => ?_) (fun pn x n ks hpn => ?_) (os k below) (xs (k + 3) (by omega)) blt fun ds h R X q => (hw p hp k ds h R X q).2
    · have := List.all_eq_true.mp hc (g, n) hg
      obtain ⟨q, hq, e⟩ := List.any_eq_true.mp this
      obtain ⟨e1, e⟩ := ba e
      obtain ⟨e2, e⟩ := ba e
      obtain ⟨e3, e⟩ := ba e
      obtain ⟨e4, e5⟩ := ba e
      obtain ⟨a', fd', at'⟩ := hF q hq
      have e' : q.1.name = g := beq_iff_eq.mp e1
      subst e'
      exact ⟨a', fd', q.1.ps, at'.mg (Option.isNone_iff_eq_none.mp e4), at'.fn.kp, ih q hq a' fd' at', at'.bs (by simpa using e5) (List.isEmpty_iff.mp e2) (List.isEmpty_iff.mp e3)⟩
    · rw [ed] at hpn
      obtain ⟨c, hcm, ec⟩ := List.mem_map.mp hpn
      simp only [Cp.row, Prod.mk.injEq] at ec
      obtain ⟨rfl, rfl, rfl, rfl⟩ := ec
      obtain ⟨q, hq, e1, e2, kb⟩ := hcp c hcm
      obtain ⟨a', fd', at'⟩ := hF q hq
      obtain ⟨dvs, kb, rd⟩ := kb K a' fd' at'.fn
      refine ⟨a', by rw [← e1]; exact at'.mg e2, at'.fn.kp, ⟨c.pl, c.dss, dvs, fd', q.1.ps, tab q.1.name k, ?_, kb, rd, ?_⟩⟩
      · exact ih q hq a' fd' at'
      · rw [e1]
        exact hct c hcm k
/-- the law's promise: true, at every list of at most n whole numbers -/
def spLaw (n lv : Nat) (k : Nat) : SSp := fun args h R X => lv ≤ k ∧ ∃ ns : List Int, args = [.lkd (ns.map SV.int)] ∧ ns.length ≤ n ∧ ∀ h', R (.bl true) h'
theorem reps_ints {Z : ZS} {H : Hp} : ∀ ns : List Int, Reps K Z H (ns.map SV.int) (ns.map V.int)
  | [] => by simp only [List.map_nil, Reps]
  | n :: ns => by
    simp only [List.map_cons, Reps]
    exact ⟨_, _, rfl, by simp only [Rep], reps_ints ns⟩
theorem law_sp {n lv k : Nat} {ca : Str → Addr} {H : Hp} {a : Addr} {ns : List Int} (hk : lv ≤ k) (hl : ns.length ≤ n) (on : Only H) (sq : SqL K H a (ns.map V.int)) : liftSp K ca (spLaw n lv k) [.ref a] H (fun v _ => v = .bl true) fun _ _ _ => False := by
  have lk : LkdAt K H a (ns.map V.int) := by
    rcases sq with (h | ⟨o, h⟩) | h
    · rcases on a with z | ⟨o, xs, z⟩
      · rw [z] at h; cases h
      · rw [z] at h; cases h
    · exact .inl ⟨o, h⟩
    · exact .inr h
  refine ⟨[.lkd (ns.map SV.int)], fun _ => none, fun _ => False, fun d _ => d = .bl true, fun _ _ => False, { cell := fun p c e => (by cases e), frz := fun a z => (z : False).elim, zin := fun a z => (z : False).elim }, ?_, ⟨hk, ns, rfl, hl, fun _ => rfl⟩, fun d h' v H' Z' e _ _ r => ?_, fun x h' c e H' Z' z => z.elim⟩
  · simp only [Reps, Rep]
    exact ⟨_, _, rfl, ⟨_, _, rfl, lk, reps_ints ns⟩, rfl⟩
  · subst e
    rcases r with ⟨o, _⟩ | ⟨_, r⟩
    · cases o
    · simpa only [Rep] using r
end
end SL
namespace SL
open PySem PySem.Spec L2
def ArgsOk (p : Df × Stmt) : Prop := p.1.kwo = false → p.1.dfl = [] → p.1.kwd = [] → ∀ (kV doc pm : Value) (an : Option Addr) (cdv ct : Value) (us : List Value), us.length = p.1.ps.length → bindArgs (PySem.W.fnOf p.1.fname p.1.name (defArgs p.2) (defBody p.2) (defScope p.2) .none kV doc pm an cdv ct) ⟨us, []⟩ = pure (p.1.ps.zip us)
def fnL (L : List (Df × Stmt)) : List He.DefD := L.map fun p => ⟨p.1.own, p.1.fname, p.1.name, defArgs p.2, defBody p.2, defScope p.2, p.1.dfl, p.1.kwd⟩
def faL (L : List (Df × Stmt)) (more : List He.Fa) : List He.Fa := (L.filter fun p => p.1.own.2.isNone).map (fun p => .glo p.1.name) ++ (biB.map .free ++ more)
theorem facts_of {K : PySem.W.Frag} {L : List (Df × Stmt)} {more : List He.Fa} (c : He.SaysD (faL L more) (fnL L) K) : ∀ f ∈ faL L more, He.Fa.ok K f = true := fun f hf => by
  obtain ⟨i, hi, e⟩ := List.getElem_of_mem hf
  exact c.fact i (by rw [List.getElem?_eq_getElem hi, e])
theorem at_all {K : PySem.W.Frag} {h : Heap} {mg : Str → Option Value} {L : List (Df × Stmt)} {more : List He.Fa} (X : K.In h) (G : h.Ns mainGlobals mg) (c : He.SaysD (faL L more) (fnL L) K) (hn : ∀ p ∈ L, p.1.own.2 = none → p.1.own.1 = p.1.name) (hb : ∀ p ∈ L, ArgsOk p) : (∀ p ∈ L, ∃ fd, At K mg p (He.fAd K p.1.own) fd) ∧ ∀ y ∈ biB, mg y = none := by
  have facts := facts_of c
  refine ⟨fun p hp => ?_, fun y hy => He.free_ok X G (facts (.free y) (List.mem_append_right _ (List.mem_append_left _ (List.mem_map_of_mem hy))))⟩
  obtain ⟨i, hi, e⟩ := List.getElem_of_mem hp
  have e2 : (fnL L)[i]? = some ⟨p.1.own, p.1.fname, p.1.name, defArgs p.2, defBody p.2, defScope p.2, p.1.dfl, p.1.kwd⟩ := by
    unfold fnL
    rw [List.getElem?_map, List.getElem?_eq_getElem hi, e]
    rfl
  obtain ⟨fd, F⟩ := c.def_ i e2
  refine ⟨fd, F, fun ho => ?_, fun h0 h1 h2 => ?_⟩
  · have ea : He.fAd K p.1.own = He.ga K p.1.name := by
      unfold He.fAd
      rw [ho, hn p hp ho]
    rw [ea]
    exact He.glo_ok X G (facts (.glo p.1.name) (List.mem_append_left _ (List.mem_map.mpr ⟨p, List.mem_filter.mpr ⟨hp, by rw [ho]; rfl⟩, rfl⟩)))
  · have F' : FunD K p.1.fname p.1.name (defArgs p.2) (defBody p.2) (defScope p.2) [] (p.1.kws K) (He.fAd K p.1.own) fd := by
      have e0 : p.1.dvs K = [] := by unfold Df.dvs; rw [h1]; rfl
      have q : FunD K p.1.fname p.1.name (defArgs p.2) (defBody p.2) (defScope p.2) (p.1.dvs K) (p.1.kws K) (He.fAd K p.1.own) fd := F
      rwa [e0] at q
    exact FunD.bindsN F' (hb p hp h0 h1 h2)
end SL
namespace SL
open PySem PySem.Spec L2 PyProof.Rows
/-- the walk of a law; what may be let out goes by the world -/
theorem walkW {l : PySem.W.OpenLaw} {n k : Nat} {q : Program} {loose : List Str} {XP : (Str → Option Value) → Heap → Prop} {YP : World → Heap → Prop} {d : DefRec} {x : Str} (hn : l.most = some n) (small : n ≤ sizeLine) (hdf : d.params.defaults = []) (room : Room k callerA)
    (F : ∀ (w : World) (mg : Str → Option Value) (f : Addr) (h : Heap), YP w h → h.Ns mainGlobals mg → mg d.name = some (.ref f) → ∃ (K : PySem.W.Frag) (fd : FuncData) (sp : Sp), K.In h ∧ (∀ (s : Shared) (u : Value), BindsTo s fd ⟨[u], []⟩ [(x, u)]) ∧
        (∀ (H : Hp) (a : Addr) (ns : List Int), ns.length ≤ n → Only H → SqL K H a (ns.map V.int) → sp [.ref a] H (fun v _ => v = .bl true) fun _ _ _ => False) ∧ ∀ base : Heap, K.In base → base.Ns mainGlobals mg → FnG l.prog w K mg base (CX l.prog w) k f fd [x] sp) :
    PySem.W.WalkO q loose XP YP l.row.toRowW d [] (fun f vs => PySem.call f vs) := by
  refine Att.attach_call hn hdf fun w s0 s1 mg mb f o pm cd doc a vs ns G Y _ _ _ named q1 q2 many here => ?_
  obtain ⟨K, fd, sp, kin, bound, prom, all⟩ := F w mg f _ Y G.T.g named
  refine lawG kin G.T.g G.T.b G.T.builtins G.T.nolimit here q1 q2 (Nat.le_trans many small) room all bound (fun H on sq => prom H a ns many on sq) fun H e s' x => ?_
  obtain ⟨_, _, _, _, _, _, _, _, _, _, _, _, no⟩ := x
  exact no.elim
end SL
/-! X8: the head's facts of the exceptions. -/
namespace SL
open PySem PySem.Spec L2
/-! ### the Hook: what the names reach, the statics' table, one Bool more -/
def asE (g : Addr → Option Obj) (n : Nat) : List Addr := He.asD g n ++ [cStatics]
def obsE (n : Nat) (fa : List He.Fa) (fn : List He.DefD) (ex : PySem.W.Frag → Bool) (g : Addr → Option Obj) : He.AlD × Bool := (He.obsD fa fn (He.frG g (asE g n)), ex (He.frG g (asE g n)))
def hookE (n : Nat) (fa : List He.Fa) (fn : List He.DefD) (ex : PySem.W.Frag → Bool) : PySem.W.Hook where
  α := He.AlD × Bool
  obs := fun s => obsE n fa fn ex s.heap.get?
  val := fun _ => (He.valD fn, true)
  says := fun _ h => ∃ K : PySem.W.Frag, K.In h ∧ He.SaysD fa fn K ∧ ex K = true
  of := fun _ _ e => ⟨_, He.frG_in, congrArg (fun z : He.AlD × Bool => z.1) e, congrArg (fun z : He.AlD × Bool => z.2) e⟩
  keeps := fun _ _ _ ⟨K, hK, c⟩ k => ⟨K, PySem.W.Frag.In.keeps hK k, c⟩
theorem obsE_eq {n : Nat} {fa : List He.Fa} {fn : List He.DefD} {ex : PySem.W.Frag → Bool} {g : Addr → Option Obj} {s : Shared} (h : ∀ a, g a = s.heap.get? a) : obsE n fa fn ex g = (hookE n fa fn ex).obs s := by
  have e : g = s.heap.get? := funext h
  rw [e] <;> rfl
/-! ### the classes -/
structure XD where
  c : Xc
  d : Df
  s : Stmt
/-- the j-th statement of a class -/
def inner (s : Stmt) (j : Nat) : Stmt := match s with
  | .ClassDef _ _ _ b _ _ _ _ _ _ _ => b.getD j (.Pass ⟨0, 0, 0, 0⟩)
  | s => s
def veB : List Value := [.type "ValueError", .type "Exception", .type "BaseException", .type "object"]
def leB : List Value := [.type "LookupError", .type "Exception", .type "BaseException", .type "object"]
def xclsB (K : PySem.W.Frag) (nw : String) (bm : List Value) (C : Addr) : Bool := PySem.W.excInitIn K C bm nw && (PySem.W.excOver K C bm && (PySem.W.hasDictIn K C && (He.eqO (PySem.W.findIn K (.ref C) "__setattr__") (some (some (.builtin "object.__setattr__"))) &&
  (decide (PySem.W.subIn K (.ref C) (.type "BaseException") = some true) && (decide (PySem.W.typeIn K (.ref C) = some (.type "type")) && PySem.W.keepIn K (.ref C))))))
theorem xclsB_ok {K : PySem.W.Frag} {nw : String} {bm : List Value} {C : Addr} (h : xclsB K nw bm C = true) : XCls K nw bm C := by
  obtain ⟨h1, h⟩ := ba h
  obtain ⟨h2, h⟩ := ba h
  obtain ⟨h3, h⟩ := ba h
  obtain ⟨h4, h⟩ := ba h
  obtain ⟨h5, h⟩ := ba h
  obtain ⟨h6, h7⟩ := ba h
  exact ⟨h1, h2, h3, He.eqO_ok h4, of_decide_eq_true h5, of_decide_eq_true h6, h7⟩
def xcbB (K : PySem.W.Frag) (bi : String) (C : Addr) : Bool := (bi == "ValueError.__init__" && xclsB K "ValueError.__new__" veB C) || (bi == "LookupError.__init__" && xclsB K "LookupError.__new__" leB C)
theorem xcbB_ok {K : PySem.W.Frag} {bi : String} {C : Addr} (h : xcbB K bi C = true) : XCb K bi C := by
  rcases Bool.or_eq_true_iff.mp h with h | h
  · obtain ⟨h1, h2⟩ := ba h
    cases beq_iff_eq.mp h1
    exact ⟨_, _, _, xb_val, xclsB_ok h2⟩
  · obtain ⟨h1, h2⟩ := ba h
    cases beq_iff_eq.mp h1
    exact ⟨_, _, _, xb_look, xclsB_ok h2⟩
def rootB (K : PySem.W.Frag) (D : Addr) : Bool := He.eqO (PySem.W.specialIn K (.ref D) "__getattribute__") (some (some (.builtin "type.__getattribute__"))) && (PySem.W.readsIn K D (.type "type") && ((match PySem.W.findCls K (.ref D) (.type "type") "__init__" with
  | some (.val (.ref f)) => decide (f = He.ma K D "__init__")
  | _ => false) && PySem.W.keepIn K (.ref (He.ma K D "__init__"))))
theorem rootB_ok {K : PySem.W.Frag} {D : Addr} (h : rootB K D = true) : ClsR K D "__init__" (He.ma K D "__init__") := by
  obtain ⟨h1, h⟩ := ba h
  obtain ⟨h2, h⟩ := ba h
  obtain ⟨h3, h4⟩ := ba h
  refine ⟨He.eqO_ok h1, h2, ?_, h4⟩
  split at h3
  · rename_i f e
    rw [e, of_decide_eq_true h3]
  · cases h3
def Xk.isRoot : Xk → Bool
  | .root _ _ => true
  | _ => false
/-- what is looked up in the text's objects -/
def xB (K : PySem.W.Frag) (x : XD) : Bool := hdB K x.c.name && (xcbB K x.c.bi (He.ga K x.c.name) && (xcfB K (He.ga K x.c.name) x.c.name && (He.eqO (PySem.W.findIn K (.ref (He.ga K x.c.name)) "__init__") (some (some (.ref (He.ma K (He.ga K x.c.name) "__init__")))) &&
  (decide (PySem.W.typeIn K (.ref (He.ma K (He.ga K x.c.name) "__init__")) = some (.type "function")) && (!x.c.kind.isRoot || rootB K (He.ga K x.c.name))))))
def exB (xs : List XD) (K : PySem.W.Frag) : Bool := xs.all (xB K)
/-- .. and in the text itself -/
def xTxt (x : XD) : Bool := xNames.contains x.c.name && (x.d.own == (x.c.name, some ("__init__" : Str)) && (x.d.dfl.isEmpty && ((x.d.kwd.isEmpty && !x.d.kwo) && (x.d.N == x.d.ps && (x.d.scB (defScope x.s) && (xiB x.c x.d.ps (defScope x.s) (defBody x.s) && (x.d.ps.all okN && (match x.c.kind with
  | .root B bi => (B == "ValueError" && bi == "ValueError.__init__") || (B == "LookupError" && bi == "LookupError.__init__")
  | .sub _ => true
  | .fld _ f => flds.contains f))))))))
def Xk.fo : Xk → Option (Option Str)
  | .root _ _ => none
  | .sub _ => some none
  | .fld _ f => some (some f)
def Xk.up (xs : List XD) (bi : String) : Xk → Bool
  | .root _ _ => true
  | .sub R => xs.any fun x => x.c.name == R && (x.c.kind.isRoot && x.c.bi == bi)
  | .fld R _ => xs.any fun x => x.c.name == R && (x.c.kind.isRoot && x.c.bi == bi)
def xsB (xs : List XD) (l : List (Str × Option (Option Str))) : Bool := xs.all (fun x => xTxt x && x.c.kind.up xs x.c.bi) && l.all fun q => xs.any fun x => x.c.name == q.1 && decide (x.c.kind.fo = q.2)
section
variable {P : Program} {w : World} {K : PySem.W.Frag} {mg : Str → Option Value} {base : Heap} {xs : List XD} {l : List (Str × Option (Option Str))}
theorem root_fn {x : XD} {fd : FuncData} (a : At K mg (x.d, x.s) (He.fAd K x.d.own) fd) (ht : xTxt x = true) (hr : x.c.kind.isRoot = true) (blt : ∀ y ∈ biB, mg y = none) : FnOk P w K mg base (CX P w) 1 (He.ma K (He.ga K x.c.name) "__init__") fd x.d.ps (spRoot K x.c.bi) := by
  obtain ⟨_, ht⟩ := ba ht
  obtain ⟨t2, ht⟩ := ba ht
  obtain ⟨_, ht⟩ := ba ht
  obtain ⟨_, ht⟩ := ba ht
  obtain ⟨t5, ht⟩ := ba ht
  obtain ⟨t6, ht⟩ := ba ht
  obtain ⟨t7, ht⟩ := ba ht
  obtain ⟨t8, t9⟩ := ba ht
  have own : x.d.own = (x.c.name, some ("__init__" : Str)) := beq_iff_eq.mp t2
  have ea : He.fAd K x.d.own = He.ma K (He.ga K x.c.name) "__init__" := by rw [own]; rfl
  have S : FnScope x.d.N x.d.ps (defScope x.s) := Df.sc t6
  rw [beq_iff_eq.mp t5] at S
  have F := a.fn
  rw [ea] at F
  unfold xiB at t7
  split at t7
  · rename_i B bi self par s1 s2 ek ep eb
    rw [ek] at t9
    obtain ⟨q1, t7⟩ := ba t7
    obtain ⟨q2, q3⟩ := ba t7
    have ebi : bi = x.c.bi := beq_iff_eq.mp q1
    rw [ep] at S t8 ⊢
    rw [eb] at F
    rw [← ebi]
    have n1 : okN self = true := List.all_eq_true.mp t8 self (by simp)
    have n2 : okN par = true := List.all_eq_true.mp t8 par (by simp)
    rcases Bool.or_eq_true_iff.mp t9 with z | z
    · obtain ⟨z1, z2⟩ := ba z
      have e1 := beq_iff_eq.mp z1
      have e2 := beq_iff_eq.mp z2
      subst e1
      rw [e2]
      exact root_ok F S n1 n2 xbase_val (blt _ (by simp [biB])) q2 q3
    · obtain ⟨z1, z2⟩ := ba z
      have e1 := beq_iff_eq.mp z1
      have e2 := beq_iff_eq.mp z2
      subst e1
      rw [e2]
      exact root_ok F S n1 n2 xbase_look (blt _ (by simp [biB])) q2 q3
  · rename_i ek _ _
    rw [ek] at hr
    cases hr
  · rename_i ek _ _
    rw [ek] at hr
    cases hr
  · cases t7
theorem xs_ok {h : Heap} (KX : K.In h) (Gn : h.Ns mainGlobals mg) (ats : ∀ x ∈ xs, ∃ fd, At K mg (x.d, x.s) (He.fAd K x.d.own) fd) (hs : xsB xs l = true) (he : exB xs K = true) (blt : ∀ y ∈ biB, mg y = none) (m : Nat) (hm : 3 ≤ m) : XsOk P w K mg base (He.ga K) m l := by
  obtain ⟨s1, s2⟩ := ba hs
  have find : ∀ n fo, (n, fo) ∈ l → ∃ x ∈ xs, x.c.name = n ∧ x.c.kind.fo = fo := fun n fo hq => by
    obtain ⟨x, hx, e⟩ := List.any_eq_true.mp (List.all_eq_true.mp s2 (n, fo) hq)
    obtain ⟨e1, e2⟩ := ba e
    exact ⟨x, hx, beq_iff_eq.mp e1, of_decide_eq_true e2⟩
  have mgof : ∀ x ∈ xs, mg x.c.name = some (.ref (He.ga K x.c.name)) := fun x hx => by
    obtain ⟨h1, _⟩ := ba (List.all_eq_true.mp he x hx)
    exact He.glo_ok KX Gn (x := x.c.name) h1
  refine ⟨fun n fo hq => ?_, fun n fo hq => ?_⟩
  · obtain ⟨x, hx, rfl, _⟩ := find n fo hq
    obtain ⟨h1, h⟩ := ba (List.all_eq_true.mp he x hx)
    obtain ⟨h2, h⟩ := ba h
    obtain ⟨h3, h⟩ := ba h
    obtain ⟨t, _⟩ := ba (List.all_eq_true.mp s1 x hx)
    obtain ⟨t1, _⟩ := ba t
    exact ⟨List.contains_iff_mem.mp t1, mgof x hx, rfl, h1, xcfB_ok h3⟩
  · obtain ⟨x, hx, rfl, efo⟩ := find n (some fo) hq
    obtain ⟨h1, h⟩ := ba (List.all_eq_true.mp he x hx)
    obtain ⟨h2, h⟩ := ba h
    obtain ⟨h3, h⟩ := ba h
    obtain ⟨h4, h⟩ := ba h
    obtain ⟨h5, h6⟩ := ba h
    obtain ⟨t, tu⟩ := ba (List.all_eq_true.mp s1 x hx)
    obtain ⟨fd, a⟩ := ats x hx
    have ht := t
    obtain ⟨_, ht⟩ := ba ht
    obtain ⟨t2, ht⟩ := ba ht
    obtain ⟨t3, ht⟩ := ba ht
    obtain ⟨t4, ht⟩ := ba ht
    obtain ⟨t5, ht⟩ := ba ht
    obtain ⟨t6, ht⟩ := ba ht
    obtain ⟨t7, ht⟩ := ba ht
    obtain ⟨t8, t9⟩ := ba ht
    have own : x.d.own = (x.c.name, some ("__init__" : Str)) := beq_iff_eq.mp t2
    have ea : He.fAd K x.d.own = He.ma K (He.ga K x.c.name) "__init__" := by rw [own]; rfl
    have S : FnScope x.d.N x.d.ps (defScope x.s) := Df.sc t6
    rw [beq_iff_eq.mp t5] at S
    have F := a.fn
    rw [ea] at F
    have bs := a.bs (by simpa using (ba t4).2) (List.isEmpty_iff.mp t3) (List.isEmpty_iff.mp (ba t4).1)
    have rt : ∀ R, (xs.any fun y => y.c.name == R && (y.c.kind.isRoot && y.c.bi == x.c.bi)) = true → ∃ fdr psr, mg R = some (.ref (He.ga K R)) ∧ ClsR K (He.ga K R) "__init__" (He.ma K (He.ga K R) "__init__") ∧ FnOk P w K mg base (CX P w) 1 (He.ma K (He.ga K R) "__init__") fdr psr (spRoot K x.c.bi) ∧ Binds K fdr psr [] := fun R hR => by
      obtain ⟨y, hy, e⟩ := List.any_eq_true.mp hR
      obtain ⟨e1, e⟩ := ba e
      obtain ⟨e2, e3⟩ := ba e
      cases beq_iff_eq.mp e1
      have eb : y.c.bi = x.c.bi := beq_iff_eq.mp e3
      obtain ⟨fdr, ar⟩ := ats y hy
      obtain ⟨ty, _⟩ := ba (List.all_eq_true.mp s1 y hy)
      obtain ⟨_, g⟩ := ba (List.all_eq_true.mp he y hy)
      obtain ⟨_, g⟩ := ba g
      obtain ⟨_, g⟩ := ba g
      obtain ⟨_, g⟩ := ba g
      obtain ⟨_, g6⟩ := ba g
      rw [e2] at g6
      obtain ⟨_, u⟩ := ba ty
      obtain ⟨_, u⟩ := ba u
      obtain ⟨u3, u⟩ := ba u
      obtain ⟨u4, _⟩ := ba u
      refine ⟨fdr, y.d.ps, mgof y hy, rootB_ok (by simpa using g6), ?_, ar.bs (by simpa using (ba u4).2) (List.isEmpty_iff.mp u3) (List.isEmpty_iff.mp (ba u4).1)⟩
      rw [← eb]
      exact root_fn ar ty e2 blt
    refine ⟨He.ma K (He.ga K x.c.name) "__init__", fd, x.d.ps, x.c.bi, 2, xcbB_ok h2, He.eqO_ok h4, of_decide_eq_true h5, ?_, by omega, bs, ?_⟩
    · unfold xiB at t7
      split at t7
      · rename_i ek _ _
        rw [ek] at efo
        cases efo
      · rename_i R self s1' ek ep eb
        rw [ek] at efo tu
        cases efo
        obtain ⟨fdr, psr, r1, r2, r3, r4⟩ := rt R tu
        rw [ep] at S t8 ⊢
        rw [eb] at F
        exact sub_ok F S (List.all_eq_true.mp t8 self (by simp)) r2 r1 r3 r4 t7
      · rename_i R f self par s1' s2' ek ep eb
        rw [ek] at efo tu
        cases efo
        obtain ⟨fdr, psr, r1, r2, r3, r4⟩ := rt R tu
        rw [ep] at S t8 ⊢
        rw [eb] at F
        obtain ⟨q1, q2⟩ := ba t7
        exact fld_ok F S (List.all_eq_true.mp t8 self (by simp)) (List.all_eq_true.mp t8 par (by simp)) r2 r1 r3 r4 q1 q2
      · cases t7
    · intro f ef
      subst ef
      cases ek : x.c.kind with
      | root B bi => rw [ek] at efo; cases efo
      | sub R => rw [ek] at efo; cases efo
      | fld R g =>
        rw [ek] at efo t9
        cases efo
        exact List.contains_iff_mem.mp t9
end
end SL
/-! O4: the head's facts of the classes. -/
namespace SL
open PySem PySem.Spec L2
/-- a pattern of calls of a method, of a class -/
structure Oc where
  pn : Str
  C : Str
  m : Str
  x : Str
  n : Nat
  ks : List Str
  pl : List Pl
  dss : List SV := []
/-- an empty tuple of the text -/
def tup0 (K : PySem.W.Frag) (a : Addr) : Bool := match K.lookup a with
  | some o => decide (o.cls = .type "tuple") && (match o.data with
    | .seq its _ => its.isEmpty
    | _ => false)
  | none => false
theorem tup0_ok {K : PySem.W.Frag} {a : Addr} (h : tup0 K a = true) (Z : ZS) (H : Hp) : Rep K Z H (.tup []) (.ref a) := by
  unfold tup0 at h
  split at h
  · rename_i o e
    obtain ⟨h1, h2⟩ := ba h
    split at h2
    · rename_i its n e2
      simp only [Rep]
      have e3 : its = #[] := by simpa using h2
      subst e3
      exact ⟨a, [], rfl, .inr ⟨o, #[], n, e, of_decide_eq_true h1, e2, by simp, .nil⟩, .nil⟩
    · cases h2
  · cases h
def OcOk (E : PySem.W.Frag → Bool) (c : Oc) (p : Df × Stmt) : Prop := p.1.own = (c.C, some c.m) ∧ p.1.name = c.x ∧ ∀ K f fd, E K = true → FunD K p.1.fname p.1.name (defArgs p.2) (defBody p.2) (defScope p.2) (p.1.dvs K) (p.1.kws K) f fd → ∃ dvs, KbP K fd p.1.ps (c.n + 1) c.ks c.pl dvs ∧ ∀ Z H, Reps K Z H c.dss dvs
/-- what the patterns promise -/
def OmTab (cs : List Oc) (tab : Str → Nat → SSp) : Prop := ∀ c ∈ cs, ∀ k args h R E, tab c.pn k args h R E → tab c.x k (asmG .non c.pl args c.dss) h R E
def OkTab (cs : List Oc) (tab : Str → Nat → SSp) : Prop := ∀ c ∈ cs, ∀ k args h R E, tab c.pn (k + 1) args h R E → tab c.x k (asmG .non c.pl args c.dss) h R E
/-- a pattern that uses no default -/
def Pl.isArg : Pl → Bool
  | .arg _ => true
  | .dfl _ => false
theorem asmG_arg {α : Type} {d : α} {as ds : List α} : ∀ {pl : List Pl}, pl.all Pl.isArg = true → asmG d pl as ds = asmG d pl as []
  | [], _ => rfl
  | .arg i :: pl, h => by
    have h2 : pl.all Pl.isArg = true := by simpa [Pl.isArg] using h
    have ih := asmG_arg (d := d) (as := as) (ds := ds) h2
    unfold asmG at ih ⊢
    rw [List.map_cons, List.map_cons, ih]
  | .dfl j :: pl, h => by simp [Pl.isArg] at h
theorem KbP.noDfl {K : PySem.W.Frag} {fd : FuncData} {ps : List Str} {n : Nat} {ks : List Str} {pl : List Pl} {dvs : List V} (h : pl.all Pl.isArg = true) (q : KbP K fd ps n ks pl dvs) : KbP K fd ps n ks pl [] := by
  obtain ⟨its, q⟩ := q
  refine ⟨its, ?_⟩
  have e : (fun vs zs => asmG V.non pl (vs ++ zs) ([] : List V)) = fun vs zs => asmG V.non pl (vs ++ zs) dvs := by
    funext vs zs
    exact (asmG_arg h).symm
  rw [e]
  exact q
def GloFa (x : Str) : GC → He.Fa
  | .i n => .int x n
  | .s z => .str x z
section
variable {P : Program} {w : World} {K : PySem.W.Frag} {mg : Str → Option Value} {base : Heap}
theorem os_ok {E : PySem.W.Frag → Bool} (hE : E K = true) {L : List (Df × Stmt)} {defs : Dfs} {ms mk : List Oc} {tab : Str → Nat → SSp} {ca : Str → Addr} {h : Heap} {fa : List He.Fa} (X : K.In h) (Gn : h.Ns mainGlobals mg) (facts : ∀ f ∈ fa, He.Fa.ok K f = true) (hF : ∀ p ∈ L, ∃ fd, At K mg p (He.fAd K p.1.own) fd) (z : ∀ f args h R X, ¬ tab f 0 args h R X)
    (eof : ∀ C f, (C, f) ∈ defs.of → He.Fa.cls C ∈ fa ∧ He.Fa.noat C f ∈ fa) (eom : defs.om = ms.map fun c => (c.pn, c.C, c.m, c.n, c.ks)) (eok : defs.ok = mk.map fun c => (c.pn, c.C, c.n, c.ks))
    (f1 : ∀ c ∈ ms, He.Fa.cls c.C ∈ fa ∧ He.Fa.meth c.C c.m ∈ fa ∧ ∃ p ∈ L, OcOk E c p) (f2 : ∀ c ∈ mk, c.m = "__init__" ∧ He.Fa.mkr c.C ∈ fa ∧ He.Fa.glo c.C ∈ fa ∧ ∃ p ∈ L, OcOk E c p) (t1 : OmTab ms tab) (t2 : OkTab mk tab) (eg : ∀ x v, (x, v) ∈ defs.g → GloFa x v ∈ fa) (k : Nat)
    (below : ∀ j, j ≤ k → ∀ p ∈ L, ∀ f fd, At K mg p f fd → FnG P w K mg base (CX P w) (j + 3) f fd p.1.ps (liftSp K ca (tab p.1.name j))) : OsOk P w K mg base ca (k + 3) (fun x => tab x k) defs := by
  refine ⟨fun C f hm => ?_, fun pn C m n ks hm => ?_, fun pn C n ks hm => ?_, fun x v hm => ?_⟩
  · obtain ⟨h1, h2⟩ := eof C f hm
    exact ⟨He.cls_ok (facts _ h1), He.noat_ok (facts _ h2)⟩
  · rw [eom] at hm
    obtain ⟨c, hc, e⟩ := List.mem_map.mp hm
    simp only [Prod.mk.injEq] at e
    obtain ⟨rfl, rfl, rfl, rfl, rfl⟩ := e
    obtain ⟨h1, h2, p, hp, ok⟩ := f1 c hc
    obtain ⟨fd, a⟩ := hF p hp
    obtain ⟨dvs, kb, rd⟩ := ok.2.2 K _ fd hE a.fn
    have ea : He.fAd K p.1.own = He.ma K (He.ga K c.C) c.m := by rw [ok.1]; rfl
    refine ⟨_, p.1.name, He.cls_ok (facts _ h1), He.meth_ok (facts _ h2), ⟨c.pl, c.dss, dvs, fd, p.1.ps, tab p.1.name k, ?_, kb, rd, ?_⟩⟩
    · rw [← ea]
      exact below k (Nat.le_refl k) p hp _ fd a
    · rw [ok.2.1]
      exact t1 c hc k
  · rw [eok] at hm
    obtain ⟨c, hc, e⟩ := List.mem_map.mp hm
    simp only [Prod.mk.injEq] at e
    obtain ⟨rfl, rfl, rfl, rfl⟩ := e
    obtain ⟨h0, h1, h2, p, hp, ok⟩ := f2 c hc
    obtain ⟨fd, a⟩ := hF p hp
    obtain ⟨dvs, kb, rd⟩ := ok.2.2 K _ fd hE a.fn
    have ea : He.fAd K p.1.own = He.ma K (He.ga K c.C) "__init__" := by rw [ok.1, h0]; rfl
    cases k with
    | zero =>
      refine ⟨_, p.1.name, 2, He.mkr_ok (facts _ h1), He.glo_ok X Gn (facts _ h2), by omega, ⟨c.pl, c.dss, dvs, fd, p.1.ps, fun _ _ _ _ => False, ⟨fun vs H Q E ⟨ds, h, Z, R, X, _, _, q, _⟩ => q.elim, fun A outer s H args us vs Q E _ _ _ _ _ ⟨ds, h, Z, R, X, _, _, q, _⟩ => q.elim⟩, kb, rd, fun args h R E q => (z _ _ _ _ _ q).elim⟩⟩
    | succ k =>
      refine ⟨_, p.1.name, k + 3, He.mkr_ok (facts _ h1), He.glo_ok X Gn (facts _ h2), by omega, ⟨c.pl, c.dss, dvs, fd, p.1.ps, tab p.1.name k, ?_, kb, rd, ?_⟩⟩
      · rw [← ea]
        exact below k (by omega) p hp _ fd a
      · rw [ok.2.1]
        exact t2 c hc k
  · have q := facts _ (eg x v hm)
    cases v with
    | i n => exact He.int_ok X Gn q
    | s z => exact He.str_ok X Gn q
end
end SL
namespace Law
open PySem PySem.Spec L2 SL
def top (i : Nat) : Stmt := PySem.Challenge.pw_slopeyard_k06_rows_written_and_read.main.body.getD i (.Pass ⟨0, 0, 0, 0⟩)
def cps : List Cp := [⟨"read_row/1/count", "read_row", 1, ["count"], [.arg 0, .arg 1], []⟩]
def x_SlopeError : Df := { name := "SlopeError.__init__", ps := ["self", "called"], N := ["self", "called"], body := [], own := ("SlopeError", some "__init__"), fname := "__init__" }
def x_BadText : Df := { name := "BadText.__init__", ps := ["self", "row"], N := ["self", "row"], body := [], own := ("BadText", some "__init__"), fname := "__init__" }
def xds : List XD := [⟨⟨"SlopeError", "ValueError.__init__", .root "ValueError" "ValueError.__init__"⟩, x_SlopeError, inner (top 1) 0⟩, ⟨⟨"BadText", "ValueError.__init__", .fld "SlopeError" "row"⟩, x_BadText, inner (top 2) 0⟩]
def oms : List Oc := []
def oks : List Oc := []
def ofs : List (Str × Str) := []
def gls : List (Str × GC) := [("FIGURES", (.s "0123456789")), ("MARK", (.s "<=")), ("MOST_FIGURES", (.i (20)))]
def defs : Dfs := { d := [(("number_in" : Str), (1 : Nat)), (("numbers_text" : Str), (1 : Nat)), (("row_text" : Str), (1 : Nat)), (("_law_box" : Str), (1 : Nat)), (("_law_take" : Str), (2 : Nat)), (("_law_near" : Str), (2 : Nat)), (("_law_same" : Str), (2 : Nat)), (("_law_weights" : Str), (3 : Nat)), (("_law_row" : Str), (3 : Nat)), (("_law_number_in" : Str), (1 : Nat)), (("_law_row_in" : Str), (2 : Nat)), (("_law_row_text" : Str), (1 : Nat)), (("_law_bent" : Str), (2 : Nat)), (("_law_read" : Str), (2 : Nat)), (("law" : Str), (1 : Nat))], p := cps.map Cp.row, x := [(("SlopeError" : Str), none), (("BadText" : Str), some (some "row"))], of := ofs, om := oms.map fun c => (c.pn, c.C, c.m, c.n, c.ks), ok := oks.map fun c => (c.pn, c.C, c.n, c.ks), g := gls }
def f_number_in : Df := { name := "number_in", ps := ["word"], N := ["word", "figures", "sign"], body := [.asg (.nm 1) (.ife (.tm .starts (.var 0) (.cst (.str "-"))) (.sslc (.var 0) (some (.cst (.int 1))) none) (.var 0)), .ife (.bool false [(.not (.cmp2 .LtE .LtE (.cst (.int 1)) (.bi .len [(.var 1)]) (.glob "MOST_FIGURES" (.i (20))))), (.not (.bi .all [(.lc [("sign", 2)] (.nm 2) (.txt (.var 1)) [] (.t2 .inn (.var 2) (.glob "FIGURES" (.s "0123456789"))))]))]) [.ret (.cst .non)] [], .ife (.bool true [(.tm .starts (.var 1) (.cst (.str "0"))), (.cmp .NotEq (.var 0) (.cst (.str "0")))]) [.ret (.cst .non)] [], .ret (.bi .int [(.var 0)])] }
theorem m_f_number_in : (f_number_in.scB (defScope (top 7)) && mSs f_number_in.body (f_number_in.mc (defScope (top 7)) defs) (defBody (top 7))) = true := by decide +kernel
def f_numbers_text : Df := { name := "numbers_text", ps := ["numbers"], N := ["numbers", "number"], body := [.ret (.tm .join (.cst (.str " ")) (.lc [("number", 1)] (.nm 1) (.of (.var 0)) [] (.bi .str [(.var 1)])))] }
theorem m_f_numbers_text : (f_numbers_text.scB (defScope (top 8)) && mSs f_numbers_text.body (f_numbers_text.mc (defScope (top 8)) defs) (defBody (top 8))) = true := by decide +kernel
def f_row_text : Df := { name := "row_text", ps := ["row"], N := ["row"], body := [.ret (.fs [(.fmt (.call "numbers_text" [(.ix (.var 0) (.cst (.int 0)))])), (.cst (.str " ")), (.fmt (.glob "MARK" (.s "<="))), (.cst (.str " ")), (.fmt (.ix (.var 0) (.cst (.int 1))))])] }
theorem m_f_row_text : (f_row_text.scB (defScope (top 9)) && mSs f_row_text.body (f_row_text.mc (defScope (top 9)) defs) (defBody (top 9))) = true := by decide +kernel
def f_read_row : Df := { name := "read_row", ps := ["text", "count"], N := ["text", "count", "words", "numbers", "bound", "mark", "last", "heads", "word"], body := [.asg (.nm 2) (.tm .split (.var 0) (.cst (.str " "))), .ife (.bool false [(.cmp .NotEq (.bi .len [(.var 2)]) (.bin .Add (.var 1) (.cst (.int 2)))), (.cmp .NotEq (.ix (.var 2) (.neg (.cst (.int 2)))) (.glob "MARK" (.s "<=")))]) [.rais "BadText" (some ("row", (.cst (.int 0))))] [], .ust [7, 5, 6] 0 (.var 2), .asg (.nm 3) (.lc [("word", 8)] (.nm 8) (.of (.var 7)) [] (.call "number_in" [(.var 8)])), .asg (.nm 4) (.call "number_in" [(.fz (.var 6))]), .ife (.bool false [(.cmp .Is (.var 4) (.cst .non)), (.cmp .In (.cst .non) (.var 3))]) [.rais "BadText" (some ("row", (.cst (.int 0))))] [], .ret (.tup [(.bi .tuple [(.var 3)]), (.var 4)])], kwo := true }
theorem m_f_read_row : (f_read_row.scB (defScope (top 10)) && mSs f_read_row.body (f_read_row.mc (defScope (top 10)) defs) (defBody (top 10))) = true := by decide +kernel
def f_law_box : Df := { name := "_law_box", ps := ["_law_script"], N := ["_law_script"], body := [.ret (.lst [(.bi .list [(.slc (.var 0) none (some (.cst (.int 63))))]), (.cst (.int 0)), (.cst (.int 0)), (.bin .Add (.cst (.int 1009)) (.bin .Mult (.cst (.int 31)) (.bi .len [(.slc (.var 0) none (some (.cst (.int 63))))])))])] }
theorem m_f_law_box : (f_law_box.scB (defScope (top 12)) && mSs f_law_box.body (f_law_box.mc (defScope (top 12)) defs) (defBody (top 12))) = true := by decide +kernel
def f_law_take : Df := { name := "_law_take", ps := ["_law_box_here", "_law_many"], N := ["_law_box_here", "_law_many", "_law_seed", "_law_cell", "_law_got"], body := [.ife (.bool true [(.cmp .Eq (.ix (.var 0) (.cst (.int 2))) (.cst (.int 0))), (.cmp .Lt (.ix (.var 0) (.cst (.int 1))) (.bi .len [(.ix (.var 0) (.cst (.int 0)))]))]) [.asg (.nm 3) (.ix (.ix (.var 0) (.cst (.int 0))) (.ix (.var 0) (.cst (.int 1)))), .asub (.var 0) (.cst (.int 1)) (.bin .Add (.ix (.var 0) (.cst (.int 1))) (.cst (.int 1))), .ife (.cmp .GtE (.var 3) (.bin .Pow (.cst (.int 10)) (.cst (.int 18)))) [.asub (.var 0) (.cst (.int 2)) (.var 3)] [.asg (.nm 2) (.bin .Add (.bin .Mult (.ix (.var 0) (.cst (.int 3))) (.cst (.int 48271))) (.bin .Mod (.var 3) (.cst (.int 2147483563)))), .asub (.var 0) (.cst (.int 3)) (.bin .Mod (.bin .Add (.var 2) (.bin .Mult (.ix (.var 0) (.cst (.int 1))) (.cst (.int 69621)))) (.cst (.int 2147483399)))]] [], .ife (.cmp .Gt (.ix (.var 0) (.cst (.int 2))) (.cst (.int 0))) [.asg (.nm 4) (.bin .Mod (.ix (.var 0) (.cst (.int 2))) (.var 1)), .asub (.var 0) (.cst (.int 2)) (.bin .FloorDiv (.ix (.var 0) (.cst (.int 2))) (.var 1)), .ret (.var 4)] [], .asg (.nm 2) (.bin .Add (.bin .Mult (.ix (.var 0) (.cst (.int 3))) (.ix (.var 0) (.cst (.int 3)))) (.bin .Mult (.ix (.var 0) (.cst (.int 3))) (.cst (.int 40692)))), .asub (.var 0) (.cst (.int 3)) (.bin .Mod (.bin .Add (.bin .Add (.var 2) (.cst (.int 1234577))) (.ix (.var 0) (.cst (.int 1)))) (.cst (.int 2147483399))), .ret (.bin .Mod (.bin .Add (.bin .FloorDiv (.ix (.var 0) (.cst (.int 3))) (.cst (.int 7))) (.bin .Mult (.bin .Mod (.ix (.var 0) (.cst (.int 3))) (.cst (.int 10007))) (.cst (.int 31)))) (.var 1))] }
theorem m_f_law_take : (f_law_take.scB (defScope (top 13)) && mSs f_law_take.body (f_law_take.mc (defScope (top 13)) defs) (defBody (top 13))) = true := by decide +kernel
def f_law_near : Df := { name := "_law_near", ps := ["_law_box_here", "_law_far"], N := ["_law_box_here", "_law_far"], body := [.ret (.bin .Sub (.call "_law_take" [(.var 0), (.bin .Add (.bin .Mult (.cst (.int 2)) (.var 1)) (.cst (.int 1)))]) (.var 1))] }
theorem m_f_law_near : (f_law_near.scB (defScope (top 14)) && mSs f_law_near.body (f_law_near.mc (defScope (top 14)) defs) (defBody (top 14))) = true := by decide +kernel
def f_law_same : Df := { name := "_law_same", ps := ["_law_found", "_law_due"], N := ["_law_found", "_law_due", "_law_one", "_law_other"], body := [.ife (.cmp .Is (.var 1) (.cst .non)) [.ret (.cmp .Is (.var 0) (.cst .non))] [], .ife (.bool false [(.isi (.var 1) "list"), (.isi (.var 1) "tuple")]) [.ife (.bool false [(.cmp .NotEq (.isi (.var 0) "list") (.isi (.var 1) "list")), (.cmp .NotEq (.isi (.var 0) "tuple") (.isi (.var 1) "tuple"))]) [.ret (.cst (.bl false))] [], .ret (.bool true [(.cmp .Eq (.bi .len [(.var 0)]) (.bi .len [(.var 1)])), (.bi .all [(.lc [("_law_one", 2), ("_law_other", 3)] (.tup [(.nm 2), (.nm 3)]) (.zip [(.var 0), (.var 1)]) [] (.call "_law_same" [(.var 2), (.var 3)]))])])] [], .ife (.bool false [(.cmp .NotEq (.isi (.var 1) "bool") (.isi (.var 0) "bool")), (.cmp .NotEq (.isi (.var 1) "int") (.isi (.var 0) "int"))]) [.ret (.cst (.bl false))] [], .ret (.bool true [(.cmp .Eq (.isi (.var 0) "str") (.isi (.var 1) "str")), (.cmp .Eq (.var 0) (.var 1))])] }
theorem m_f_law_same : (f_law_same.scB (defScope (top 15)) && mSs f_law_same.body (f_law_same.mc (defScope (top 15)) defs) (defBody (top 15))) = true := by decide +kernel
def f_law_weights : Df := { name := "_law_weights", ps := ["_law_box_here", "_law_my_count", "_law_far"], N := ["_law_box_here", "_law_my_count", "_law_far", "_law_way", "_law_found", "_law_at", "_law_sign", "_law_k"], body := [.asg (.nm 3) (.call "_law_take" [(.var 0), (.cst (.int 5))]), .ife (.cmp .Eq (.var 3) (.cst (.int 0))) [.asg (.nm 5) (.call "_law_take" [(.var 0), (.var 1)]), .asg (.nm 6) (.ix (.lst [(.cst (.int 1)), (.neg (.cst (.int 1)))]) (.call "_law_take" [(.var 0), (.cst (.int 2))])), .ret (.bi .tuple [(.lc [("_law_k", 7)] (.nm 7) (.rng (.var 1)) [] (.bin .Mult (.var 6) (.bi .int [(.cmp .Eq (.var 7) (.var 5))])))])] [], .asg (.nm 4) (.lc [("_law_k", 7)] (.nm 7) (.rng (.var 1)) [] (.call "_law_near" [(.var 0), (.var 2)])), .ife (.bool true [(.cmp .Eq (.var 3) (.cst (.int 1))), (.cmp .Gt (.var 1) (.cst (.int 1)))]) [.asub (.var 4) (.call "_law_take" [(.var 0), (.var 1)]) (.cst (.int 0))] [], .ret (.bi .tuple [(.var 4)])] }
theorem m_f_law_weights : (f_law_weights.scB (defScope (top 16)) && mSs f_law_weights.body (f_law_weights.mc (defScope (top 16)) defs) (defBody (top 16))) = true := by decide +kernel
def f_law_row : Df := { name := "_law_row", ps := ["_law_box_here", "_law_my_count", "_law_far"], N := ["_law_box_here", "_law_my_count", "_law_far"], body := [.ret (.tup [(.call "_law_weights" [(.var 0), (.var 1), (.var 2)]), (.call "_law_near" [(.var 0), (.bin .Mult (.cst (.int 3)) (.var 2))])])] }
theorem m_f_law_row : (f_law_row.scB (defScope (top 17)) && mSs f_law_row.body (f_law_row.mc (defScope (top 17)) defs) (defBody (top 17))) = true := by decide +kernel
def f_law_number_in : Df := { name := "_law_number_in", ps := ["_law_word"], N := ["_law_word", "_law_figures", "_law_sign"], body := [.asg (.nm 1) (.ife (.cmp .Eq (.sslc (.var 0) none (some (.cst (.int 1)))) (.cst (.str "-"))) (.sslc (.var 0) (some (.cst (.int 1))) none) (.var 0)), .ife (.bool false [(.not (.cmp2 .LtE .LtE (.cst (.int 1)) (.bi .len [(.var 1)]) (.cst (.int 20)))), (.not (.bi .all [(.lc [("_law_sign", 2)] (.nm 2) (.txt (.var 1)) [] (.t2 .inn (.var 2) (.cst (.str "0123456789"))))]))]) [.ret (.cst .non)] [], .ret (.ife (.bool true [(.cmp .Eq (.t2 .ix (.var 1) (.cst (.int 0))) (.cst (.str "0"))), (.cmp .NotEq (.var 0) (.cst (.str "0")))]) (.cst .non) (.bi .int [(.var 0)]))] }
theorem m_f_law_number_in : (f_law_number_in.scB (defScope (top 18)) && mSs f_law_number_in.body (f_law_number_in.mc (defScope (top 18)) defs) (defBody (top 18))) = true := by decide +kernel
def f_law_row_in : Df := { name := "_law_row_in", ps := ["_law_text", "_law_my_count"], N := ["_law_text", "_law_my_count", "_law_words", "_law_numbers", "_law_word"], body := [.asg (.nm 2) (.tm .split (.var 0) (.cst (.str " "))), .ife (.bool false [(.cmp .NotEq (.bi .len [(.var 2)]) (.bin .Add (.var 1) (.cst (.int 2)))), (.cmp .NotEq (.ix (.var 2) (.neg (.cst (.int 2)))) (.cst (.str "<=")))]) [.ret (.cst .non)] [], .asg (.nm 3) (.lc [("_law_word", 4)] (.nm 4) (.of (.bin .Add (.slc (.var 2) none (some (.neg (.cst (.int 2))))) (.slc (.var 2) (some (.neg (.cst (.int 1)))) none))) [] (.call "_law_number_in" [(.var 4)])), .ret (.ife (.cmp .In (.cst .non) (.var 3)) (.cst .non) (.tup [(.bi .tuple [(.slc (.var 3) none (some (.neg (.cst (.int 1)))))]), (.ix (.var 3) (.neg (.cst (.int 1))))]))] }
theorem m_f_law_row_in : (f_law_row_in.scB (defScope (top 19)) && mSs f_law_row_in.body (f_law_row_in.mc (defScope (top 19)) defs) (defBody (top 19))) = true := by decide +kernel
def f_law_row_text : Df := { name := "_law_row_text", ps := ["_law_row_here"], N := ["_law_row_here", "_law_weight"], body := [.ret (.bin .Add (.bin .Add (.tm .join (.cst (.str " ")) (.lc [("_law_weight", 1)] (.nm 1) (.of (.ix (.var 0) (.cst (.int 0)))) [] (.bi .str [(.var 1)]))) (.cst (.str " <= "))) (.bi .str [(.ix (.var 0) (.cst (.int 1)))]))] }
theorem m_f_law_row_text : (f_law_row_text.scB (defScope (top 20)) && mSs f_law_row_text.body (f_law_row_text.mc (defScope (top 20)) defs) (defBody (top 20))) = true := by decide +kernel
def f_law_bent : Df := { name := "_law_bent", ps := ["_law_box_here", "_law_text"], N := ["_law_box_here", "_law_text", "_law_at", "_law_sign", "_law_words", "_law_to", "_law_odd", "_law_way"], body := [.asg (.nm 2) (.call "_law_take" [(.var 0), (.fz (.bin .Add (.bi .len [(.var 1)]) (.cst (.int 1))))]), .asg (.nm 3) (.t2 .ix (.cst (.str " -0123456789<=;+a")) (.call "_law_take" [(.var 0), (.cst (.int 17))])), .asg (.nm 4) (.tm .split (.var 1) (.cst (.str " "))), .asg (.nm 5) (.call "_law_take" [(.var 0), (.bi .len [(.var 4)])]), .asg (.nm 6) (.ix (.lst [(.cst (.str "")), (.cst (.str "-")), (.cst (.str "0")), (.cst (.str "-0")), (.cst (.str "01")), (.cst (.str "<=")), (.cst (.str "<")), (.t2 .mul (.cst (.str "1")) (.cst (.int 20))), (.t2 .mul (.cst (.str "9")) (.cst (.int 21))), (.cst (.str "-5"))]) (.call "_law_take" [(.var 0), (.cst (.int 10))])), .asg (.nm 7) (.call "_law_take" [(.var 0), (.cst (.int 7))]), .ife (.cmp .Eq (.var 7) (.cst (.int 0))) [.ret (.bin .Add (.bin .Add (.sslc (.var 1) none (some (.var 2))) (.var 3)) (.sslc (.var 1) (some (.var 2)) none))] [], .ife (.cmp .Eq (.var 7) (.cst (.int 1))) [.ret (.bin .Add (.sslc (.var 1) none (some (.var 2))) (.sslc (.var 1) (some (.bin .Add (.var 2) (.cst (.int 1)))) none))] [], .ife (.cmp .Eq (.var 7) (.cst (.int 2))) [.ret (.bin .Add (.bin .Add (.sslc (.var 1) none (some (.var 2))) (.var 3)) (.sslc (.var 1) (some (.bin .Add (.var 2) (.cst (.int 1)))) none))] [], .ife (.cmp .Eq (.var 7) (.cst (.int 3))) [.ret (.tm .join (.cst (.str " ")) (.bin .Add (.slc (.var 4) none (some (.var 5))) (.slc (.var 4) (some (.bin .Add (.var 5) (.cst (.int 1)))) none)))] [], .ife (.cmp .Eq (.var 7) (.cst (.int 4))) [.ret (.tm .join (.cst (.str " ")) (.bin .Add (.bin .Add (.slc (.var 4) none (some (.var 5))) (.lst [(.var 6)])) (.slc (.var 4) (some (.var 5)) none)))] [], .ret (.ife (.cmp .Eq (.var 7) (.cst (.int 5))) (.tm .join (.cst (.str " ")) (.bin .Add (.bin .Add (.slc (.var 4) none (some (.var 5))) (.lst [(.var 6)])) (.slc (.var 4) (some (.bin .Add (.var 5) (.cst (.int 1)))) none))) (.var 1))] }
theorem m_f_law_bent : (f_law_bent.scB (defScope (top 21)) && mSs f_law_bent.body (f_law_bent.mc (defScope (top 21)) defs) (defBody (top 21))) = true := by decide +kernel
def f_law_read : Df := { name := "_law_read", ps := ["_law_text", "_law_my_count"], N := ["_law_text", "_law_my_count", "e"], body := [.try [.ret (.tup [(.callP "read_row/1/count" ["count"] [(.var 0)] [(.fz (.var 1))]), (.cst .non)])] [⟨"BadText", some 2, .ret (.pair (.cst .non) (.fld "row"))⟩]] }
theorem m_f_law_read : (f_law_read.scB (defScope (top 22)) && mSs f_law_read.body (f_law_read.mc (defScope (top 22)) defs) (defBody (top 22))) = true := by decide +kernel
def f_law : Df := { name := "law", ps := ["_law_script"], N := ["_law_script", "_law_box_here", "_law_k", "_law_my_count", "_law_row_here", "_law_text", "_law_turn", "_law_size", "_law_due"], body := [.asg (.nm 1) (.box (.call "_law_box" [(.fz (.var 0))])), .for (.nm 2) (.rng (.cst (.int 3))) [.asg (.nm 3) (.bin .Add (.cst (.int 1)) (.call "_law_take" [(.var 1), (.cst (.int 4))])), .asg (.nm 4) (.call "_law_row" [(.var 1), (.fz (.var 3)), (.ix (.lst [(.cst (.int 9)), (.bin .Pow (.cst (.int 10)) (.cst (.int 12)))]) (.call "_law_take" [(.var 1), (.cst (.int 2))]))]), .asg (.nm 5) (.call "_law_row_text" [(.fz (.var 4))]), .ife (.bool false [(.not (.call "_law_same" [(.fz (.call "row_text" [(.fz (.var 4))])), (.var 5)])), (.not (.call "_law_same" [(.fz (.call "_law_read" [(.var 5), (.fz (.var 3))])), (.tup [(.var 4), (.cst .non)])]))]) [.ret (.cst (.bl false))] [], .for (.nm 6) (.rng (.cst (.int 4))) [.asg (.nm 5) (.call "_law_bent" [(.var 1), (.fz (.call "_law_row_text" [(.fz (.var 4))]))]), .asg (.nm 7) (.bi .max [(.cst (.int 1)), (.bin .Add (.var 3) (.ix (.lst [(.cst (.int 0)), (.cst (.int 0)), (.cst (.int 1)), (.neg (.cst (.int 1)))]) (.call "_law_take" [(.var 1), (.cst (.int 4))])))]), .asg (.nm 8) (.call "_law_row_in" [(.var 5), (.fz (.var 7))]), .ife (.not (.call "_law_same" [(.fz (.call "_law_read" [(.var 5), (.fz (.var 7))])), (.tup [(.var 8), (.ife (.cmp .IsNot (.var 8) (.cst .non)) (.cst .non) (.cst (.int 0)))])])) [.ret (.cst (.bl false))] []]], .ret (.call "_law_same" [(.fz (.call "_law_read" [(.cst (.str "")), (.cst (.int 1))])), (.tup [(.cst .non), (.cst (.int 0))])])] }
theorem m_f_law : (f_law.scB (defScope (top 23)) && mSs f_law.body (f_law.mc (defScope (top 23)) defs) (defBody (top 23))) = true := by decide +kernel
end Law
namespace Law
open PySem PySem.Spec PyProof.Rows L2 SL
def tops : List (Df × Stmt) := [(f_number_in, top 7), (f_numbers_text, top 8), (f_row_text, top 9), (f_read_row, top 10), (f_law_box, top 12), (f_law_take, top 13), (f_law_near, top 14), (f_law_same, top 15), (f_law_weights, top 16), (f_law_row, top 17), (f_law_number_in, top 18), (f_law_row_in, top 19), (f_law_row_text, top 20), (f_law_bent, top 21), (f_law_read, top 22), (f_law, top 23)]
def alls : List (Df × Stmt) := [(f_number_in, top 7), (f_numbers_text, top 8), (f_row_text, top 9), (f_read_row, top 10), (f_law_box, top 12), (f_law_take, top 13), (f_law_near, top 14), (f_law_same, top 15), (f_law_weights, top 16), (f_law_row, top 17), (f_law_number_in, top 18), (f_law_row_in, top 19), (f_law_row_text, top 20), (f_law_bent, top 21), (f_law_read, top 22), (f_law, top 23), (x_SlopeError, inner (top 1) 0), (x_BadText, inner (top 2) 0)]
theorem xAll : xsB xds defs.x = true := by decide +kernel
theorem mAll : tops.all (matchB defs) = true := by decide +kernel
theorem cAll : coverB defs tops = true := by decide +kernel
theorem bAll : ∀ p ∈ alls, ArgsOk p := by
  intro p hp
  simp only [alls, List.mem_cons, List.mem_nil_iff, or_false] at hp
  rcases hp with rfl | rfl | rfl | rfl | rfl | rfl | rfl | rfl | rfl | rfl | rfl | rfl | rfl | rfl | rfl | rfl | rfl | rfl
  · exact fun _ _ _ _ _ _ _ _ _ us hl => match us, hl with | [_], _ => rfl
  · exact fun _ _ _ _ _ _ _ _ _ us hl => match us, hl with | [_], _ => rfl
  · exact fun _ _ _ _ _ _ _ _ _ us hl => match us, hl with | [_], _ => rfl
  · exact fun h0 h1 h2 => by first | exact absurd h2 (List.cons_ne_nil _ _) | exact absurd h1 (List.cons_ne_nil _ _) | exact Bool.noConfusion h0
  · exact fun _ _ _ _ _ _ _ _ _ us hl => match us, hl with | [_], _ => rfl
  · exact fun _ _ _ _ _ _ _ _ _ us hl => match us, hl with | [_, _], _ => rfl
  · exact fun _ _ _ _ _ _ _ _ _ us hl => match us, hl with | [_, _], _ => rfl
  · exact fun _ _ _ _ _ _ _ _ _ us hl => match us, hl with | [_, _], _ => rfl
  · exact fun _ _ _ _ _ _ _ _ _ us hl => match us, hl with | [_, _, _], _ => rfl
  · exact fun _ _ _ _ _ _ _ _ _ us hl => match us, hl with | [_, _, _], _ => rfl
  · exact fun _ _ _ _ _ _ _ _ _ us hl => match us, hl with | [_], _ => rfl
  · exact fun _ _ _ _ _ _ _ _ _ us hl => match us, hl with | [_, _], _ => rfl
  · exact fun _ _ _ _ _ _ _ _ _ us hl => match us, hl with | [_], _ => rfl
  · exact fun _ _ _ _ _ _ _ _ _ us hl => match us, hl with | [_, _], _ => rfl
  · exact fun _ _ _ _ _ _ _ _ _ us hl => match us, hl with | [_, _], _ => rfl
  · exact fun _ _ _ _ _ _ _ _ _ us hl => match us, hl with | [_], _ => rfl
  · exact fun _ _ _ _ _ _ _ _ _ us hl => match us, hl with | [_, _], _ => rfl
  · exact fun _ _ _ _ _ _ _ _ _ us hl => match us, hl with | [_, _], _ => rfl
def exE (K : PySem.W.Frag) : Bool := true
def exX (K : PySem.W.Frag) : Bool := exB xds K && exE K
theorem cp_0 : CpOk (cps.getD 0 ⟨"", "", 0, [], [], []⟩) (f_read_row, top 10) := ⟨rfl, rfl, fun K f fd F => ⟨_, kb_plain F fun _ _ _ _ _ _ us ws h1 h2 => match us, ws, h1, h2 with | [_], [_], _, _ => rfl, fun Z H => .nil⟩⟩
def more : List He.Fa := [.str "FIGURES" "0123456789", .str "MARK" "<=", .int "MOST_FIGURES" (20)]
theorem moreIn {f : He.Fa} (h : f ∈ more) : f ∈ faL alls more := List.mem_append_right _ (List.mem_append_right _ h)
theorem omAll : ∀ c ∈ oms, He.Fa.cls c.C ∈ faL alls more ∧ He.Fa.meth c.C c.m ∈ faL alls more ∧ ∃ p ∈ tops, OcOk exE c p := by
  intro c hc
  simp only [oms, List.mem_cons, List.mem_nil_iff, or_false] at hc
theorem okAll : ∀ c ∈ oks, c.m = "__init__" ∧ He.Fa.mkr c.C ∈ faL alls more ∧ He.Fa.glo c.C ∈ faL alls more ∧ ∃ p ∈ tops, OcOk exE c p := by
  intro c hc
  simp only [oks, List.mem_cons, List.mem_nil_iff, or_false] at hc
theorem ofAll : ∀ C f, (C, f) ∈ defs.of → He.Fa.cls C ∈ faL alls more ∧ He.Fa.noat C f ∈ faL alls more := by
  intro C f h
  have h : (C, f) ∈ ofs := h
  simp only [ofs, List.mem_cons, List.mem_nil_iff, or_false, Prod.mk.injEq] at h
theorem glAll : ∀ x v, (x, v) ∈ defs.g → GloFa x v ∈ faL alls more := by
  intro x v h
  have h : (x, v) ∈ gls := h
  simp only [gls, List.mem_cons, List.mem_nil_iff, or_false, Prod.mk.injEq] at h
  rcases h with ⟨rfl, rfl⟩ | ⟨rfl, rfl⟩ | ⟨rfl, rfl⟩
  all_goals exact moreIn (by simp [more, GloFa])
theorem cpAll : ∀ c ∈ cps, ∃ p ∈ tops, CpOk c p := by
  intro c hc
  simp only [cps, List.mem_cons, List.mem_nil_iff, or_false] at hc
  rcases hc with rfl
  · exact ⟨_, by simp [tops], cp_0⟩
theorem ownAll : ∀ p ∈ alls, p.1.own.2 = none → p.1.own.1 = p.1.name := by
  intro p hp
  simp only [alls, List.mem_cons, List.mem_nil_iff, or_false] at hp
  rcases hp with rfl | rfl | rfl | rfl | rfl | rfl | rfl | rfl | rfl | rfl | rfl | rfl | rfl | rfl | rfl | rfl | rfl | rfl <;> first | exact fun _ => rfl | exact fun z => nomatch z
theorem topsIn : ∀ p ∈ tops, p ∈ alls := by
  intro p hp
  simp only [tops, alls, List.mem_cons, List.mem_nil_iff, or_false] at hp ⊢
  rcases hp with rfl | rfl | rfl | rfl | rfl | rfl | rfl | rfl | rfl | rfl | rfl | rfl | rfl | rfl | rfl | rfl <;> simp
theorem xIn : ∀ x ∈ xds, (x.d, x.s) ∈ alls := by
  intro x hx
  simp only [xds, List.mem_cons, List.mem_nil_iff, or_false] at hx
  rcases hx with rfl | rfl <;> simp [alls, xds]
abbrev Rw : PySem.W.OpenRow := PySem.W.OpenLaw.row PySem.Challenge.rw_slopeyard_k06_rows_written_and_read
abbrev hk : PySem.W.Hook := hookE 4 (faL alls more) (fnL alls) exX
def ob (s : PySem.W.SharedT) : He.AlD × Bool := obsE 4 (faL alls more) (fnL alls) exX (HandSHeadRun.getT s)
theorem ob_eq (s : PySem.W.SharedT) : ob s = hk.obs s.abs := obsE_eq (HandSHeadRun.getT_eq s)
def names : List PySem.Str := [("SlopeError" : PySem.Str), ("BadText" : PySem.Str), ("MOST_FIGURES" : PySem.Str), ("FIGURES" : PySem.Str), ("MARK" : PySem.Str), ("number_in" : PySem.Str), ("numbers_text" : PySem.Str), ("row_text" : PySem.Str), ("read_row" : PySem.Str), ("_law_box" : PySem.Str), ("_law_take" : PySem.Str), ("_law_near" : PySem.Str), ("_law_same" : PySem.Str), ("_law_weights" : PySem.Str), ("_law_row" : PySem.Str), ("_law_number_in" : PySem.Str), ("_law_row_in" : PySem.Str), ("_law_row_text" : PySem.Str), ("_law_bent" : PySem.Str), ("_law_read" : PySem.Str)]
theorem run (w : World) : HandSHeadRun.RunEq Rw (PySem.W.view Rw.prog [23]) hk ob 6000 names w := by
  intro os
  kernel_rfl
theorem facts {w : World} {tab : Str → Nat → SSp} {glob : Str → Option SV} (ht : tab "law" = spLaw 63 20) (z : ∀ f args h R X, ¬ tab f 0 args h R X) (hw : ∀ p ∈ tops, Kept tab glob p.1) (hct : CpTab cps tab) (ho1 : OmTab oms tab) (ho2 : OkTab oks tab) {K : PySem.W.Frag} {h : Heap} {mg : Str → Option Value} {f : Addr} (X : K.In h) (G : h.Ns mainGlobals mg) (hfa : mg ("law" : Str) = some (.ref f)) (c : He.SaysD (faL alls more) (fnL alls) K) (cx : exX K = true) :
    ∃ fd : FuncData, (∀ (s : Shared) (v : Value), BindsTo s fd ⟨[v], []⟩ [("_law_script", v)]) ∧ ∀ base : Heap, K.In base → base.Ns mainGlobals mg → FnG PySem.Challenge.pw_slopeyard_k06_rows_written_and_read w K mg base (CX PySem.Challenge.pw_slopeyard_k06_rows_written_and_read w) 200 f fd ["_law_script"] (liftSp K (He.ga K) (spLaw 63 20 197)) := by
  obtain ⟨ats, blt⟩ := at_all X G c ownAll bAll
  have hp : (f_law, top 23) ∈ tops := by simp [tops]
  obtain ⟨fd, a⟩ := ats _ (topsIn _ hp)
  have e := hfa.symm.trans (a.mg rfl)
  cases e
  refine ⟨fd, fun s v => FunD.bindsA (ps := ["_law_script"]) a.fn (bAll _ (topsIn _ hp) rfl rfl rfl) s [v] rfl, fun base _ _ => ?_⟩
  have q := fam (P := PySem.Challenge.pw_slopeyard_k06_rows_written_and_read) (w := w) (base := base) (ca := He.ga K) (fun p hp => ⟨_, ats p (topsIn p hp)⟩) mAll cAll z hw blt (fun m hm => xs_ok X G (fun x hx => ats _ (xIn x hx)) xAll (ba cx).1 blt m hm) (os_ok (ba cx).2 X G (facts_of c) (fun p hp => ats p (topsIn p hp)) z ofAll rfl rfl omAll okAll ho1 ho2 glAll) rfl cpAll hct 197 _ hp _ _ a
  have e2 : tab f_law.name 197 = spLaw 63 20 197 := congrFun ht 197
  rw [e2] at q
  exact q
end Law
section
open PySem PySem.W PySem.Calls PyProof.Rows
theorem law_of {tab : Str → Nat → SL.SSp} {glob : Str → Option SL.SV} (ht : tab "law" = SL.spLaw 63 20) (z : ∀ f args h R X, ¬ tab f 0 args h R X) (hwp : ∀ p ∈ Law.tops, SL.Kept tab glob p.1) (hct : SL.CpTab Law.cps tab) (ho1 : SL.OmTab Law.oms tab) (ho2 : SL.OkTab Law.oks tab) : PySem.Challenge.rw_slopeyard_k06_rows_written_and_read.Holds := by
  w_on; o_law
  refine HandSHeadRun.head_any (r := OpenLaw.row PySem.Challenge.rw_slopeyard_k06_rows_written_and_read) (q := view (OpenLaw.row PySem.Challenge.rw_slopeyard_k06_rows_written_and_read).prog [23]) (H := Law.hk) (ob := Law.ob) (M := 6000) (loose := Law.names) (d := HandSHeadRun.topDef (OpenLaw.row PySem.Challenge.rw_slopeyard_k06_rows_written_and_read).prog 23) (kwd := []) Law.ob_eq
    (by kernel_rfl) (fun s => by kernel_rfl) Law.run (by kernel_rfl) (by kernel_rfl) (by kernel_rfl) (by rfl) (by first | assumption | decide +kernel) (by decide +kernel) ⟨rfl, rfl, rfl, rfl, rfl, by decide +kernel⟩ ?hw ?hc
  case hw => w_witness2
  case hc =>
    refine SL.walkW (l := PySem.Challenge.rw_slopeyard_k06_rows_written_and_read) (n := 63) (k := 200) (x := "_law_script") rfl (by decide) (by kernel_rfl) ⟨rfl, by decide, by decide⟩ ?F
    intro w mg fa h Y G hmg0
    obtain ⟨K, KX, c, cx⟩ := Y
    have hmg : mg ("law" : PySem.Str) = some (.ref fa) := by
      have e : (HandSHeadRun.topDef (OpenLaw.row PySem.Challenge.rw_slopeyard_k06_rows_written_and_read).prog 23).name = ("law" : PySem.Str) := by kernel_rfl
      rw [← e]
      exact hmg0
    obtain ⟨fd, hb, hF⟩ := Law.facts (w := w) ht z hwp hct ho1 ho2 KX G hmg c cx
    exact ⟨K, fd, _, KX, hb, fun H a ns hl on hS => SL.law_sp (by decide) hl on hS, hF⟩
end
/-! Q1: rules for loops, for numbers. -/
namespace SL
open PySem PySem.Spec L2
section
variable {G : Gm} {δ : SSt} {h : SHp} {D : SEnds}
theorem whl_rule {c : SE} {body : List SS} (I : Nat → SSt → SHp → Prop) {n : Nat} (h0 : I n δ h)
    (hs : ∀ n δ h (K : SSt → SHp → Prop), (∀ m δ h, m < n → I m δ h → K δ h) → I n δ h → wpE G c δ h fun r δ1 h1 => ∃ k, r = .bl k ∧ match k with
      | true => wpSs G body δ1 h1 { nx := K, rt := D.rt, bk := D.nx, ct := K }
      | false => D.nx δ1 h1) : wpS G (.whl c body) δ h D := by
  have all : ∀ N n δ h, n < N → I n δ h → whileN (fun δ h Q => wpE G c δ h Q) (fun δ h D => wpSs G body δ h D) N δ h D := by
    intro N
    induction N with
    | zero => intro n δ h hn; omega
    | succ N ih =>
      intro n δ h hn hi
      simp only [whileN]
      exact hs n δ h _ (fun m δ h hm hi => ih m δ h (by omega) hi) hi
  simp only [wpS]
  exact ⟨n + 1, all (n + 1) n δ h (Nat.lt_succ_self n) h0⟩
theorem for_rule {gd : Gd} {tg : SV → SSt → SHp → (SSt → SHp → Prop) → Prop} {body : SSt → SHp → SEnds → Prop} (I : List SV → List SV → SSt → SHp → Prop) {items : List SV} (h0 : I [] items δ h)
    (hs : ∀ done x todo δ h (K : SSt → SHp → Prop), I done (x :: todo) δ h → (∀ δ h, I (done ++ [x]) todo δ h → K δ h) → gd h ∧ tg x δ h fun δ1 h1 => body δ1 h1 { nx := K, rt := D.rt, bk := D.nx, ct := K })
    (he : ∀ δ h, I items [] δ h → gd h ∧ D.nx δ h) : forLoop gd tg body items δ h D := by
  have all : ∀ todo done δ h, done ++ todo = items → I done todo δ h → forLoop gd tg body todo δ h D := by
    intro todo
    induction todo with
    | nil =>
      intro done δ h e hi
      simp only [forLoop]
      rw [List.append_nil] at e
      subst e
      exact he δ h hi
    | cons x todo ih =>
      intro done δ h e hi
      simp only [forLoop]
      exact hs done x todo δ h _ hi fun δ h hi => ih (done ++ [x]) δ h (by simpa using e) hi
  exact all items [] δ h rfl h0
theorem lc_rule {gd : Gd} {vs : List Nat} {tg : SV → SSt → SHp → (SSt → SHp → Prop) → Prop} {test : SSt → SHp → (Bool → SSt → SHp → Prop) → Prop} {elt : SSt → SHp → Post → Prop} {Q : List SV → SSt → SHp → Prop} (I : List SV → List SV → List SV → SSt → SHp → Prop) {items : List SV} (h0 : I [] items [] δ h)
    (hs : ∀ done x todo acc δ h (K : List SV → SSt → SHp → Prop), I done (x :: todo) acc δ h → (∀ acc δ h, I (done ++ [x]) todo acc δ h → K acc δ h) → gd h ∧ tg x δ h fun δ1 h1 => test δ1 h1 fun b δ2 h2 => match b with
      | true => elt δ2 h2 fun d δ3 h3 => stow d δ3 h3 fun e δ4 h4 => acc.length < sizeLine ∧ K (acc ++ [e]) (wipeS δ4 vs) h4
      | false => K acc (wipeS δ2 vs) h2)
    (he : ∀ acc δ h, I items [] acc δ h → gd h ∧ Q acc δ h) : lcLoop gd vs tg test elt items [] δ h Q := by
  have all : ∀ todo done acc δ h, done ++ todo = items → I done todo acc δ h → lcLoop gd vs tg test elt todo acc δ h Q := by
    intro todo
    induction todo with
    | nil =>
      intro done acc δ h e hi
      simp only [lcLoop]
      rw [List.append_nil] at e
      subst e
      exact he acc δ h hi
    | cons x todo ih =>
      intro done acc δ h e hi
      simp only [lcLoop]
      exact hs done x todo acc δ h _ hi fun acc δ h hi => ih (done ++ [x]) acc δ h (by simpa using e) hi
  exact all items [] [] δ h rfl h0
end
/-! ### the table of promises -/
def tabOf (L : List (Str × (Nat → SSp))) (f : Str) (k : Nat) : SSp := match L.lookup f with
  | some s => s k
  | none => fun _ _ _ _ => False
theorem tabOf0 {L : List (Str × (Nat → SSp))} (z : ∀ s ∈ L.map (·.2), ∀ args h R X, ¬ s 0 args h R X) : ∀ f args h R X, ¬ tabOf L f 0 args h R X := by
  intro f args h R X q
  unfold tabOf at q
  cases e : L.lookup f with
  | none => simp only [e] at q
  | some s =>
    simp only [e] at q
    refine z s ?_ args h R X q
    clear z q
    induction L with
    | nil => cases e
    | cons a L ih =>
      simp only [List.lookup] at e
      split at e
      · cases e; exact List.mem_cons_self
      · exact List.mem_cons_of_mem _ (ih e)
/-! ### numbers -/
/-- small enough for every reckoning -/
def Sm (n : Nat) (i : Int) : Prop := i.natAbs < 2 ^ n
theorem Sm.bits {n : Nat} {i : Int} (h : Sm n i) : Builtin.Int.intBits i ≤ n := by
  unfold Builtin.Int.intBits
  split
  · exact Nat.zero_le _
  · rename_i q
    have q : i.natAbs ≠ 0 := by simpa using q
    have := (Nat.log2_lt q).mpr h
    omega
theorem Sm.mulOk {n m : Nat} {i j : Int} (h1 : Sm n i) (h2 : Sm m j) (hb : n + m ≤ 100000000) : IntMulOk i j := by
  have b1 := h1.bits
  have b2 := h2.bits
  unfold IntMulOk
  intro z
  rw [Bool.and_eq_true] at z
  have z2 : Builtin.Int.intTooBig ((Builtin.Int.intBits i : Int) + (Builtin.Int.intBits j : Int)) = true := by simpa using z.2
  unfold Builtin.Int.intTooBig at z2
  have z3 := of_decide_eq_true z2
  have hl : (100000000 : Int) ≤ (bitsLine : Int) := by decide
  omega
theorem Sm.mono {n m : Nat} {i : Int} (h : Sm n i) (hm : n ≤ m) : Sm m i := Nat.lt_of_lt_of_le h (Nat.pow_le_pow_right (by decide) hm)
theorem Sm.mul {n m : Nat} {i j : Int} (h1 : Sm n i) (h2 : Sm m j) : Sm (n + m) (i * j) := by
  unfold Sm at *
  rw [Int.natAbs_mul, Nat.pow_add]
  exact Nat.mul_lt_mul'' h1 h2
theorem Sm.add {n : Nat} {i j : Int} (h1 : Sm n i) (h2 : Sm n j) : Sm (n + 1) (i + j) := by
  unfold Sm at *
  have := Int.natAbs_add_le i j
  rw [Nat.pow_succ]
  omega
theorem Sm.neg {n : Nat} {i : Int} (h : Sm n i) : Sm n (-i) := by unfold Sm at *; rwa [Int.natAbs_neg]
theorem Sm.sub {n : Nat} {i j : Int} (h1 : Sm n i) (h2 : Sm n j) : Sm (n + 1) (i - j) := by rw [Int.sub_eq_add_neg]; exact h1.add h2.neg
theorem Sm.divOk {n : Nat} {i j : Int} (h : Sm n j) (hn : n ≤ 9000) (hj : 0 < j) : DivOk i j := by
  refine ⟨hj, PyProof.noPylong_of_log2 ?_⟩
  have q : j.natAbs ≠ 0 := by omega
  have := (Nat.log2_lt q).mpr h
  omega
theorem Sm.of_le {n : Nat} {i : Int} (m : Nat) (h1 : i ≤ m) (h2 : -m ≤ i) (h3 : m < 2 ^ n) : Sm n i := by
  unfold Sm; omega
theorem Sm.of_abs {n : Nat} {i j : Int} (h : Sm n j) (q : i.natAbs ≤ j.natAbs) : Sm n i := Nat.lt_of_le_of_lt q h
theorem Sm.div {n : Nat} {i j : Int} (h : Sm n i) : Sm n (i / j) := h.of_abs (Int.natAbs_ediv_le_natAbs _ _)
end SL
/-! Q2: small rules for values of known kind. -/
namespace SL
open PySem PySem.Spec L2
def varQ (o : Option (Option SV)) (i : Nat) (Q : SV → Prop) : Prop := match o with
  | some (some d) => (match d.isOwn with
    | true => Q (.loc i)
    | false => Q d)
  | _ => False
def intQ (r : SV) (Q : Int → Prop) : Prop := ∃ i, r = .int i ∧ Q i
def blQ (r : SV) (Q : Bool → Prop) : Prop := ∃ i, r = .bl i ∧ Q i
def viewQ (v : Option (Bool × List SV)) (Q : Bool → List SV → Prop) : Prop := ∃ b xs, v = some (b, xs) ∧ Q b xs
def ixQ (v : Option (Bool × List SV)) (s : SV) (Q : SV → Prop) : Prop := ∃ b xs k d, v = some (b, xs) ∧ s = .int k ∧ atI xs k = some d ∧ Q d
def atQ (v : Option SV) (Q : SV → Prop) : Prop := ∃ d, v = some d ∧ Q d
def lenQ (ds : List SV) (P : Prop) : Prop := ds.length ≤ sizeLine ∧ P
def condQ (k : Bool) (A B : Prop) : Prop := match k with
  | true => A
  | false => B
def bothQ (b : Bool) (A B : Prop) : Prop := match b with
  | true => A
  | false => B
def isiQ (t : Option String) (ty : String) (Q : Bool → Prop) : Prop := ∃ x, t = some x ∧ Q (isT x ty)
def Nx (G : Gm) (ss : List SS) (D : SEnds) : SSt → SHp → Prop := fun δ h => wpSs G ss δ h D
section
variable {G : Gm} {δ : SSt} {h : SHp} {Q : Post} {D : SEnds} {a b c : SE} {es : List SE} {i j : Int} {P : Prop} {z : Str} {xs ys : List SV} {d x y : SV} {p : Addr} {n : Nat}
variable {k : Bool} {F : SV → Prop} {Fi : Int → Prop} {Fb : Bool → Prop} {Fv : Bool → List SV → Prop} {A B : Prop} {s : SS} {ss : List SS} {sa sb : List SS}
theorem q_var_int : varQ (some (some (.int i))) n F = F (.int i) := rfl
theorem q_var_bl : varQ (some (some (.bl k))) n F = F (.bl k) := rfl
theorem q_var_str : varQ (some (some (.str z))) n F = F (.str z) := rfl
theorem q_var_non : varQ (some (some (.non))) n F = F (.non) := rfl
theorem q_var_tup : varQ (some (some (.tup xs))) n F = F (.tup xs) := rfl
theorem q_var_frz : varQ (some (some (.frz xs))) n F = F (.frz xs) := rfl
theorem q_var_ref : varQ (some (some (.ref p))) n F = F (.ref p) := rfl
theorem q_var_lkd : varQ (some (some (.lkd xs))) n F = F (.lkd xs) := rfl
theorem q_var_own : varQ (some (some (.own xs))) n F = F (.loc n) := rfl
theorem q_int : intQ (.int i) Fi = Fi i := by simp [intQ]
theorem q_bl : blQ (.bl k) Fb = Fb k := by simp [blQ]
theorem q_view : viewQ (some (k, xs)) Fv = Fv k xs := propext ⟨fun ⟨_, _, e, q⟩ => by cases e; exact q, fun q => ⟨_, _, rfl, q⟩⟩
theorem q_ix : ixQ (some (k, xs)) (.int i) F = atQ (atI xs i) F := propext ⟨fun ⟨_, _, _, d, e, e2, e3, q⟩ => by cases e; cases e2; exact ⟨d, e3, q⟩, fun ⟨d, e, q⟩ => ⟨_, _, _, d, rfl, rfl, e, q⟩⟩
theorem q_at : atQ (some d) F = F d := by simp [atQ]
theorem q_isi_int_int : isiQ (some "int") "int" Fb = Fb true := by simp [isiQ, isT]
theorem q_isi_int_bool : isiQ (some "int") "bool" Fb = Fb false := by simp [isiQ, isT]
theorem q_isi_int_str : isiQ (some "int") "str" Fb = Fb false := by simp [isiQ, isT]
theorem q_isi_int_tuple : isiQ (some "int") "tuple" Fb = Fb false := by simp [isiQ, isT]
theorem q_isi_int_list : isiQ (some "int") "list" Fb = Fb false := by simp [isiQ, isT]
theorem q_isi_bool_int : isiQ (some "bool") "int" Fb = Fb true := by simp [isiQ, isT]
theorem q_isi_bool_bool : isiQ (some "bool") "bool" Fb = Fb true := by simp [isiQ, isT]
theorem q_isi_bool_str : isiQ (some "bool") "str" Fb = Fb false := by simp [isiQ, isT]
theorem q_isi_bool_tuple : isiQ (some "bool") "tuple" Fb = Fb false := by simp [isiQ, isT]
theorem q_isi_bool_list : isiQ (some "bool") "list" Fb = Fb false := by simp [isiQ, isT]
theorem q_isi_str_int : isiQ (some "str") "int" Fb = Fb false := by simp [isiQ, isT]
theorem q_isi_str_bool : isiQ (some "str") "bool" Fb = Fb false := by simp [isiQ, isT]
theorem q_isi_str_str : isiQ (some "str") "str" Fb = Fb true := by simp [isiQ, isT]
theorem q_isi_str_tuple : isiQ (some "str") "tuple" Fb = Fb false := by simp [isiQ, isT]
theorem q_isi_str_list : isiQ (some "str") "list" Fb = Fb false := by simp [isiQ, isT]
theorem q_isi_NoneType_int : isiQ (some "NoneType") "int" Fb = Fb false := by simp [isiQ, isT]
theorem q_isi_NoneType_bool : isiQ (some "NoneType") "bool" Fb = Fb false := by simp [isiQ, isT]
theorem q_isi_NoneType_str : isiQ (some "NoneType") "str" Fb = Fb false := by simp [isiQ, isT]
theorem q_isi_NoneType_tuple : isiQ (some "NoneType") "tuple" Fb = Fb false := by simp [isiQ, isT]
theorem q_isi_NoneType_list : isiQ (some "NoneType") "list" Fb = Fb false := by simp [isiQ, isT]
theorem q_isi_tuple_int : isiQ (some "tuple") "int" Fb = Fb false := by simp [isiQ, isT]
theorem q_isi_tuple_bool : isiQ (some "tuple") "bool" Fb = Fb false := by simp [isiQ, isT]
theorem q_isi_tuple_str : isiQ (some "tuple") "str" Fb = Fb false := by simp [isiQ, isT]
theorem q_isi_tuple_tuple : isiQ (some "tuple") "tuple" Fb = Fb true := by simp [isiQ, isT]
theorem q_isi_tuple_list : isiQ (some "tuple") "list" Fb = Fb false := by simp [isiQ, isT]
theorem q_isi_list_int : isiQ (some "list") "int" Fb = Fb false := by simp [isiQ, isT]
theorem q_isi_list_bool : isiQ (some "list") "bool" Fb = Fb false := by simp [isiQ, isT]
theorem q_isi_list_str : isiQ (some "list") "str" Fb = Fb false := by simp [isiQ, isT]
theorem q_isi_list_tuple : isiQ (some "list") "tuple" Fb = Fb false := by simp [isiQ, isT]
theorem q_isi_list_list : isiQ (some "list") "list" Fb = Fb true := by simp [isiQ, isT]
theorem q_len_0 : lenQ [] P = P := by intros; simp [lenQ, sizeLine]
theorem q_len_1 : ∀ {x0 : SV}, lenQ [x0] P = P := by intros; simp [lenQ, sizeLine]
theorem q_len_2 : ∀ {x0 x1 : SV}, lenQ [x0, x1] P = P := by intros; simp [lenQ, sizeLine]
theorem q_len_3 : ∀ {x0 x1 x2 : SV}, lenQ [x0, x1, x2] P = P := by intros; simp [lenQ, sizeLine]
theorem q_len_4 : ∀ {x0 x1 x2 x3 : SV}, lenQ [x0, x1, x2, x3] P = P := by intros; simp [lenQ, sizeLine]
theorem q_len_5 : ∀ {x0 x1 x2 x3 x4 : SV}, lenQ [x0, x1, x2, x3, x4] P = P := by intros; simp [lenQ, sizeLine]
theorem q_len_6 : ∀ {x0 x1 x2 x3 x4 x5 : SV}, lenQ [x0, x1, x2, x3, x4, x5] P = P := by intros; simp [lenQ, sizeLine]
theorem q_len_7 : ∀ {x0 x1 x2 x3 x4 x5 x6 : SV}, lenQ [x0, x1, x2, x3, x4, x5, x6] P = P := by intros; simp [lenQ, sizeLine]
theorem q_len_8 : ∀ {x0 x1 x2 x3 x4 x5 x6 x7 : SV}, lenQ [x0, x1, x2, x3, x4, x5, x6, x7] P = P := by intros; simp [lenQ, sizeLine]
theorem q_condT : condQ true A B = A := rfl
theorem q_condF : condQ false A B = B := rfl
theorem q_bothT : bothQ true A B = A := rfl
theorem q_bothF : bothQ false A B = B := rfl
theorem q_nx : Nx G ss D δ h = wpSs G ss δ h D := rfl
theorem q_rais0 : wpS G (.rais z none) δ h D = G.xp ⟨z, [("called", .str z)]⟩ δ h := by simp only [wpS]
theorem q_rais1 : ∀ {g : Str}, wpS G (.rais z (some (g, a))) δ h D = wpSt G [a] δ h fun ds δ1 h1 => ∃ d, ds = [d] ∧ G.xp ⟨z, [(g, d), ("called", .str z)]⟩ δ1 h1 := by intros; simp only [wpS]
theorem q_try : ∀ {hs : List Hd}, wpS G (.try sa hs) δ h D = wpSs { G with xp := catchS G.xp D hs } sa δ h D := by intros; simp only [wpS]
theorem q_nil : wpSs G [] δ h D = D.nx δ h := by simp only [wpSs]
theorem q_cons : wpSs G (s :: ss) δ h D = wpS G s δ h { nx := Nx G ss D, rt := D.rt, bk := D.bk, ct := D.ct } := by first | (simp only [wpSs]; done) | (simp only [wpSs]; rfl)
theorem q_evar : wpE G (.var n) δ h Q = varQ δ[n]? n (fun d => Q d δ h) := by first | (rw [wpE]; done) | (rw [wpE]; rfl)
theorem q_ecst : wpE G (.cst d) δ h Q = Q d δ h := by simp only [wpE]
theorem q_eneg : wpE G (.neg a) δ h Q = wpE G a δ h fun r δ1 h1 => intQ r fun i => Q (.int (-i)) δ1 h1 := by simp only [wpE, intQ]
theorem q_enot : wpE G (.not a) δ h Q = wpE G a δ h fun r δ1 h1 => blQ r fun i => Q (.bl (!i)) δ1 h1 := by simp only [wpE, blQ]
variable {op op2 : Operator} {co co2 : CmpOp}
theorem q_ebin : wpE G (.bin op a b) δ h Q = wpE G a δ h fun r δ1 h1 => wpE G b δ1 h1 fun s δ2 h2 => binS op r.opd s.opd δ2 h2 fun d => Q d δ2 h2 := by simp only [wpE]
theorem q_ecmp : wpE G (.cmp co a b) δ h Q = wpE G a δ h fun r δ1 h1 => wpE G b δ1 h1 fun s δ2 h2 => cmpS co r.opd s.opd δ2 h2 fun c => Q (.bl c) δ2 h2 := by simp only [wpE]
theorem q_ecmp2 : wpE G (.cmp2 co co2 a b c) δ h Q = wpE G a δ h fun r δ1 h1 => wpE G b δ1 h1 fun s δ2 h2 => cmpS co r.opd s.opd δ2 h2 fun k => condQ k (wpE G c δ2 h2 fun t δ3 h3 => cmpS co2 s.opd t.opd δ3 h3 fun k' => Q (.bl k') δ3 h3) (Q (.bl false) δ2 h2) := by first | (rw [wpE]; done) | (rw [wpE]; rfl)
theorem q_ebool : wpE G (.bool k es) δ h Q = wpB G k es δ h Q := by simp only [wpE]
theorem q_b1 : wpB G k [a] δ h Q = wpE G a δ h Q := by simp only [wpB]
theorem q_bA : wpB G true (a :: b :: es) δ h Q = wpE G a δ h fun r δ1 h1 => blQ r fun k => condQ k (wpB G true (b :: es) δ1 h1 Q) (Q (.bl false) δ1 h1) := by
  rw [wpB]
  congr 1
  funext r δ1 h1
  unfold blQ condQ
  congr 1
  funext k
  cases k <;> rfl
theorem q_bO : wpB G false (a :: b :: es) δ h Q = wpE G a δ h fun r δ1 h1 => blQ r fun k => condQ k (Q (.bl true) δ1 h1) (wpB G false (b :: es) δ1 h1 Q) := by
  rw [wpB]
  congr 1
  funext r δ1 h1
  unfold blQ condQ
  congr 1
  funext k
  cases k <;> rfl
theorem q_eife : wpE G (.ife c a b) δ h Q = wpE G c δ h fun r δ1 h1 => blQ r fun k => condQ k (wpE G a δ1 h1 Q) (wpE G b δ1 h1 Q) := by first | (rw [wpE]; done) | (rw [wpE]; rfl)
theorem q_etup : wpE G (.tup es) δ h Q = wpSt G es δ h fun ds δ1 h1 => lenQ ds (Q (.tup ds) δ1 h1) := by simp only [wpE, lenQ]
theorem q_elst : wpE G (.lst es) δ h Q = wpSt G es δ h fun ds δ1 h1 => lenQ ds (Q (.own ds) δ1 h1) := by simp only [wpE, lenQ]
theorem q_eix : wpE G (.ix a b) δ h Q = wpE G a δ h fun r δ1 h1 => wpE G b δ1 h1 fun s δ2 h2 => ixQ (view δ2 h2 r.opd) s fun d => Q d δ2 h2 := by simp only [wpE, ixQ]
variable {ks : List Str} {kes : List SE}
theorem q_lis_0 : lenIs [] 0 = True := by intros; simp [lenIs]
theorem q_lis_1 : ∀ {x0 : SV}, lenIs [x0] 1 = True := by intros; simp [lenIs]
theorem q_lis_2 : ∀ {x0 x1 : SV}, lenIs [x0, x1] 2 = True := by intros; simp [lenIs]
theorem q_lis_3 : ∀ {x0 x1 x2 : SV}, lenIs [x0, x1, x2] 3 = True := by intros; simp [lenIs]
theorem q_lis_4 : ∀ {x0 x1 x2 x3 : SV}, lenIs [x0, x1, x2, x3] 4 = True := by intros; simp [lenIs]
theorem q_lis_5 : ∀ {x0 x1 x2 x3 x4 : SV}, lenIs [x0, x1, x2, x3, x4] 5 = True := by intros; simp [lenIs]
theorem q_lis_6 : ∀ {x0 x1 x2 x3 x4 x5 : SV}, lenIs [x0, x1, x2, x3, x4, x5] 6 = True := by intros; simp [lenIs]
variable {lo hi : Option SE} {f : Str} {bi : Bi} {ty : String}
theorem q_eslc : wpE G (.slc a lo hi) δ h Q = wpE G a δ h fun r δ1 h1 => wpO G lo δ1 h1 fun l δ2 h2 => wpO G hi δ2 h2 fun u δ3 h3 => viewQ (view δ3 h3 r.opd) fun b xs => bothQ b (Q (.tup (cut xs l u)) δ3 h3) (Q (.own (cut xs l u)) δ3 h3) := by first | (rw [wpE]; done) | (rw [wpE]; rfl)
theorem q_ecall : wpE G (.call f es) δ h Q = wpAr G es δ h fun ds bs δ1 h1 => G.call f ds h1 (fun d h2 => unbox bs δ1 h2 fun δ3 h3 => Q d δ3 h3) (fun x h2 => unbox bs δ1 h2 fun δ3 h3 => G.xp x δ3 h3) := by simp only [wpE]
theorem q_ecallP : wpE G (.callP f ks es kes) δ h Q = wpAr G es δ h fun ds bs δ1 h1 => wpAr G kes δ1 h1 fun ds2 bs2 δ2 h2 => lenIs ds es.length ∧ lenIs ds2 kes.length ∧ G.call f (ds ++ ds2) h2 (fun d h3 => unbox (bs ++ bs2) δ2 h3 fun δ3 h3 => Q d δ3 h3) (fun x h3 => unbox (bs ++ bs2) δ2 h3 fun δ3 h3 => G.xp x δ3 h3) := by simp only [wpE]
theorem q_ebi : wpE G (.bi bi es) δ h Q = wpOp G es δ h fun ds δ1 h1 => biS bi ds δ1 h1 fun d => Q d δ1 h1 := by simp only [wpE]
theorem q_eisi : wpE G (.isi a ty) δ h Q = wpE G a δ h fun r δ1 h1 => isiQ (isiS r.opd δ1 h1) ty fun k => Q (.bl k) δ1 h1 := by simp only [wpE, isiQ]
def drpQ (o : Option (Option SV)) (F : Addr → Prop) : Prop := ∃ p, o = some (some (.ref p)) ∧ F p
theorem q_edrp : wpE G (.drp n a) δ h Q = wpE G a δ h fun d δ1 h1 => drpQ δ1[n]? fun p => Q d δ1 (h1.del p) := by simp only [wpE, drpQ]
theorem q_drp : ∀ {Fa : Addr → Prop}, drpQ (some (some (.ref p))) Fa = Fa p := by intros; exact propext ⟨fun ⟨_, e, q⟩ => by cases e; exact q, fun q => ⟨_, rfl, q⟩⟩
theorem q_efz : wpE G (.fz a) δ h Q = wpE G a δ h fun d δ1 h1 => stow d δ1 h1 Q := by simp only [wpE]
theorem q_ebox : wpE G (.box a) δ h Q = wpE G a δ h fun d δ1 h1 => boxS d δ1 h1 fun r _ δ2 h2 => Q r δ2 h2 := by simp only [wpE]
def appQ (G : Gm) (es : List SE) (r : SV) (δ1 : SSt) (h1 : SHp) (Q : Post) : Prop := match r with
  | .loc i => (∃ ys, δ1[i]? = some (some (.own ys))) ∧ wpSt G es δ1 h1 fun ds δ2 h2 => ∃ d xs, ds = [d] ∧ δ2[i]? = some (some (.own xs)) ∧ xs.length < sizeLine ∧ Q .non (δ2.set i (some (.own (xs ++ [d])))) h2
  | .ref p => (∃ ys, h1 p = some (.lst ys)) ∧ wpSt G es δ1 h1 fun ds δ2 h2 => ∃ d xs, ds = [d] ∧ h2 p = some (.lst xs) ∧ xs.length < sizeLine ∧ Q .non δ2 (h2.set p (.lst (xs ++ [d])))
  | _ => False
theorem q_eapp : wpE G (.mth .append a es) δ h Q = wpE G a δ h fun r δ1 h1 => appQ G es r δ1 h1 Q := by first | (simp only [wpE, appQ]; done) | (simp only [wpE, appQ]; rfl)
def appO (o : Option (Option SV)) (F : List SV → Prop) : Prop := ∃ xs, o = some (some (.own xs)) ∧ F xs
theorem q_appL : appQ G [a] (.loc n) δ h Q = ((∃ ys, δ[n]? = some (some (.own ys))) ∧ wpSt G [a] δ h fun ds δ2 h2 => ∃ d xs, ds = [d] ∧ δ2[n]? = some (some (.own xs)) ∧ xs.length < sizeLine ∧ Q .non (δ2.set n (some (.own (xs ++ [d])))) h2) := rfl
def popQ (o : Option (Option SV)) (F : SV → List SV → Prop) : Prop := ∃ xs d, o = some (some (.own xs)) ∧ xs[xs.length - 1]? = some d ∧ F d xs
def locQ (r : SV) (F : Nat → Prop) : Prop := match r with
  | .loc i => F i
  | _ => False
variable {FNn : Nat → Prop}
theorem q_locQ : locQ (.loc n) FNn = FNn n := rfl
theorem q_epop : wpE G (.mth .pop a []) δ h Q = wpE G a δ h fun r δ1 h1 => locQ r fun i => popQ δ1[i]? fun d xs => Q d (δ1.set i (some (.own xs.dropLast))) h1 := by
  rw [wpE]
  congr 1
  funext r δ1 h1
  unfold locQ
  cases r <;> simp [popQ]
def popAtQ (G : Gm) (b : SE) (r : SV) (δ1 : SSt) (h1 : SHp) (Q : Post) : Prop := match r with
  | .loc i => (∃ ys, δ1[i]? = some (some (.own ys))) ∧ wpOp G [b] δ1 h1 fun ds δ2 h2 => ∃ xs k j d, δ2[i]? = some (some (.own xs)) ∧ ds = [.int k] ∧ -(2 ^ 63) ≤ k ∧ k < 2 ^ 63 ∧ seqIndex? k xs.length = some j ∧ xs[j]? = some d ∧ Q d (δ2.set i (some (.own (xs.eraseIdx j)))) h2
  | .ref p => (∃ ys, h1 p = some (.lst ys)) ∧ wpOp G [b] δ1 h1 fun ds δ2 h2 => ∃ xs k j d, h2 p = some (.lst xs) ∧ ds = [.int k] ∧ -(2 ^ 63) ≤ k ∧ k < 2 ^ 63 ∧ seqIndex? k xs.length = some j ∧ xs[j]? = some d ∧ Q d δ2 (h2.set p (.lst (xs.eraseIdx j)))
  | _ => False
theorem q_epopAt : wpE G (.mth .popAt a [b]) δ h Q = wpE G a δ h fun r δ1 h1 => popAtQ G b r δ1 h1 Q := by
  rw [wpE]
  first | rfl | congr 1
theorem q_popAtL : popAtQ G b (.loc n) δ h Q = ((∃ ys, δ[n]? = some (some (.own ys))) ∧ wpOp G [b] δ h fun ds δ2 h2 => ∃ xs k j d, δ2[n]? = some (some (.own xs)) ∧ ds = [.int k] ∧ -(2 ^ 63) ≤ k ∧ k < 2 ^ 63 ∧ seqIndex? k xs.length = some j ∧ xs[j]? = some d ∧ Q d (δ2.set n (some (.own (xs.eraseIdx j)))) h2) := rfl
theorem q_popAtR : popAtQ G b (.ref p) δ h Q = ((∃ ys, h p = some (.lst ys)) ∧ wpOp G [b] δ h fun ds δ2 h2 => ∃ xs k j d, h2 p = some (.lst xs) ∧ ds = [.int k] ∧ -(2 ^ 63) ≤ k ∧ k < 2 ^ 63 ∧ seqIndex? k xs.length = some j ∧ xs[j]? = some d ∧ Q d δ2 (h2.set p (.lst (xs.eraseIdx j)))) := rfl
theorem q_eext : wpE G (.mth .extend a [b]) δ h Q = wpE G a δ h fun r δ1 h1 => locQ r fun i => (∃ ys, δ1[i]? = some (some (.own ys))) ∧ wpSt G [b] δ1 h1 fun ds δ2 h2 => ∃ xs zs, ds = [.frz zs] ∧ δ2[i]? = some (some (.own xs)) ∧ xs.length + zs.length ≤ sizeLine ∧ Q .non (δ2.set i (some (.own (xs ++ zs)))) h2 := by
  rw [wpE]
  first | rfl | congr 1
variable {Ql : List SV → SSt → SHp → Prop} {Qa : List SV → List (Option (Option Nat × Addr)) → SSt → SHp → Prop} {Qo : Option Int → SSt → SHp → Prop} {Qb : Bool → SSt → SHp → Prop} {Qh : SSt → SHp → Prop}
theorem q_st0 : wpSt G [] δ h Ql = Ql [] δ h := by simp only [wpSt]
theorem q_st1 : wpSt G (a :: es) δ h Ql = wpE G a δ h fun d δ1 h1 => stow d δ1 h1 fun r δ2 h2 => wpSt G es δ2 h2 fun rs δ3 h3 => Ql (r :: rs) δ3 h3 := by simp only [wpSt]
theorem q_op0 : wpOp G [] δ h Ql = Ql [] δ h := by simp only [wpOp]
theorem q_op1 : wpOp G (a :: es) δ h Ql = wpE G a δ h fun d δ1 h1 => wpOp G es δ1 h1 fun rs δ2 h2 => Ql (d.opd :: rs) δ2 h2 := by simp only [wpOp]
theorem q_ar0 : wpAr G [] δ h Qa = Qa [] [] δ h := by simp only [wpAr]
theorem q_ar1 : wpAr G (a :: es) δ h Qa = wpE G a δ h fun d δ1 h1 => boxS d δ1 h1 fun r b δ2 h2 => wpAr G es δ2 h2 fun rs bs δ3 h3 => Qa (r :: rs) (b :: bs) δ3 h3 := by simp only [wpAr]
theorem q_o0 : wpO G none δ h Qo = Qo none δ h := by simp only [wpO]
theorem q_o1 : wpO G (some a) δ h Qo = wpE G a δ h fun d δ1 h1 => intQ d fun i => Qo (some i) δ1 h1 := by simp only [wpO, intQ]
theorem q_if0 : wpIf G [] δ h Qb = Qb true δ h := by simp only [wpIf]
theorem q_if1 : wpIf G [a] δ h Qb = wpE G a δ h fun d δ1 h1 => blQ d fun k => Qb k δ1 h1 := by simp only [wpIf, blQ]
theorem q_stow_int : stow (.int i) δ h Q = Q (.int i) δ h := rfl
theorem q_opd_int : SV.opd (.int i) = .int i := rfl
variable {Qx : SV → Option (Option Nat × Addr) → SSt → SHp → Prop}
theorem q_box_int : boxS (.int i) δ h Qx = Qx (.int i) none δ h := rfl
variable {Qr : SV → SHp → Prop}
theorem q_ret_int : retS (.int i) δ h Qr = Qr (.int i) h := rfl
theorem q_asg_int : asgS (.nm n) (.int i) δ h Qh = (n < δ.length ∧ Qh (δ.set n (some (.int i))) h) := rfl
theorem q_stow_bl : stow (.bl k) δ h Q = Q (.bl k) δ h := rfl
theorem q_opd_bl : SV.opd (.bl k) = .bl k := rfl
theorem q_box_bl : boxS (.bl k) δ h Qx = Qx (.bl k) none δ h := rfl
theorem q_ret_bl : retS (.bl k) δ h Qr = Qr (.bl k) h := rfl
theorem q_asg_bl : asgS (.nm n) (.bl k) δ h Qh = (n < δ.length ∧ Qh (δ.set n (some (.bl k))) h) := rfl
theorem q_stow_str : stow (.str z) δ h Q = Q (.str z) δ h := rfl
theorem q_opd_str : SV.opd (.str z) = .str z := rfl
theorem q_box_str : boxS (.str z) δ h Qx = Qx (.str z) none δ h := rfl
theorem q_ret_str : retS (.str z) δ h Qr = Qr (.str z) h := rfl
theorem q_asg_str : asgS (.nm n) (.str z) δ h Qh = (n < δ.length ∧ Qh (δ.set n (some (.str z))) h) := rfl
theorem q_stow_non : stow (.non) δ h Q = Q (.non) δ h := rfl
theorem q_opd_non : SV.opd (.non) = .non := rfl
theorem q_box_non : boxS (.non) δ h Qx = Qx (.non) none δ h := rfl
theorem q_ret_non : retS (.non) δ h Qr = Qr (.non) h := rfl
theorem q_asg_non : asgS (.nm n) (.non) δ h Qh = (n < δ.length ∧ Qh (δ.set n (some (.non))) h) := rfl
theorem q_stow_tup : stow (.tup xs) δ h Q = Q (.tup xs) δ h := rfl
theorem q_opd_tup : SV.opd (.tup xs) = .tup xs := rfl
theorem q_box_tup : boxS (.tup xs) δ h Qx = Qx (.tup xs) none δ h := rfl
theorem q_ret_tup : retS (.tup xs) δ h Qr = Qr (.tup xs) h := rfl
theorem q_asg_tup : asgS (.nm n) (.tup xs) δ h Qh = (n < δ.length ∧ Qh (δ.set n (some (.tup xs))) h) := rfl
theorem q_stow_frz : stow (.frz xs) δ h Q = Q (.frz xs) δ h := rfl
theorem q_opd_frz : SV.opd (.frz xs) = .frz xs := rfl
theorem q_box_frz : boxS (.frz xs) δ h Qx = Qx (.frz xs) none δ h := rfl
theorem q_ret_frz : retS (.frz xs) δ h Qr = Qr (.frz xs) h := rfl
theorem q_asg_frz : asgS (.nm n) (.frz xs) δ h Qh = (n < δ.length ∧ Qh (δ.set n (some (.frz xs))) h) := rfl
theorem q_stow_ref : stow (.ref p) δ h Q = Q (.ref p) δ h := rfl
theorem q_opd_ref : SV.opd (.ref p) = .ref p := rfl
theorem q_box_ref : boxS (.ref p) δ h Qx = Qx (.ref p) none δ h := rfl
theorem q_ret_ref : retS (.ref p) δ h Qr = Qr (.ref p) h := rfl
theorem q_asg_ref : asgS (.nm n) (.ref p) δ h Qh = (n < δ.length ∧ Qh (δ.set n (some (.ref p))) h) := rfl
theorem q_stow_lkd : stow (.lkd xs) δ h Q = Q (.lkd xs) δ h := rfl
theorem q_opd_lkd : SV.opd (.lkd xs) = .lkd xs := rfl
theorem q_box_lkd : boxS (.lkd xs) δ h Qx = Qx (.lkd xs) none δ h := rfl
theorem q_ret_lkd : retS (.lkd xs) δ h Qr = Qr (.lkd xs) h := rfl
theorem q_asg_lkd : asgS (.nm n) (.lkd xs) δ h Qh = (n < δ.length ∧ Qh (δ.set n (some (.lkd xs))) h) := rfl
theorem q_stow_own : stow (.own xs) δ h Q = Q (.frz xs) δ h := rfl
theorem q_opd_own : SV.opd (.own xs) = .frz xs := rfl
theorem q_opd_loc : SV.opd (.loc n) = .loc n := rfl
theorem q_ret_own : retS (.own xs) δ h Qr = Qr (.own xs) h := rfl
theorem q_asg_own : asgS (.nm n) (.own xs) δ h Qh = (n < δ.length ∧ Qh (δ.set n (some (.own xs))) h) := rfl
variable {ts : List STg} {t : STg}
theorem q_asg_tup2 : asgS (.tup ts) (.tup xs) δ h Qh = tgS (.tup ts) (.tup xs) δ h Qh := rfl
theorem q_tg_nm : tgS (.nm n) d δ h Qh = (n < δ.length ∧ Qh (δ.set n (some d)) h) := by simp only [tgS]
theorem q_tg_tup : tgS (.tup ts) (.tup xs) δ h Qh = (xs.length = ts.length ∧ tgsS ts xs δ h Qh) := by simp [tgS, vw]
theorem q_tgs0 : tgsS [] xs δ h Qh = Qh δ h := by simp only [tgsS]
theorem q_tgs1 : tgsS (t :: ts) (x :: xs) δ h Qh = tgS t x δ h fun δ' h' => tgsS ts xs δ' h' Qh := by simp only [tgsS]
theorem atI_lit {α : Type} {ys : List α} {y : α} (n : Nat) (hn : n < ys.length) (e : ys[n]? = some y) : atI ys (n : Int) = some y := by
  have h1 : (0 : Int) ≤ (n : Int) := Int.natCast_nonneg n
  have h2 : (n : Int) < (ys.length : Int) := by omega
  unfold atI ixN
  rw [if_pos h1, if_pos h2]
  exact e
theorem q_vw_tup : view δ h (.tup xs) = some (true, xs) := rfl
theorem q_vw_frz : view δ h (.frz xs) = some (false, xs) := rfl
theorem q_vw_lkd : view δ h (.lkd xs) = some (false, xs) := rfl
theorem q_vv_tup : vw h (.tup xs) = some (true, xs) := rfl
theorem q_vv_frz : vw h (.frz xs) = some (false, xs) := rfl
theorem q_vv_lkd : vw h (.lkd xs) = some (false, xs) := rfl
def refV (c : Option Cell) : Option (Bool × List SV) := match c with
  | some (.lst xs) => some (false, xs)
  | _ => none
def locV (h : SHp) (c : Option (Option SV)) : Option (Bool × List SV) := match c with
  | some (some d) => vw h d
  | _ => none
theorem q_vw_ref : view δ h (.ref p) = refV (h p) := rfl
theorem q_vv_ref : vw h (.ref p) = refV (h p) := rfl
theorem q_refV : refV (some (.lst xs)) = some (false, xs) := rfl
theorem q_vw_loc : view δ h (.loc n) = locV h δ[n]? := rfl
theorem q_locV : locV h (some (some d)) = vw h d := rfl
theorem q_vv_own : vw h (.own xs) = some (false, xs) := rfl
theorem q_at_0 : ∀ {x0 : SV}, atI (x0 :: xs) 0 = some x0 := by
  intros
  exact atI_lit 0 (by simp) rfl
theorem q_at_1 : ∀ {x0 x1 : SV}, atI (x0 :: x1 :: xs) 1 = some x1 := by
  intros
  exact atI_lit 1 (by simp) rfl
theorem q_at_2 : ∀ {x0 x1 x2 : SV}, atI (x0 :: x1 :: x2 :: xs) 2 = some x2 := by
  intros
  exact atI_lit 2 (by simp) rfl
theorem q_at_3 : ∀ {x0 x1 x2 x3 : SV}, atI (x0 :: x1 :: x2 :: x3 :: xs) 3 = some x3 := by
  intros
  exact atI_lit 3 (by simp) rfl
theorem q_at_4 : ∀ {x0 x1 x2 x3 x4 : SV}, atI (x0 :: x1 :: x2 :: x3 :: x4 :: xs) 4 = some x4 := by
  intros
  exact atI_lit 4 (by simp) rfl
theorem q_at_5 : ∀ {x0 x1 x2 x3 x4 x5 : SV}, atI (x0 :: x1 :: x2 :: x3 :: x4 :: x5 :: xs) 5 = some x5 := by
  intros
  exact atI_lit 5 (by simp) rfl
theorem q_at_6 : ∀ {x0 x1 x2 x3 x4 x5 x6 : SV}, atI (x0 :: x1 :: x2 :: x3 :: x4 :: x5 :: x6 :: xs) 6 = some x6 := by
  intros
  exact atI_lit 6 (by simp) rfl
theorem q_at_7 : ∀ {x0 x1 x2 x3 x4 x5 x6 x7 : SV}, atI (x0 :: x1 :: x2 :: x3 :: x4 :: x5 :: x6 :: x7 :: xs) 7 = some x7 := by
  intros
  exact atI_lit 7 (by simp) rfl
variable {m : Int} {F2 : SV → Prop}
theorem q_add : binS .Add (.int i) (.int j) δ h F = F (.int (i + j)) := rfl
theorem q_sub : binS .Sub (.int i) (.int j) δ h F = F (.int (i - j)) := rfl
theorem q_mul : binS .Mult (.int i) (.int j) δ h F = (IntMulOk i j ∧ F (.int (i * j))) := rfl
theorem q_div : binS .FloorDiv (.int i) (.int j) δ h F = (DivOk i j ∧ F (.int (i / j))) := rfl
theorem q_mod : binS .Mod (.int i) (.int j) δ h F = (0 < j ∧ F (.int (i % j))) := rfl
theorem q_pow : binS .Pow (.int i) (.int j) δ h F = (CPow i j ∧ F (.int (i ^ j.toNat))) := rfl
theorem q_lt : cmpS .Lt (.int i) (.int j) δ h Fb = Fb (decide (i < j)) := by simp [cmpS]
theorem q_le : cmpS .LtE (.int i) (.int j) δ h Fb = Fb (decide (i ≤ j)) := by simp [cmpS]
theorem q_gt : cmpS .Gt (.int i) (.int j) δ h Fb = Fb (decide (j < i)) := by simp [cmpS]
theorem q_ge : cmpS .GtE (.int i) (.int j) δ h Fb = Fb (decide (j ≤ i)) := by simp [cmpS]
theorem q_eqi : cmpS .Eq (.int i) (.int j) δ h Fb = Fb (decide (i = j)) := by
  have e : (i == j) = decide (i = j) := rfl
  simp [cmpS, pdV, view, vw, SV.pd, PyData.eqv, SeqAt.shaped, PyData.canLay0, PyData.depth, e]
theorem q_nei : cmpS .NotEq (.int i) (.int j) δ h Fb = Fb (decide (i ≠ j)) := by
  have e : (i == j) = decide (i = j) := rfl
  simp [cmpS, pdV, view, vw, SV.pd, PyData.eqv, SeqAt.shaped, PyData.canLay0, PyData.depth, e]
variable {k2 : Bool}
theorem q_eqb : cmpS .Eq (.bl k) (.bl k2) δ h Fb = Fb (k == k2) := by
  simp [cmpS, pdV, view, vw, SV.pd, PyData.eqv, SeqAt.shaped, PyData.canLay0, PyData.depth]
theorem q_neb : cmpS .NotEq (.bl k) (.bl k2) δ h Fb = Fb (!(k == k2)) := by
  simp [cmpS, pdV, view, vw, SV.pd, PyData.eqv, SeqAt.shaped, PyData.canLay0, PyData.depth]
theorem q_is_int : cmpS .Is (.int i) .non δ h Fb = Fb false := by simp [cmpS, noneS]
theorem q_isnt_int : cmpS .IsNot (.int i) .non δ h Fb = Fb true := by simp [cmpS, noneS]
theorem q_ty_int : isiS (.int i) δ h = some "int" := rfl
theorem q_is_bl : cmpS .Is (.bl k) .non δ h Fb = Fb false := by simp [cmpS, noneS]
theorem q_isnt_bl : cmpS .IsNot (.bl k) .non δ h Fb = Fb true := by simp [cmpS, noneS]
theorem q_ty_bl : isiS (.bl k) δ h = some "bool" := rfl
theorem q_is_str : cmpS .Is (.str z) .non δ h Fb = Fb false := by simp [cmpS, noneS]
theorem q_isnt_str : cmpS .IsNot (.str z) .non δ h Fb = Fb true := by simp [cmpS, noneS]
theorem q_ty_str : isiS (.str z) δ h = some "str" := rfl
theorem q_is_non : cmpS .Is (.non) .non δ h Fb = Fb true := by simp [cmpS, noneS]
theorem q_isnt_non : cmpS .IsNot (.non) .non δ h Fb = Fb false := by simp [cmpS, noneS]
theorem q_ty_non : isiS (.non) δ h = some "NoneType" := rfl
theorem q_is_tup : cmpS .Is (.tup xs) .non δ h Fb = Fb false := by simp [cmpS, noneS]
theorem q_isnt_tup : cmpS .IsNot (.tup xs) .non δ h Fb = Fb true := by simp [cmpS, noneS]
theorem q_ty_tup : isiS (.tup xs) δ h = some "tuple" := rfl
theorem q_is_frz : cmpS .Is (.frz xs) .non δ h Fb = Fb false := by simp [cmpS, noneS]
theorem q_isnt_frz : cmpS .IsNot (.frz xs) .non δ h Fb = Fb true := by simp [cmpS, noneS]
theorem q_ty_frz : isiS (.frz xs) δ h = some "list" := rfl
theorem q_is_ref : cmpS .Is (.ref p) .non δ h Fb = Fb false := by simp [cmpS, noneS]
theorem q_isnt_ref : cmpS .IsNot (.ref p) .non δ h Fb = Fb true := by simp [cmpS, noneS]
theorem q_is_lkd : cmpS .Is (.lkd xs) .non δ h Fb = Fb false := by simp [cmpS, noneS]
theorem q_isnt_lkd : cmpS .IsNot (.lkd xs) .non δ h Fb = Fb true := by simp [cmpS, noneS]
theorem q_ty_lkd : isiS (.lkd xs) δ h = some "list" := rfl
def tyV (v : Option (Bool × List SV)) : Option String := match v with
  | some (true, _) => some "tuple"
  | some (false, _) => some "list"
  | none => none
theorem q_ty_ref : isiS (.ref p) δ h = tyV (view δ h (.ref p)) := rfl
theorem q_ty_loc : isiS (.loc n) δ h = tyV (view δ h (.loc n)) := rfl
theorem q_tyF : tyV (some (false, xs)) = some "list" := rfl
theorem q_tyT : tyV (some (true, xs)) = some "tuple" := rfl
theorem q_abs : biS .abs [.int i] δ h F = F (.int i.natAbs) := by
  have e : (if i < 0 then -i else i) = (i.natAbs : Int) := by split <;> omega
  simp [biS, e]
theorem q_blen_tup : biS .len [.tup xs] δ h F = viewQ (view δ h (.tup xs)) fun _ ys => F (.int ys.length) := rfl
theorem q_blen_frz : biS .len [.frz xs] δ h F = viewQ (view δ h (.frz xs)) fun _ ys => F (.int ys.length) := rfl
theorem q_blen_ref : biS .len [.ref p] δ h F = viewQ (view δ h (.ref p)) fun _ ys => F (.int ys.length) := rfl
theorem q_blen_lkd : biS .len [.lkd xs] δ h F = viewQ (view δ h (.lkd xs)) fun _ ys => F (.int ys.length) := rfl
theorem q_blen_loc : biS .len [.loc n] δ h F = viewQ (view δ h (.loc n)) fun _ ys => F (.int ys.length) := rfl
theorem q_btup : biS .tuple [x] δ h F = viewQ (view δ h x) fun _ ys => F (.tup ys) := by simp [biS, viewQ]
theorem q_blist : biS .list [x] δ h F = viewQ (view δ h x) fun _ ys => F (.own ys) := by simp [biS, viewQ]
theorem q_bmax : biS .max [.int i, .int j] δ h F = F (.int (max i j)) := by
  have e : (if i < j then j else i) = max i j := by split <;> omega
  exact propext ⟨fun ⟨_, _, e1, q⟩ => by cases e1; rw [← e]; exact q, fun q => ⟨_, _, rfl, by rw [← e] at q; exact q⟩⟩
theorem q_bmin : biS .min [.int i, .int j] δ h F = F (.int (min i j)) := by
  have e : (if j < i then j else i) = min i j := by split <;> omega
  refine propext ⟨fun q => ?_, fun q => .inl ⟨_, _, rfl, by rw [← e] at q; exact q⟩⟩
  rcases q with ⟨_, _, e1, q⟩ | ⟨_, _, _, e1, _⟩
  · cases e1; rw [← e]; exact q
  · cases e1
theorem q_bint : biS .int [.int i] δ h F = F (.int i) := by simp [biS]
variable {r : List (Option (Option Nat × Addr))}
theorem q_un0 : unbox [] δ h Qh = Qh δ h := rfl
theorem q_un1 : unbox (none :: r) δ h Qh = unbox r δ h Qh := rfl
theorem q_un2 : unbox (some (none, p) :: r) δ h Qh = unbox r δ (h.del p) Qh := rfl
def unC (c : Option Cell) (F : SV → Prop) : Prop := match c with
  | some (.lst xs) => F (.own xs)
  | some (.dct kvs) => F (.ownD kvs)
  | _ => False
def slotL (o : Option (Option SV)) (F : List SV → Prop) : Prop := ∃ xs, o = some (some (.own xs)) ∧ F xs
variable {FS : List SV → Prop}
theorem q_un3 : unbox (some (some n, p) :: r) δ h Qh = unC (h p) fun d => unbox r (δ.set n (some d)) (h.del p) Qh := by
  unfold unC
  rw [unbox]
  all_goals (generalize h p = c; cases c with
  | none => rfl
  | some c => cases c <;> rfl)
theorem q_unC : unC (some (.lst xs)) F = F (.own xs) := rfl
theorem q_box_own : boxS (.own xs) δ h Qx = ∀ p, h p = none → Qx (.ref p) (some (none, p)) δ (h.set p (.lst xs)) := rfl
theorem box_loc (e : δ[n]? = some (some (.own xs))) (q : ∀ p, h p = none → Qx (.ref p) (some (some n, p)) (δ.set n (some (.ref p))) (h.set p (.lst xs))) : boxS (.loc n) δ h Qx := by
  simp only [boxS, e]
  exact q
theorem stow_loc (e : δ[n]? = some (some (.own xs))) (q : Q (.frz xs) (δ.set n (some (.frz xs))) h) : stow (.loc n) δ h Q := by
  simp only [stow, e]
  exact q
theorem ret_loc (e : δ[n]? = some (some (.own xs))) (q : Qr (.own xs) h) : retS (.loc n) δ h Qr := by
  simp only [retS, e]
  exact q
theorem q_asg : wpS G (.asg t a) δ h D = wpE G a δ h fun d δ1 h1 => asgS t d δ1 h1 D.nx := by simp only [wpS]
variable {n1 n2 n3 : Nat} {it : SIt}
theorem q_par : wpS G (.par n1 n2 a b) δ h D = wpSt G [a, b] δ h fun ds δ1 h1 => ∃ v w, ds = [v, w] ∧ n1 < δ1.length ∧ n2 < δ1.length ∧ D.nx ((δ1.set n1 (some v)).set n2 (some w)) h1 := by simp only [wpS]
theorem q_par3 : wpS G (.par3 n1 n2 n3 a b c) δ h D = wpSt G [a, b, c] δ h fun ds δ1 h1 => ∃ u v w, ds = [u, v, w] ∧ n1 < δ1.length ∧ n2 < δ1.length ∧ n3 < δ1.length ∧ D.nx (((δ1.set n1 (some u)).set n2 (some v)).set n3 (some w)) h1 := by simp only [wpS]
theorem q_asub : wpS G (.asub a b c) δ h D = wpE G c δ h fun d δ1 h1 => stow d δ1 h1 fun v δ2 h2 => wpE G a δ2 h2 fun r δ3 h3 => wpE G b δ3 h3 fun k δ4 h4 => setAtS r k v δ4 h4 D.nx := by simp only [wpS]
theorem q_exp : wpS G (.exp a) δ h D = wpE G a δ h fun _ δ1 h1 => D.nx δ1 h1 := by simp only [wpS]
theorem q_sret : wpS G (.ret a) δ h D = wpE G a δ h fun d δ1 h1 => retS d δ1 h1 D.rt := by simp only [wpS]
theorem q_sret0 : wpS G .ret0 δ h D = D.rt .non h := by simp only [wpS]
theorem q_brk : wpS G .brk δ h D = D.bk δ h := by simp only [wpS]
theorem q_cont : wpS G .cont δ h D = D.ct δ h := by simp only [wpS]
theorem q_pass : wpS G .pass δ h D = D.nx δ h := by simp only [wpS]
def setN (o : Option Nat) (F : Nat → Prop) : Prop := ∃ j, o = some j ∧ F j
def setC (c : Option Cell) (i : Int) (F : Nat → List SV → Prop) (E : List (Key × SV) → Prop) : Prop := match c with
  | some (.lst xs) => setN (ixN xs.length i) fun j => F j xs
  | some (.dct kvs) => kvs.length < sizeLine ∧ E kvs
  | _ => False
def setO (c : Option (Option SV)) (i : Int) (F : Nat → List SV → Prop) (E : List (Key × SV) → Prop) : Prop := match c with
  | some (some (.own xs)) => setN (ixN xs.length i) fun j => F j xs
  | some (some (.ownD kvs)) => kvs.length < sizeLine ∧ E kvs
  | _ => False
variable {FN : Nat → Prop} {FL : Nat → List SV → Prop} {c1 c2 : Cell} {FE : List (Key × SV) → Prop} {kvs : List (Key × SV)}
theorem q_setR : setAtS (.ref p) (.int i) d δ h Qh = setC (h p) i (fun j xs => Qh δ (h.set p (.lst (xs.set j d)))) (fun kvs => Qh δ (h.set p (.dct (putD kvs (.inl i) d)))) := by
  unfold setAtS setC setN
  simp only
  generalize h p = c
  cases c with
  | none => rfl
  | some c =>
    cases c with
    | lst xs => exact propext ⟨fun ⟨n, j, e, e2, q⟩ => by cases e; exact ⟨j, e2, q⟩, fun ⟨j, e2, q⟩ => ⟨i, j, rfl, e2, q⟩⟩
    | dct kvs => exact propext ⟨fun ⟨k, e, e2, q⟩ => by cases e; exact ⟨e2, q⟩, fun ⟨e2, q⟩ => ⟨_, rfl, e2, q⟩⟩
    | ins _ _ => rfl
theorem q_setL : setAtS (.loc n) (.int i) d δ h Qh = setO δ[n]? i (fun j xs => Qh (δ.set n (some (.own (xs.set j d)))) h) (fun kvs => Qh (δ.set n (some (.ownD (putD kvs (.inl i) d)))) h) := by
  unfold setAtS setO setN
  simp only
  generalize δ[n]? = c
  cases c with
  | none => rfl
  | some c =>
    cases c with
    | none => rfl
    | some c =>
      cases c with
      | own xs => exact propext ⟨fun ⟨n, j, e, e2, q⟩ => by cases e; exact ⟨j, e2, q⟩, fun ⟨j, e2, q⟩ => ⟨i, j, rfl, e2, q⟩⟩
      | ownD kvs => exact propext ⟨fun ⟨k, e, e2, q⟩ => by cases e; exact ⟨e2, q⟩, fun ⟨e2, q⟩ => ⟨_, rfl, e2, q⟩⟩
      | _ => rfl
theorem q_setC : setC (some (.lst xs)) i FL FE = setN (ixN xs.length i) fun j => FL j xs := rfl
theorem q_setO : setO (some (some (.own xs))) i FL FE = setN (ixN xs.length i) fun j => FL j xs := rfl
theorem q_setOD : setO (some (some (.ownD kvs))) i FL FE = (kvs.length < sizeLine ∧ FE kvs) := rfl
theorem q_setN : setN (some n) FN = FN n := propext ⟨fun ⟨_, e, q⟩ => by cases e; exact q, fun q => ⟨_, rfl, q⟩⟩
theorem q_ix_1_0 : ixN 1 0 = some 0 := rfl
theorem q_ix_2_0 : ixN 2 0 = some 0 := rfl
theorem q_ix_2_1 : ixN 2 1 = some 1 := rfl
theorem q_ix_3_0 : ixN 3 0 = some 0 := rfl
theorem q_ix_3_1 : ixN 3 1 = some 1 := rfl
theorem q_ix_3_2 : ixN 3 2 = some 2 := rfl
theorem q_ix_4_0 : ixN 4 0 = some 0 := rfl
theorem q_ix_4_1 : ixN 4 1 = some 1 := rfl
theorem q_ix_4_2 : ixN 4 2 = some 2 := rfl
theorem q_ix_4_3 : ixN 4 3 = some 3 := rfl
theorem q_ix_5_0 : ixN 5 0 = some 0 := rfl
theorem q_ix_5_1 : ixN 5 1 = some 1 := rfl
theorem q_ix_5_2 : ixN 5 2 = some 2 := rfl
theorem q_ix_5_3 : ixN 5 3 = some 3 := rfl
theorem q_ix_5_4 : ixN 5 4 = some 4 := rfl
theorem q_ix_6_0 : ixN 6 0 = some 0 := rfl
theorem q_ix_6_1 : ixN 6 1 = some 1 := rfl
theorem q_ix_6_2 : ixN 6 2 = some 2 := rfl
theorem q_ix_6_3 : ixN 6 3 = some 3 := rfl
theorem q_ix_6_4 : ixN 6 4 = some 4 := rfl
theorem q_ix_6_5 : ixN 6 5 = some 5 := rfl
theorem q_ix_7_0 : ixN 7 0 = some 0 := rfl
theorem q_ix_7_1 : ixN 7 1 = some 1 := rfl
theorem q_ix_7_2 : ixN 7 2 = some 2 := rfl
theorem q_ix_7_3 : ixN 7 3 = some 3 := rfl
theorem q_ix_7_4 : ixN 7 4 = some 4 := rfl
theorem q_ix_7_5 : ixN 7 5 = some 5 := rfl
theorem q_ix_7_6 : ixN 7 6 = some 6 := rfl
theorem q_ix_8_0 : ixN 8 0 = some 0 := rfl
theorem q_ix_8_1 : ixN 8 1 = some 1 := rfl
theorem q_ix_8_2 : ixN 8 2 = some 2 := rfl
theorem q_ix_8_3 : ixN 8 3 = some 3 := rfl
theorem q_ix_8_4 : ixN 8 4 = some 4 := rfl
theorem q_ix_8_5 : ixN 8 5 = some 5 := rfl
theorem q_ix_8_6 : ixN 8 6 = some 6 := rfl
theorem q_ix_8_7 : ixN 8 7 = some 7 := rfl
theorem q_hset : (h.set p c1) p = some c1 := SHp.set_same
theorem q_hss : (h.set p c1).set p c2 = h.set p c2 := by
  funext b
  unfold SHp.set
  split <;> rfl
variable {Qi : Gd → List SV → SSt → SHp → Prop} {FG : Gd → List SV → Prop} {FM : Nat → Prop} {FM2 : Int → Nat → Prop}
def itQ (x : SV) (h : SHp) (F : Gd → List SV → Prop) : Prop := ∃ b xs, vw h x = some (b, xs) ∧ F (fun h => vw h x = some (b, xs)) xs
def zipQ (ds : List SV) (h : SHp) (F : Gd → List SV → Prop) : Prop := ∃ x y b b2 xs ys, ds = [x, y] ∧ vw h x = some (b, xs) ∧ vw h y = some (b2, ys) ∧ F (fun h => vw h x = some (b, xs) ∧ vw h y = some (b2, ys)) (zipS xs ys)
def enumQ (ds : List SV) (h : SHp) (F : Gd → List SV → Prop) : Prop := ∃ x b xs, ds = [x] ∧ vw h x = some (b, xs) ∧ F (fun h => vw h x = some (b, xs)) (enumS 0 xs)
def rngQ (r : SV) (F : Nat → Prop) : Prop := ∃ j, r = .int j ∧ -(2 ^ 62) ≤ j ∧ j < 2 ^ 62 ∧ F j.toNat
def rng2Q (r s : SV) (F : Int → Nat → Prop) : Prop := ∃ i j, r.opd = .int i ∧ s.opd = .int j ∧ (-(2 ^ 62) ≤ i ∧ i < 2 ^ 62 ∧ -(2 ^ 62) ≤ j ∧ j < 2 ^ 62) ∧ F i (j - i).toNat
theorem zip_go {kk k3 : Bool} (h1 : vw h x = some (kk, xs)) (h2 : vw h y = some (k3, ys)) (q : FG (fun h => vw h x = some (kk, xs) ∧ vw h y = some (k3, ys)) (zipS xs ys)) : zipQ [x, y] h FG := ⟨x, y, kk, k3, xs, ys, rfl, h1, h2, q⟩
theorem enum_go {kk : Bool} (h1 : vw h x = some (kk, xs)) (q : FG (fun h => vw h x = some (kk, xs)) (enumS 0 xs)) : enumQ [x] h FG := ⟨x, kk, xs, rfl, h1, q⟩
theorem it_go {kk : Bool} (h1 : vw h x = some (kk, xs)) (q : FG (fun h => vw h x = some (kk, xs)) xs) : itQ x h FG := ⟨kk, xs, h1, q⟩
theorem q_iof : wpI G (.of a) δ h Qi = wpE G a δ h fun d δ1 h1 => stow d δ1 h1 fun x δ2 h2 => itQ x h2 fun gd xs => Qi gd xs δ2 h2 := by simp only [wpI, itQ]
theorem q_izip : wpI G (.zip es) δ h Qi = wpSt G es δ h fun ds δ1 h1 => zipQ ds h1 fun gd xs => Qi gd xs δ1 h1 := by simp only [wpI, zipQ]
theorem q_ienum : wpI G (.enum es) δ h Qi = wpSt G es δ h fun ds δ1 h1 => enumQ ds h1 fun gd xs => Qi gd xs δ1 h1 := by simp only [wpI, enumQ]
theorem q_irng : wpI G (.rng a) δ h Qi = wpE G a δ h fun r δ1 h1 => rngQ r fun n => Qi (fun _ => True) (rangeS 0 n) δ1 h1 := by simp only [wpI, rngQ]
theorem q_irng2 : wpI G (.rng2 a b) δ h Qi = wpE G a δ h fun r δ1 h1 => wpE G b δ1 h1 fun s δ2 h2 => rng2Q r s fun i n => Qi (fun _ => True) (rangeS i n) δ2 h2 := by simp only [wpI, rng2Q]
theorem q_rng : rngQ (.int i) FM = (-(2 ^ 62) ≤ i ∧ i < 2 ^ 62 ∧ FM i.toNat) := propext ⟨fun ⟨_, e, q⟩ => by cases e; exact q, fun q => ⟨_, rfl, q⟩⟩
theorem q_rng2 : rng2Q (.int i) (.int j) FM2 = ((-(2 ^ 62) ≤ i ∧ i < 2 ^ 62 ∧ -(2 ^ 62) ≤ j ∧ j < 2 ^ 62) ∧ FM2 i (j - i).toNat) := propext ⟨fun ⟨_, _, e, e2, q⟩ => by cases e; cases e2; exact q, fun q => ⟨_, _, rfl, rfl, q⟩⟩
variable {owns : List (Str × Nat)} {ifs : List SE}
theorem q_lc : wpE G (.lc owns t it ifs a) δ h Q = wpI G it δ h fun gd items δ1 h1 => lcLoop gd (owns.map (·.2)) (tgS t) (fun δ h R => wpIf G.nox ifs δ h R) (fun δ h R => wpE G.nox a δ h R) items [] (wipeS δ1 (owns.map (·.2))) h1 fun acc δ2 h2 => Q (.own acc) (backS δ1 δ2 (owns.map (·.2))) h2 := by simp only [wpE]
def fldQ (r : SV) (h : SHp) (C f : Str) (F : SV → Prop) : Prop := ∃ p fs v, r = .ref p ∧ h p = some (.ins C fs) ∧ fs.lookup f = some v ∧ F v
def methQ (r : SV) (h : SHp) (C m : Str) (F : Addr → Prop) : Prop := ∃ p fs, r = .ref p ∧ h p = some (.ins C fs) ∧ fs.lookup m = none ∧ F p
def asetQ (r : SV) (h : SHp) (C : Str) (F : Addr → List (Str × SV) → Prop) : Prop := ∃ p fs, r = .ref p ∧ h p = some (.ins C fs) ∧ fs.length < 1000 ∧ F p fs
def onceQ (x : SV) (h : SHp) (m : Nat) (n : Nat) (F : List SV → Prop) : Prop := ∃ b xs, vw h x = some (b, xs) ∧ (∀ y ∈ xs, onceOk y = true) ∧ xs.length ≤ sizeLine ∧ m < n ∧ F (onceL [] xs)
variable {gn : Int} {C m pn : Str} {ks : List Str} {kes : List SE} {fs : List (Str × SV)} {Fa : Addr → Prop} {Ff : Addr → List (Str × SV) → Prop} {ow : List (Str × Nat)} {gx : Str} {gc : GC} {Fxs : List SV → Prop}
theorem fld_go {v : SV} {f : Str} (hp : h p = some (.ins C fs)) (hf : fs.lookup f = some v) (q : F v) : fldQ (.ref p) h C f F := ⟨p, fs, v, rfl, hp, hf, q⟩
theorem meth_go (hp : h p = some (.ins C fs)) (hf : fs.lookup m = none) (q : Fa p) : methQ (.ref p) h C m Fa := ⟨p, fs, rfl, hp, hf, q⟩
theorem aset_go (hp : h p = some (.ins C fs)) (hf : fs.length < 1000) (q : Ff p fs) : asetQ (.ref p) h C Ff := ⟨p, fs, rfl, hp, hf, q⟩
theorem once_go {x : SV} {kk : Bool} {m n : Nat} (hp : vw h x = some (kk, xs)) (h1 : ∀ y ∈ xs, onceOk y = true) (h2 : xs.length ≤ sizeLine) (h3 : m < n) (q : Fxs (onceL [] xs)) : onceQ x h m n Fxs := ⟨kk, xs, hp, h1, h2, h3, q⟩
theorem q_eglob : wpE G (.glob gx gc) δ h Q = Q gc.sv δ h := by simp only [wpE]
theorem q_gci : GC.sv (.i gn) = .int gn := rfl
theorem q_gcs : ∀ {z : Str}, GC.sv (.s z) = .str z := by intros; rfl
theorem q_eonce : wpE G (.once ow n a) δ h Q = wpE G a δ h fun d δ1 h1 => stow d δ1 h1 fun x δ2 h2 => onceQ x h2 n δ2.length fun xs => Q (.own xs) δ2 h2 := by simp only [wpE, onceQ]
theorem q_efld : ∀ {f : Str}, wpE G (.fld C a f) δ h Q = wpE G a δ h fun r δ1 h1 => fldQ r h1 C f fun v => Q v δ1 h1 := by intros; simp only [wpE, fldQ]
theorem q_emeth : wpE G (.meth pn C m ks a es kes) δ h Q = wpE G a δ h fun r δ0 h0 => methQ r h0 C m fun p => wpAr G es δ0 h0 fun ds bs δ1 h1 => wpAr G kes δ1 h1 fun ds2 bs2 δ2 h2 => lenIs ds es.length ∧ lenIs ds2 kes.length ∧ G.call pn (.ref p :: (ds ++ ds2)) h2 (fun d h3 => unbox (bs ++ bs2) δ2 h3 fun δ3 h3 => Q d δ3 h3) (fun x h3 => unbox (bs ++ bs2) δ2 h3 fun δ3 h3 => G.xp x δ3 h3) := by simp only [wpE, methQ]
theorem q_emake : wpE G (.make pn C ks es kes) δ h Q = wpAr G es δ h fun ds bs δ1 h1 => wpAr G kes δ1 h1 fun ds2 bs2 δ2 h2 => lenIs ds es.length ∧ lenIs ds2 kes.length ∧ ∀ p, h2 p = none → G.call pn (.ref p :: (ds ++ ds2)) (h2.set p (.ins C [])) (fun d h3 => d = .non ∧ unbox (bs ++ bs2) δ2 h3 fun δ3 h3 => Q (.ref p) δ3 h3) (fun x h3 => unbox (some (none, p) :: (bs ++ bs2)) δ2 h3 fun δ3 h3 => G.xp x δ3 h3) := by simp only [wpE]
theorem q_aset : ∀ {f : Str}, wpS G (.aset C a f b) δ h D = wpE G b δ h fun d δ1 h1 => stow d δ1 h1 fun v δ2 h2 => wpE G a δ2 h2 fun r δ3 h3 => asetQ r h3 C fun p fs => D.nx δ3 (h3.set p (.ins C (putS f v fs))) := by intros; simp only [wpS, asetQ]
theorem q_isb : cmpS .Is (.bl k) (.bl k2) δ h Fb = Fb (k == k2) := by simp [cmpS]
def revQ (v : Option (Bool × List SV)) (F : List SV → Prop) : Prop := ∃ xs, v = some (false, xs) ∧ F xs
def lrngQ (r : SV) (F : Nat → Prop) : Prop := ∃ n : Nat, r = .int n ∧ n ≤ 10000 ∧ F n
theorem lrng_go {n : Nat} {F : Nat → Prop} (h : n ≤ 10000) (q : F n) : lrngQ (.int n) F := ⟨n, rfl, h, q⟩
theorem aug_or {m : Int} (e : δ[n]? = some (some (.int m))) : wpS G (.aug n .BitOr a) δ h D = wpE G a δ h fun r δ1 h1 => intQ r fun j => D.nx (δ1.set n (some (.int (Builtin.bitOr m j)))) h1 := by
  rw [wpS]
  have f : (fun r δ1 h1 => ∃ m' j, SV.int m = .int m' ∧ r = .int j ∧ D.nx (List.set δ1 n (some (.int (Builtin.bitOr m' j)))) h1) = fun r δ1 h1 => intQ r fun j => D.nx (δ1.set n (some (.int (Builtin.bitOr m j)))) h1 := by
    funext r δ1 h1
    exact propext ⟨fun ⟨m', j, e1, e2, q⟩ => by cases e1; exact ⟨j, e2, q⟩, fun ⟨j, e2, q⟩ => ⟨m, j, rfl, e2, q⟩⟩
  refine propext ⟨fun ⟨x, ex, q⟩ => ?_, fun q => ⟨_, e, ?_⟩⟩
  · rw [e] at ex
    cases ex
    rw [← f]
    exact q
  · rw [← f] at q
    exact q
theorem q_shl : binS .LShift (.int i) (.int j) δ h F = (CPow i j ∧ F (.int (i * 2 ^ j.toNat))) := rfl
theorem q_band : binS .BitAnd (.int i) (.int j) δ h F = F (.int (Builtin.bitAnd i j)) := rfl
theorem q_bor : binS .BitOr (.int i) (.int j) δ h F = F (.int (Builtin.bitOr i j)) := rfl
theorem q_elrng : wpE G (.lrng a) δ h Q = wpE G a δ h fun r δ1 h1 => lrngQ r fun n => Q (.own (rangeS 0 n)) δ1 h1 := by simp only [wpE, lrngQ]
theorem q_erev : wpE G (.rev a) δ h Q = wpE G a δ h fun r δ1 h1 => revQ (view δ1 h1 r.opd) fun xs => Q (.own xs.reverse) δ1 h1 := by simp only [wpE, revQ]
theorem q_rev : revQ (some (false, xs)) Fxs = Fxs xs := propext ⟨fun ⟨_, e, q⟩ => by cases e; exact q, fun q => ⟨_, rfl, q⟩⟩
theorem q_ednew : wpE G .dnew δ h Q = Q (.ownD []) δ h := by simp only [wpE]
theorem q_asg_ownD : asgS (.nm n) (.ownD kvs) δ h Qh = (n < δ.length ∧ Qh (δ.set n (some (.ownD kvs))) h) := rfl
theorem q_var_ownD : varQ (some (some (.ownD kvs))) n F = F (.loc n) := rfl
theorem q_eindex : wpE G (.mth .index a [b]) δ h Q = wpE G a δ h fun r δ1 h1 => locQ r fun i => (∃ ys, δ1[i]? = some (some (.own ys))) ∧ wpOp G [b] δ1 h1 fun ds δ2 h2 => ∃ xs ns n j, δ2[i]? = some (some (.own xs)) ∧ ds = [.int n] ∧ asInts xs = some ns ∧ ns[j]? = some n ∧ (∀ m < j, ns[m]? ≠ some n) ∧ Q (.int (j : Nat)) δ2 h2 := by
  rw [wpE]
  first | rfl | congr 1
def strQ (r : SV) (F : Str → Prop) : Prop := ∃ z, r = .str z ∧ F z
def joinQ (z : Str) (o : Option (List Str)) (F : SV → Prop) : Prop := ∃ zs, o = some zs ∧ (zs.map (·.length)).sum + zs.length * z.length ≤ 16777216 ∧ F (.str (Txt.join z zs))
def sixQ (o : Option Nat) (F : SV → Prop) : Prop := ∃ c, o = some c ∧ F (.str ⟨#[c]⟩)
def intTQ (o : Option Int) (F : SV → Prop) : Prop := ∃ n, o = some n ∧ F (.int n)
def ustQ (x : SV) (h : SHp) (ns : List Nat) (n : Nat) (F : List SV → Prop) : Prop := ∃ xs, vw h x = some (false, xs) ∧ n < ns.length ∧ ns.length ≤ xs.length + 1 ∧ xs.length ≤ 16384 ∧ F (xs.take n ++ (.frz ((xs.drop n).take (xs.length + 1 - ns.length)) :: (xs.drop n).drop (xs.length + 1 - ns.length)))
variable {tm : TM} {t2 : T2} {Fs : Str → Prop} {z2 acc : Str} {cc : Nat} {ns : List Nat} {zs : List Str} {FX : List SV → Prop}
theorem ust_go {x : SV} (h1 : vw h x = some (false, xs)) (h2 : n < ns.length) (h3 : ns.length ≤ xs.length + 1) (h4 : xs.length ≤ 16384) (q : FX (xs.take n ++ (.frz ((xs.drop n).take (xs.length + 1 - ns.length)) :: (xs.drop n).drop (xs.length + 1 - ns.length)))) : ustQ x h ns n FX := ⟨xs, h1, h2, h3, h4, q⟩
theorem join_go (e : asStrs xs = some zs) (l : (zs.map (·.length)).sum + zs.length * z.length ≤ 16777216) (q : F (.str (Txt.join z zs))) : joinQ z (asStrs xs) F := ⟨zs, e, l, q⟩
theorem six_go {o : Option Nat} (e : o = some cc) (q : F (.str ⟨#[cc]⟩)) : sixQ o F := ⟨cc, e, q⟩
theorem intT_go {o : Option Int} (e : o = some i) (q : F (.int i)) : intTQ o F := ⟨i, e, q⟩
theorem q_strQ : strQ (.str z) Fs = Fs z := propext ⟨fun ⟨_, e, q⟩ => by cases e; exact q, fun q => ⟨_, rfl, q⟩⟩
theorem q_etm : wpE G (.tm tm a b) δ h Q = wpE G a δ h fun r δ1 h1 => strQ r fun z => wpE G b δ1 h1 fun s δ2 h2 => tmS tm z s.opd δ2 h2 fun d => Q d δ2 h2 := by simp only [wpE, strQ]
theorem q_split : tmS .split z (.str z2) δ h F = ((z2.length == 0) = false ∧ z.length + 2 ≤ sizeLine ∧ F (.own ((Txt.split z z2).map SV.str))) := propext ⟨fun ⟨_, e, q⟩ => by cases e; exact q, fun q => ⟨_, rfl, q⟩⟩
theorem q_starts : tmS .starts z (.str z2) δ h F = F (.bl (Txt.startswith z z2)) := propext ⟨fun ⟨_, e, q⟩ => by cases e; exact q, fun q => ⟨_, rfl, q⟩⟩
theorem q_join : tmS .join z x δ h F = viewQ (view δ h x) fun _ ys => joinQ z (asStrs ys) F := propext ⟨fun ⟨k, ys, zs, e, e2, q⟩ => ⟨k, ys, e, zs, e2, q⟩, fun ⟨k, ys, e, zs, e2, q⟩ => ⟨k, ys, zs, e, e2, q⟩⟩
theorem q_et2 : wpE G (.t2 t2 a b) δ h Q = wpE G a δ h fun r δ1 h1 => wpE G b δ1 h1 fun s δ2 h2 => t2S t2 r.opd s.opd fun d => Q d δ2 h2 := by simp only [wpE]
theorem q_six : t2S .ix (.str z) (.int i) F = (z.length ≤ sizeLine ∧ sixQ (atI z.cps.toList i) F) := propext ⟨fun ⟨_, _, c, e, e2, q1, q2, q⟩ => by cases e; cases e2; exact ⟨q1, c, q2, q⟩, fun ⟨q1, c, q2, q⟩ => ⟨_, _, c, rfl, rfl, q1, q2, q⟩⟩
theorem q_smul : t2S .mul (.str z) (.int i) F = (2 ≤ i ∧ i ≤ 1000 ∧ 1 ≤ z.length ∧ z.length ≤ 1000 ∧ F (.str (repS i.toNat z))) := propext ⟨fun ⟨_, _, e, e2, q⟩ => by cases e; cases e2; exact q, fun q => ⟨_, _, rfl, rfl, q⟩⟩
theorem q_sin : t2S .inn (.str ⟨#[cc]⟩) (.str z) F = F (.bl (decide (cc ∈ z.cps.toList))) := propext ⟨fun ⟨_, _, e, e2, q⟩ => by cases e; cases e2; exact q, fun q => ⟨_, _, rfl, rfl, q⟩⟩
theorem q_snin : t2S .notin (.str ⟨#[cc]⟩) (.str z) F = F (.bl (!decide (cc ∈ z.cps.toList))) := propext ⟨fun ⟨_, _, e, e2, q⟩ => by cases e; cases e2; exact q, fun q => ⟨_, _, rfl, rfl, q⟩⟩
theorem q_esslc : wpE G (.sslc a lo hi) δ h Q = wpE G a δ h fun r δ1 h1 => wpO G lo δ1 h1 fun l δ2 h2 => wpO G hi δ2 h2 fun u δ3 h3 => strQ r fun z => z.length ≤ sizeLine ∧ Q (.str (cutS z l u)) δ3 h3 := by simp only [wpE, strQ]
theorem q_efmt : wpE G (.fmt a) δ h Q = wpE G a δ h fun r δ1 h1 => fmtS r fun d => Q d δ1 h1 := by simp only [wpE]
theorem q_fmtS : fmtS (.str z) F = (z.length ≤ sizeLine ∧ F (.str z)) := rfl
theorem q_fmtI : fmtS (.int i) F = (i.natAbs.log2 < 1920 ∧ F (.str (toString i))) := rfl
theorem q_efs : wpE G (.fs es) δ h Q = wpFs G es Str.empty δ h Q := by simp only [wpE]
theorem q_fs0 : wpFs G [] acc δ h Q = Q (.str acc) δ h := by simp only [wpFs]
theorem q_fs1 : wpFs G (a :: es) acc δ h Q = wpE G a δ h fun r δ1 h1 => strQ r fun y => (acc ++ y).length ≤ sizeLine ∧ wpFs G es (acc ++ y) δ1 h1 Q := by simp only [wpFs, strQ]
theorem q_itxt : wpI G (.txt a) δ h Qi = wpE G a δ h fun d δ1 h1 => strQ d fun z => Qi (fun _ => True) (signsS z) δ1 h1 := by simp only [wpI, strQ]
theorem q_sust : wpS G (.ust ns n a) δ h D = wpE G a δ h fun d δ1 h1 => stow d δ1 h1 fun x δ2 h2 => ustQ x h2 ns n fun ys => tgsS (ns.map .nm) ys δ2 h2 D.nx := by simp only [wpS, ustQ]
theorem q_bstrI : biS .str [.int i] δ h F = (i.natAbs.log2 < 1920 ∧ F (.str (toString i))) := rfl
theorem q_bstrS : biS .str [.str z] δ h F = F (.str z) := rfl
theorem q_bintS : biS .int [.str z] δ h F = (z.length ≤ 640 ∧ intTQ (PySem.intText? z) F) := propext ⟨fun ⟨n, e, l, q⟩ => ⟨l, n, e, q⟩, fun ⟨l, n, e, q⟩ => ⟨n, e, l, q⟩⟩
theorem q_blenS : biS .len [.str z] δ h F = (z.length ≤ sizeLine ∧ F (.int z.length)) := rfl
theorem q_adds : binS .Add (.str z) (.str z2) δ h F = (z.length + z2.length ≤ sizeLine ∧ F (.str (z ++ z2))) := rfl
theorem q_eqs : cmpS .Eq (.str z) (.str z2) δ h Fb = (PyData.strOk z = true ∧ PyData.strOk z2 = true ∧ Fb (decide (z = z2))) := by
  have e : (z == z2) = decide (z = z2) := by by_cases h : z = z2 <;> simp [h]
  simp [cmpS, pdV, view, vw, SV.pd, PyData.eqv, SeqAt.shaped, PyData.canLay0, PyData.depth, e]
theorem q_nes : cmpS .NotEq (.str z) (.str z2) δ h Fb = (PyData.strOk z = true ∧ PyData.strOk z2 = true ∧ Fb (!decide (z = z2))) := by
  have e : (z == z2) = decide (z = z2) := by by_cases h : z = z2 <;> simp [h]
  simp [cmpS, pdV, view, vw, SV.pd, PyData.eqv, SeqAt.shaped, PyData.canLay0, PyData.depth, e]
theorem q_ife : wpS G (.ife c sa sb) δ h D = wpE G c δ h fun r δ1 h1 => blQ r fun k => condQ k (wpSs G sa δ1 h1 D) (wpSs G sb δ1 h1 D) := by first | (rw [wpS]; done) | (rw [wpS]; rfl)
theorem aug_add {m : Int} (e : δ[n]? = some (some (.int m))) : wpS G (.aug n .Add a) δ h D = wpE G a δ h fun r δ1 h1 => intQ r fun j => D.nx (δ1.set n (some (.int (m + j)))) h1 := by
  rw [wpS]
  have f : (fun r δ1 h1 => ∃ m' j, SV.int m = .int m' ∧ r = .int j ∧ D.nx (List.set δ1 n (some (.int (m' + j)))) h1) = fun r δ1 h1 => intQ r fun j => D.nx (δ1.set n (some (.int (m + j)))) h1 := by
    funext r δ1 h1
    exact propext ⟨fun ⟨m', j, e1, e2, q⟩ => by cases e1; exact ⟨j, e2, q⟩, fun ⟨j, e2, q⟩ => ⟨m, j, rfl, e2, q⟩⟩
  refine propext ⟨fun ⟨x, ex, q⟩ => ?_, fun q => ⟨_, e, ?_⟩⟩
  · rw [e] at ex
    cases ex
    rw [← f]
    exact q
  · rw [← f] at q
    exact q
theorem aug_sub {m : Int} (e : δ[n]? = some (some (.int m))) : wpS G (.aug n .Sub a) δ h D = wpE G a δ h fun r δ1 h1 => intQ r fun j => D.nx (δ1.set n (some (.int (m - j)))) h1 := by
  rw [wpS]
  have f : (fun r δ1 h1 => ∃ m' j, SV.int m = .int m' ∧ r = .int j ∧ D.nx (List.set δ1 n (some (.int (m' - j)))) h1) = fun r δ1 h1 => intQ r fun j => D.nx (δ1.set n (some (.int (m - j)))) h1 := by
    funext r δ1 h1
    exact propext ⟨fun ⟨m', j, e1, e2, q⟩ => by cases e1; exact ⟨j, e2, q⟩, fun ⟨j, e2, q⟩ => ⟨m, j, rfl, e2, q⟩⟩
  refine propext ⟨fun ⟨x, ex, q⟩ => ?_, fun q => ⟨_, e, ?_⟩⟩
  · rw [e] at ex
    cases ex
    rw [← f]
    exact q
  · rw [← f] at q
    exact q
theorem q_for : wpS G (.for t it ss) δ h D = wpI G it δ h fun gd items δ1 h1 => forLoop gd (tgS t) (fun δ h D => wpSs G ss δ h D) items δ1 h1 D := by simp only [wpS]
theorem seq_rule (I : SSt → SHp → Prop) (h1 : ∀ K : SSt → SHp → Prop, (∀ δ h, I δ h → K δ h) → wpS G s δ h { nx := K, rt := D.rt, bk := D.bk, ct := D.ct }) (h2 : ∀ δ h, I δ h → wpSs G ss δ h D) : wpSs G (s :: ss) δ h D := by
  rw [q_cons]
  exact h1 _ h2
theorem cond_split (h1 : k = true → A) (h2 : k = false → B) : condQ k A B := by
  cases k
  · exact h2 rfl
  · exact h1 rfl
end
def sx0 := And.intro @q_var_int (And.intro @q_var_bl (And.intro @q_var_str (And.intro @q_var_non (And.intro @q_var_tup (And.intro @q_var_frz (And.intro @q_var_ref (And.intro @q_var_lkd (And.intro @q_var_own (And.intro @q_int (And.intro @q_bl (And.intro @q_view (And.intro @q_ix (And.intro @q_at (And.intro @q_isi_int_int (And.intro @q_isi_int_bool (And.intro @q_isi_int_str (And.intro @q_isi_int_tuple (And.intro @q_isi_int_list (And.intro @q_isi_bool_int (And.intro @q_isi_bool_bool (And.intro @q_isi_bool_str (And.intro @q_isi_bool_tuple (And.intro @q_isi_bool_list (And.intro @q_isi_str_int (And.intro @q_isi_str_bool (And.intro @q_isi_str_str (And.intro @q_isi_str_tuple (And.intro @q_isi_str_list (@q_isi_NoneType_int)))))))))))))))))))))))))))))
def sx1 := And.intro @q_isi_NoneType_bool (And.intro @q_isi_NoneType_str (And.intro @q_isi_NoneType_tuple (And.intro @q_isi_NoneType_list (And.intro @q_isi_tuple_int (And.intro @q_isi_tuple_bool (And.intro @q_isi_tuple_str (And.intro @q_isi_tuple_tuple (And.intro @q_isi_tuple_list (And.intro @q_isi_list_int (And.intro @q_isi_list_bool (And.intro @q_isi_list_str (And.intro @q_isi_list_tuple (And.intro @q_isi_list_list (And.intro @q_len_0 (And.intro @q_len_1 (And.intro @q_len_2 (And.intro @q_len_3 (And.intro @q_len_4 (And.intro @q_len_5 (And.intro @q_len_6 (And.intro @q_len_7 (And.intro @q_len_8 (And.intro @q_condT (And.intro @q_condF (And.intro @q_bothT (And.intro @q_bothF (And.intro @q_nx (And.intro @q_rais0 (@q_rais1)))))))))))))))))))))))))))))
def sx2 := And.intro @q_nil (And.intro @q_cons (And.intro @q_evar (And.intro @q_ecst (And.intro @q_eneg (And.intro @q_enot (And.intro @q_ebin (And.intro @q_ecmp (And.intro @q_ecmp2 (And.intro @q_ebool (And.intro @q_b1 (And.intro @q_bA (And.intro @q_bO (And.intro @q_eife (And.intro @q_etup (And.intro @q_elst (And.intro @q_eix (And.intro @q_lis_0 (And.intro @q_lis_1 (And.intro @q_lis_2 (And.intro @q_lis_3 (And.intro @q_lis_4 (And.intro @q_lis_5 (And.intro @q_lis_6 (And.intro @q_eslc (And.intro @q_ecallP (And.intro @q_ebi (And.intro @q_eisi (And.intro @q_edrp (@q_drp)))))))))))))))))))))))))))))
def sx3 := And.intro @q_efz (And.intro @q_ebox (And.intro @q_eapp (And.intro @q_appL (And.intro @q_locQ (And.intro @q_epop (And.intro @q_epopAt (And.intro @q_popAtL (And.intro @q_popAtR (And.intro @q_eext (And.intro @q_st0 (And.intro @q_st1 (And.intro @q_op0 (And.intro @q_op1 (And.intro @q_ar0 (And.intro @q_ar1 (And.intro @q_o0 (And.intro @q_o1 (And.intro @q_if0 (And.intro @q_if1 (And.intro @q_stow_int (And.intro @q_opd_int (And.intro @q_box_int (And.intro @q_ret_int (And.intro @q_asg_int (And.intro @q_stow_bl (And.intro @q_opd_bl (And.intro @q_box_bl (And.intro @q_ret_bl (@q_asg_bl)))))))))))))))))))))))))))))
def sx4 := And.intro @q_stow_str (And.intro @q_opd_str (And.intro @q_box_str (And.intro @q_ret_str (And.intro @q_asg_str (And.intro @q_stow_non (And.intro @q_opd_non (And.intro @q_box_non (And.intro @q_ret_non (And.intro @q_asg_non (And.intro @q_stow_tup (And.intro @q_opd_tup (And.intro @q_box_tup (And.intro @q_ret_tup (And.intro @q_asg_tup (And.intro @q_stow_frz (And.intro @q_opd_frz (And.intro @q_box_frz (And.intro @q_ret_frz (And.intro @q_asg_frz (And.intro @q_stow_ref (And.intro @q_opd_ref (And.intro @q_box_ref (And.intro @q_ret_ref (And.intro @q_asg_ref (And.intro @q_stow_lkd (And.intro @q_opd_lkd (And.intro @q_box_lkd (And.intro @q_ret_lkd (@q_asg_lkd)))))))))))))))))))))))))))))
def sx5 := And.intro @q_stow_own (And.intro @q_opd_own (And.intro @q_opd_loc (And.intro @q_ret_own (And.intro @q_asg_own (And.intro @q_asg_tup2 (And.intro @q_tg_nm (And.intro @q_tg_tup (And.intro @q_tgs0 (And.intro @q_tgs1 (And.intro @q_vw_tup (And.intro @q_vw_frz (And.intro @q_vw_lkd (And.intro @q_vv_tup (And.intro @q_vv_frz (And.intro @q_vv_lkd (And.intro @q_vw_ref (And.intro @q_vv_ref (And.intro @q_refV (And.intro @q_vw_loc (And.intro @q_locV (And.intro @q_vv_own (And.intro @q_at_0 (And.intro @q_at_1 (And.intro @q_at_2 (And.intro @q_at_3 (And.intro @q_at_4 (And.intro @q_at_5 (And.intro @q_at_6 (@q_at_7)))))))))))))))))))))))))))))
def sx6 := And.intro @q_add (And.intro @q_sub (And.intro @q_mul (And.intro @q_div (And.intro @q_mod (And.intro @q_pow (And.intro @q_lt (And.intro @q_le (And.intro @q_gt (And.intro @q_ge (And.intro @q_eqi (And.intro @q_nei (And.intro @q_eqb (And.intro @q_neb (And.intro @q_is_int (And.intro @q_isnt_int (And.intro @q_ty_int (And.intro @q_is_bl (And.intro @q_isnt_bl (And.intro @q_ty_bl (And.intro @q_is_str (And.intro @q_isnt_str (And.intro @q_ty_str (And.intro @q_is_non (And.intro @q_isnt_non (And.intro @q_ty_non (And.intro @q_is_tup (And.intro @q_isnt_tup (And.intro @q_ty_tup (@q_is_frz)))))))))))))))))))))))))))))
def sx7 := And.intro @q_isnt_frz (And.intro @q_ty_frz (And.intro @q_is_ref (And.intro @q_isnt_ref (And.intro @q_is_lkd (And.intro @q_isnt_lkd (And.intro @q_ty_lkd (And.intro @q_ty_ref (And.intro @q_ty_loc (And.intro @q_tyF (And.intro @q_tyT (And.intro @q_abs (And.intro @q_blen_tup (And.intro @q_blen_frz (And.intro @q_blen_ref (And.intro @q_blen_lkd (And.intro @q_blen_loc (And.intro @q_btup (And.intro @q_blist (And.intro @q_bmax (And.intro @q_bmin (And.intro @q_bint (And.intro @q_un0 (And.intro @q_un1 (And.intro @q_un2 (And.intro @q_un3 (And.intro @q_unC (And.intro @q_box_own (And.intro @q_asg (@q_par)))))))))))))))))))))))))))))
def sx8 := And.intro @q_par3 (And.intro @q_asub (And.intro @q_exp (And.intro @q_sret (And.intro @q_sret0 (And.intro @q_brk (And.intro @q_cont (And.intro @q_pass (And.intro @q_setR (And.intro @q_setL (And.intro @q_setC (And.intro @q_setO (And.intro @q_setOD (And.intro @q_setN (And.intro @q_ix_1_0 (And.intro @q_ix_2_0 (And.intro @q_ix_2_1 (And.intro @q_ix_3_0 (And.intro @q_ix_3_1 (And.intro @q_ix_3_2 (And.intro @q_ix_4_0 (And.intro @q_ix_4_1 (And.intro @q_ix_4_2 (And.intro @q_ix_4_3 (And.intro @q_ix_5_0 (And.intro @q_ix_5_1 (And.intro @q_ix_5_2 (And.intro @q_ix_5_3 (And.intro @q_ix_5_4 (@q_ix_6_0)))))))))))))))))))))))))))))
def sx9 := And.intro @q_ix_6_1 (And.intro @q_ix_6_2 (And.intro @q_ix_6_3 (And.intro @q_ix_6_4 (And.intro @q_ix_6_5 (And.intro @q_ix_7_0 (And.intro @q_ix_7_1 (And.intro @q_ix_7_2 (And.intro @q_ix_7_3 (And.intro @q_ix_7_4 (And.intro @q_ix_7_5 (And.intro @q_ix_7_6 (And.intro @q_ix_8_0 (And.intro @q_ix_8_1 (And.intro @q_ix_8_2 (And.intro @q_ix_8_3 (And.intro @q_ix_8_4 (And.intro @q_ix_8_5 (And.intro @q_ix_8_6 (And.intro @q_ix_8_7 (And.intro @q_hset (And.intro @q_hss (And.intro @q_iof (And.intro @q_izip (And.intro @q_ienum (And.intro @q_irng (And.intro @q_irng2 (And.intro @q_rng (And.intro @q_rng2 (@q_eglob)))))))))))))))))))))))))))))
def sx10 := And.intro @q_gci (And.intro @q_gcs (And.intro @q_eonce (And.intro @q_efld (And.intro @q_emeth (And.intro @q_emake (And.intro @q_aset (And.intro @q_isb (And.intro @q_shl (And.intro @q_band (And.intro @q_bor (And.intro @q_elrng (And.intro @q_erev (And.intro @q_rev (And.intro @q_ednew (And.intro @q_asg_ownD (And.intro @q_var_ownD (And.intro @q_eindex (And.intro @q_strQ (And.intro @q_etm (And.intro @q_split (And.intro @q_starts (And.intro @q_join (And.intro @q_et2 (And.intro @q_six (And.intro @q_smul (And.intro @q_sin (And.intro @q_snin (And.intro @q_esslc (@q_efmt)))))))))))))))))))))))))))))
def sx11 := And.intro @q_fmtS (And.intro @q_fmtI (And.intro @q_efs (And.intro @q_fs0 (And.intro @q_fs1 (And.intro @q_itxt (And.intro @q_sust (And.intro @q_bstrI (And.intro @q_bstrS (And.intro @q_bintS (And.intro @q_blenS (And.intro @q_adds (And.intro @q_eqs (And.intro @q_nes (And.intro @List.map_cons.{0,0} (And.intro @List.map_nil.{0,0} (And.intro @List.cons_append.{0} (And.intro @List.nil_append.{0} (And.intro @List.length_cons.{0} (And.intro @List.length_nil.{0} (And.intro @List.replicate_succ.{0} (And.intro @List.replicate_zero.{0} (And.intro @List.getElem?_cons_zero.{0} (And.intro @List.getElem?_cons_succ.{0} (And.intro @List.set_cons_zero.{0} (And.intro @List.set_cons_succ.{0} (And.intro @and_true (And.intro @true_and (And.intro @and_self (@List.cons.injEq.{0})))))))))))))))))))))))))))))
def sx12 := And.intro @exists_eq_left'.{1} (And.intro @exists_and_left.{1} (And.intro @exists_and_right.{1} (And.intro @exists_const.{1} (And.intro @Option.some.injEq.{0} (And.intro @SV.own.injEq (And.intro @exists_eq'.{1} (And.intro @Nat.zero_lt_succ (And.intro @Nat.lt_add_left_iff_pos (And.intro @and_assoc (And.intro @Bool.not_true (@Bool.not_false)))))))))))
end SL
/-! F1: whole numbers and fractions. -/
namespace SL
open PySem PySem.Spec L2
section
variable {G : Gm} {lv k : Nat} {args : List SV} {h : SHp} {R : SV → SHp → Prop} {X : SX → SHp → Prop}
def b_common : List SS := [.par 0 1 (.bi .abs [(.var 0)]) (.bi .abs [(.var 1)]), .whl (.cmp .Gt (.var 1) (.cst (.int 0))) [.par 0 1 (.var 1) (.bin .Mod (.var 0) (.var 1))], .ret (.var 0)]
def spCommon (lv k : Nat) : SSp := fun args h R X => lv ≤ k ∧ ∃ a b : Int, args = [.int a, .int b] ∧ R (.int (Int.gcd a b)) h
theorem common_ok (q : spCommon lv k args h R X) : args.length = 2 ∧ wpSs G b_common (st0 2 args) h (endsOf R) := by
  obtain ⟨_, a, b, rfl, q⟩ := q
  refine ⟨rfl, ?_⟩
  unfold b_common
  simp only [q_ecall, sx0, sx1, sx2, sx3, sx4, sx5, sx6, sx7, sx8, sx9, sx10, sx11, sx12, Nat.reduceAdd, Nat.reduceSub, Nat.reduceLT, Nat.reduceEqDiff, st0, endsOf]
  refine whl_rule (fun n δ h' => h' = h ∧ ∃ x : Nat, δ = [some (.int x), some (.int n)] ∧ Nat.gcd x n = Int.gcd a b) (n := b.natAbs) ⟨rfl, a.natAbs, rfl, rfl⟩ ?_
  rintro n _ _ K hK ⟨rfl, x, rfl, hg⟩
  simp only [q_ecall, sx0, sx1, sx2, sx3, sx4, sx5, sx6, sx7, sx8, sx9, sx10, sx11, sx12, Nat.reduceAdd, Nat.reduceSub, Nat.reduceLT, Nat.reduceEqDiff, st0, endsOf]
  refine ⟨_, rfl, ?_⟩
  by_cases hn : 0 < n
  · rw [decide_eq_true (by omega)]
    simp only [q_ecall, sx0, sx1, sx2, sx3, sx4, sx5, sx6, sx7, sx8, sx9, sx10, sx11, sx12, Nat.reduceAdd, Nat.reduceSub, Nat.reduceLT, Nat.reduceEqDiff, st0, endsOf]
    refine ⟨by omega, hK (x % n) _ _ (Nat.mod_lt _ hn) ⟨rfl, n, ?_, ?_⟩⟩
    · rfl
    · rw [← hg, Nat.gcd_comm n, ← Nat.gcd_rec, Nat.gcd_comm]
  · have : n = 0 := by omega
    subst this
    rw [Nat.gcd_zero_right] at hg
    subst hg
    simpa using q
def b_lowest : List SS := [.asg (.nm 2) (.call "common" [(.var 0), (.var 1)]), .ret (.tup [(.bin .FloorDiv (.var 0) (.var 2)), (.bin .FloorDiv (.var 1) (.var 2))])]
def spLowest (lv k : Nat) : SSp := fun args h R X => lv ≤ k ∧ ∃ a b : Int, args = [.int a, .int b] ∧ 0 < b ∧ Sm 9000 b ∧ R (.tup [.int (a / Int.gcd a b), .int (b / Int.gcd a b)]) h
theorem lowest_ok {lc : Nat} (hc : G.call "common" = spCommon lc k) (hl : lc < lv) (q : spLowest lv (k + 1) args h R X) : args.length = 2 ∧ wpSs G b_lowest (st0 3 args) h (endsOf R) := by
  obtain ⟨h0, a, b, rfl, hb, hs, q⟩ := q
  refine ⟨rfl, ?_⟩
  unfold b_lowest
  simp only [q_ecall, sx0, sx1, sx2, sx3, sx4, sx5, sx6, sx7, sx8, sx9, sx10, sx11, sx12, Nat.reduceAdd, Nat.reduceSub, Nat.reduceLT, Nat.reduceEqDiff, st0, endsOf, hc]
  refine ⟨by omega, a, b, rfl, ?_⟩
  have hg : 0 < (Int.gcd a b : Int) := by
    have := Int.gcd_pos_of_ne_zero_right a (show b ≠ 0 by omega)
    omega
  have hg2 : Sm 9000 (Int.gcd a b : Int) := hs.of_abs (by
    have := Int.le_of_dvd hb (Int.gcd_dvd_right a b)
    omega)
  simp only [q_ecall, sx0, sx1, sx2, sx3, sx4, sx5, sx6, sx7, sx8, sx9, sx10, sx11, sx12, Nat.reduceAdd, Nat.reduceSub, Nat.reduceLT, Nat.reduceEqDiff, st0, endsOf]
  exact ⟨hg2.divOk (by decide) hg, hg2.divOk (by decide) hg, q⟩
def b_less : List SS := [.ret (.cmp .Lt (.bin .Mult (.ix (.var 0) (.cst (.int 0))) (.ix (.var 1) (.cst (.int 1)))) (.bin .Mult (.ix (.var 1) (.cst (.int 0))) (.ix (.var 0) (.cst (.int 1)))))]
def spLess (lv k : Nat) : SSp := fun args h R X => lv ≤ k ∧ ∃ a b c d : Int, args = [.tup [.int a, .int b], .tup [.int c, .int d]] ∧ Sm 10000000 a ∧ Sm 10000000 b ∧ Sm 10000000 c ∧ Sm 10000000 d ∧ R (.bl (decide (a * d < c * b))) h
theorem less_ok (q : spLess lv k args h R X) : args.length = 2 ∧ wpSs G b_less (st0 2 args) h (endsOf R) := by
  obtain ⟨h0, a, b, c, d, rfl, h1, h2, h3, h4, q⟩ := q
  refine ⟨rfl, ?_⟩
  unfold b_less
  simp only [q_ecall, sx0, sx1, sx2, sx3, sx4, sx5, sx6, sx7, sx8, sx9, sx10, sx11, sx12, Nat.reduceAdd, Nat.reduceSub, Nat.reduceLT, Nat.reduceEqDiff, st0, endsOf]
  exact ⟨h1.mulOk h4 (by decide), h3.mulOk h2 (by decide), q⟩
end
end SL
/-! F2: the laws' drawing of numbers. -/
namespace SL
open PySem PySem.Spec L2
section
variable {G : Gm} {lv k : Nat} {args : List SV} {h : SHp} {R : SV → SHp → Prop} {X : SX → SHp → Prop}
/-- a box: the cells, how many are taken, what is left of a great one, the seed -/
def Drawn (b : List SV) : Prop := ∃ (cells : List Int) (i big seed : Int), b = [.frz (cells.map SV.int), .int i, .int big, .int seed] ∧ 0 ≤ i ∧ i ≤ 1000000 ∧ cells.length ≤ 63 ∧ (i ≤ cells.length) ∧ 0 ≤ big ∧ 0 ≤ seed ∧ seed < 4294967296
def b_take : List SS := [.ife (.bool true [(.cmp .Eq (.ix (.var 0) (.cst (.int 2))) (.cst (.int 0))), (.cmp .Lt (.ix (.var 0) (.cst (.int 1))) (.bi .len [(.ix (.var 0) (.cst (.int 0)))]))]) [.asg (.nm 3) (.ix (.ix (.var 0) (.cst (.int 0))) (.ix (.var 0) (.cst (.int 1)))), .asub (.var 0) (.cst (.int 1)) (.bin .Add (.ix (.var 0) (.cst (.int 1))) (.cst (.int 1))), .ife (.cmp .GtE (.var 3) (.bin .Pow (.cst (.int 10)) (.cst (.int 18)))) [.asub (.var 0) (.cst (.int 2)) (.var 3)] [.asg (.nm 2) (.bin .Add (.bin .Mult (.ix (.var 0) (.cst (.int 3))) (.cst (.int 48271))) (.bin .Mod (.var 3) (.cst (.int 2147483563)))), .asub (.var 0) (.cst (.int 3)) (.bin .Mod (.bin .Add (.var 2) (.bin .Mult (.ix (.var 0) (.cst (.int 1))) (.cst (.int 69621)))) (.cst (.int 2147483399)))]] [], .ife (.cmp .Gt (.ix (.var 0) (.cst (.int 2))) (.cst (.int 0))) [.asg (.nm 4) (.bin .Mod (.ix (.var 0) (.cst (.int 2))) (.var 1)), .asub (.var 0) (.cst (.int 2)) (.bin .FloorDiv (.ix (.var 0) (.cst (.int 2))) (.var 1)), .ret (.var 4)] [], .asg (.nm 2) (.bin .Add (.bin .Mult (.ix (.var 0) (.cst (.int 3))) (.ix (.var 0) (.cst (.int 3)))) (.bin .Mult (.ix (.var 0) (.cst (.int 3))) (.cst (.int 40692)))), .asub (.var 0) (.cst (.int 3)) (.bin .Mod (.bin .Add (.bin .Add (.var 2) (.cst (.int 1234577))) (.ix (.var 0) (.cst (.int 1)))) (.cst (.int 2147483399))), .ret (.bin .Mod (.bin .Add (.bin .FloorDiv (.ix (.var 0) (.cst (.int 3))) (.cst (.int 7))) (.bin .Mult (.bin .Mod (.ix (.var 0) (.cst (.int 3))) (.cst (.int 10007))) (.cst (.int 31)))) (.var 1))]
def spTake (lv k : Nat) : SSp := fun args h R X => lv ≤ k ∧ ∃ (p : Addr) (b : List SV) (many : Int), args = [.ref p, .int many] ∧ h p = some (.lst b) ∧ Drawn b ∧ 0 < many ∧ Sm 9000 many ∧ ∀ (r : Int) (b' : List SV), 0 ≤ r → r < many → Drawn b' → R (.int r) (h.set p (.lst b'))
theorem set_id {h : SHp} {p : Addr} {c : Cell} (e : h p = some c) : h.set p c = h := by
  funext b
  unfold SHp.set
  split
  · rename_i z; rw [z, e]
  · rfl
theorem atI_map {cells : List Int} {i : Int} (h1 : 0 ≤ i) (h2 : i < cells.length) : ∃ c : Int, atI (cells.map SV.int) i = some (.int c) := by
  have h3 : i.toNat < cells.length := by omega
  have e : ((i.toNat : Nat) : Int) = i := by omega
  have q := atI_lit (ys := cells.map SV.int) (y := .int cells[i.toNat]) i.toNat (by simpa using h3) (by simp [h3])
  rw [e] at q
  exact ⟨_, q⟩
theorem cmulR {i j : Int} (h1 : -(2 ^ 64) < j) (h2 : j < 2 ^ 64) : IntMulOk i j := CMul.ok (.inr ⟨h1, h2⟩)
theorem take_ok (q : spTake lv k args h R X) : args.length = 2 ∧ wpSs G b_take (st0 5 args) h (endsOf R) := by
  obtain ⟨_, p, b, many, rfl, hp, hb, hm, hs, q⟩ := q
  refine ⟨rfl, ?_⟩
  unfold b_take
  refine seq_rule (fun δ h' => ∃ o2 o3 b, Drawn b ∧ δ = [some (.ref p), some (.int many), o2, o3, none] ∧ h' = h.set p (.lst b)) (fun K hK => ?_) ?_
  · have hb0 := hb
    obtain ⟨cells, i, big, seed, rfl, hi, hi2, hc, hic, hg, hs1, hs2⟩ := hb
    rw [q_ife]
    simp only [q_ecall, sx0, sx1, sx2, sx3, sx4, sx5, sx6, sx7, sx8, sx9, sx10, sx11, sx12, Nat.reduceAdd, Nat.reduceSub, Nat.reduceLT, Nat.reduceEqDiff, st0, endsOf, hp]
    have nil0 : K [some (.ref p), some (.int many), none, none, none] h := hK _ _ ⟨none, none, _, hb0, rfl, (set_id hp).symm⟩
    refine cond_split (fun e => ?_) fun e => nil0
    refine cond_split (fun e2 => ?_) fun e2 => nil0
    have e2 : i < cells.length := by simpa using e2
    obtain ⟨c, ec⟩ := atI_map hi e2
    have e : big = 0 := by simpa using e
    subst e
    simp only [q_ecall, sx0, sx1, sx2, sx3, sx4, sx5, sx6, sx7, sx8, sx9, sx10, sx11, sx12, Nat.reduceAdd, Nat.reduceSub, Nat.reduceLT, Nat.reduceEqDiff, st0, endsOf, hp, ec]
    rw [q_ife]
    simp only [q_ecall, sx0, sx1, sx2, sx3, sx4, sx5, sx6, sx7, sx8, sx9, sx10, sx11, sx12, Nat.reduceAdd, Nat.reduceSub, Nat.reduceLT, Nat.reduceEqDiff, st0, endsOf]
    refine ⟨⟨by decide, by decide, by decide⟩, cond_split (fun e3 => ?_) fun e3 => ?_⟩
    · have e3 := of_decide_eq_true e3
      exact hK _ _ ⟨none, some (.int c), _, ⟨cells, i + 1, c, seed, rfl, by omega, by omega, hc, by omega, Int.le_trans (by decide) e3, hs1, hs2⟩, rfl, rfl⟩
    · have e1 := Int.emod_nonneg c (show (2147483563 : Int) ≠ 0 by omega)
      refine ⟨cmulR (by omega) (by omega), by omega, cmulR (by omega) (by omega), by omega, ?_⟩
      refine hK _ _ ⟨_, _, _, ⟨cells, i + 1, 0, _, rfl, by omega, by omega, hc, by omega, by omega, Int.emod_nonneg _ (by omega), ?_⟩, rfl, rfl⟩
      have := Int.emod_lt_of_pos (seed * 48271 + c % 2147483563 + (i + 1) * 69621) (show (0 : Int) < 2147483399 by omega)
      omega
  · rintro _ _ ⟨o2, o3, b, hb, rfl, rfl⟩
    obtain ⟨cells, i, big, seed, rfl, hi, hi2, hc, hic, hg, hs1, hs2⟩ := hb
    rw [q_cons, q_ife]
    simp only [q_ecall, sx0, sx1, sx2, sx3, sx4, sx5, sx6, sx7, sx8, sx9, sx10, sx11, sx12, Nat.reduceAdd, Nat.reduceSub, Nat.reduceLT, Nat.reduceEqDiff, st0, endsOf]
    refine cond_split (fun e => ?_) fun e => ?_
    · have e : 0 < big := by simpa using e
      refine ⟨hm, hs.divOk (by decide) hm, ?_⟩
      refine q _ _ (Int.emod_nonneg _ (by omega)) (Int.emod_lt_of_pos _ hm) ⟨cells, i, big / many, seed, rfl, hi, hi2, hc, hic, Int.ediv_nonneg hg (by omega), hs1, hs2⟩
    · refine ⟨cmulR (by omega) (by omega), cmulR (by omega) (by omega), by omega, ?_⟩
      have e1 := Int.emod_nonneg (seed * seed + seed * 40692 + 1234577 + i) (show (2147483399 : Int) ≠ 0 by omega)
      have e2 := Int.emod_lt_of_pos (seed * seed + seed * 40692 + 1234577 + i) (show (0 : Int) < 2147483399 by omega)
      refine ⟨⟨by omega, PyProof.noPylong_small (by decide)⟩, by omega, cmulR (by omega) (by omega), hm, ?_⟩
      exact q _ _ (Int.emod_nonneg _ (by omega)) (Int.emod_lt_of_pos _ hm) ⟨cells, i, big, _, rfl, hi, hi2, hc, hic, hg, e1, by omega⟩
def b_box : List SS := [.ret (.lst [(.bi .list [(.slc (.var 0) none (some (.cst (.int 63))))]), (.cst (.int 0)), (.cst (.int 0)), (.bin .Add (.cst (.int 1009)) (.bin .Mult (.cst (.int 31)) (.bi .len [(.slc (.var 0) none (some (.cst (.int 63))))])))])]
def spBox (lv k : Nat) : SSp := fun args h R X => lv ≤ k ∧ ∃ ns : List Int, args = [.lkd (ns.map SV.int)] ∧ ns.length ≤ 63 ∧ ∀ b, Drawn b → R (.own b) h
theorem cut_map {α β : Type} (f : α → β) (xs : List α) (lo hi : Option Int) : cut (xs.map f) lo hi = (cut xs lo hi).map f := by
  unfold cut
  rw [List.length_map, ← List.map_drop, ← List.map_take]
theorem cut_len {α : Type} (xs : List α) (lo hi : Option Int) : (cut xs lo hi).length ≤ xs.length := by
  unfold cut
  rw [List.length_take, List.length_drop]
  omega
theorem box_ok (q : spBox lv k args h R X) : args.length = 1 ∧ wpSs G b_box (st0 1 args) h (endsOf R) := by
  obtain ⟨_, ns, rfl, hl, q⟩ := q
  refine ⟨rfl, ?_⟩
  unfold b_box
  simp only [q_ecall, sx0, sx1, sx2, sx3, sx4, sx5, sx6, sx7, sx8, sx9, sx10, sx11, sx12, Nat.reduceAdd, Nat.reduceSub, Nat.reduceLT, Nat.reduceEqDiff, st0, endsOf, cut_map]
  have hl2 := cut_len ns none (some 63)
  refine ⟨CMul.ok (.inl ⟨by decide, by decide⟩), q _ ⟨_, 0, 0, _, rfl, by omega, by omega, by omega, by omega, by omega, ?_, ?_⟩⟩
  · simp only [List.length_map]; omega
  · simp only [List.length_map]; omega
def b_near : List SS := [.ret (.bin .Sub (.call "_law_take" [(.var 0), (.bin .Add (.bin .Mult (.cst (.int 2)) (.var 1)) (.cst (.int 1)))]) (.var 1))]
def spNear (lv k : Nat) : SSp := fun args h R X => lv ≤ k ∧ ∃ (p : Addr) (b : List SV) (far : Int), args = [.ref p, .int far] ∧ h p = some (.lst b) ∧ Drawn b ∧ 0 ≤ far ∧ Sm 8000 far ∧ ∀ (r : Int) (b' : List SV), -far ≤ r → r ≤ far → Drawn b' → R (.int r) (h.set p (.lst b'))
theorem near_ok {lc : Nat} (hc : G.call "_law_take" = spTake lc k) (hl : lc < lv) (q : spNear lv (k + 1) args h R X) : args.length = 2 ∧ wpSs G b_near (st0 2 args) h (endsOf R) := by
  obtain ⟨_, p, b, far, rfl, hp, hb, h0, hs, q⟩ := q
  refine ⟨rfl, ?_⟩
  unfold b_near
  simp only [q_ecall, sx0, sx1, sx2, sx3, sx4, sx5, sx6, sx7, sx8, sx9, sx10, sx11, sx12, Nat.reduceAdd, Nat.reduceSub, Nat.reduceLT, Nat.reduceEqDiff, st0, endsOf, hc]
  refine ⟨CMul.ok (.inl ⟨by decide, by decide⟩), by omega, p, b, _, rfl, hp, hb, by omega, ?_, fun r b' h1 h2 h3 => ?_⟩
  · have h2 : Sm 2 (2 : Int) := by unfold Sm; decide
    have h3 : Sm 8002 (1 : Int) := Sm.mono (n := 1) (by unfold Sm; decide) (by decide)
    exact ((h2.mul hs).mono (m := 8002) (by decide)).add h3 |>.mono (by decide)
  · simp only [q_ecall, sx0, sx1, sx2, sx3, sx4, sx5, sx6, sx7, sx8, sx9, sx10, sx11, sx12, Nat.reduceAdd, Nat.reduceSub, Nat.reduceLT, Nat.reduceEqDiff, st0, endsOf]
    exact q _ _ (by omega) (by omega) h3
def b_far : List SS := [.asg (.nm 1) (.call "_law_take" [(.var 0), (.bin .Pow (.cst (.int 10)) (.cst (.int 19)))]), .ret (.ife (.cmp .Eq (.call "_law_take" [(.var 0), (.cst (.int 2))]) (.cst (.int 0))) (.var 1) (.bin .Sub (.cst (.int 0)) (.var 1)))]
def spFar (lv k : Nat) : SSp := fun args h R X => lv ≤ k ∧ ∃ (p : Addr) (b : List SV), args = [.ref p] ∧ h p = some (.lst b) ∧ Drawn b ∧ ∀ (r : Int) (b' : List SV), -10000000000000000000 ≤ r → r ≤ 10000000000000000000 → Drawn b' → R (.int r) (h.set p (.lst b'))
theorem far_ok {lc : Nat} (hc : G.call "_law_take" = spTake lc k) (hl : lc < lv) (q : spFar lv (k + 1) args h R X) : args.length = 1 ∧ wpSs G b_far (st0 2 args) h (endsOf R) := by
  obtain ⟨_, p, b, rfl, hp, hb, q⟩ := q
  refine ⟨rfl, ?_⟩
  unfold b_far
  simp only [q_ecall, sx0, sx1, sx2, sx3, sx4, sx5, sx6, sx7, sx8, sx9, sx10, sx11, sx12, Nat.reduceAdd, Nat.reduceSub, Nat.reduceLT, Nat.reduceEqDiff, st0, endsOf, hc]
  refine ⟨⟨by decide, by decide, by decide⟩, by omega, p, b, _, rfl, hp, hb, by decide, Sm.mono (n := 64) (by unfold Sm; decide) (by decide), fun r b' h1 h2 h3 => ?_⟩
  have h2 : r < 10000000000000000000 := h2
  simp only [q_ecall, sx0, sx1, sx2, sx3, sx4, sx5, sx6, sx7, sx8, sx9, sx10, sx11, sx12, Nat.reduceAdd, Nat.reduceSub, Nat.reduceLT, Nat.reduceEqDiff, st0, endsOf, hc]
  refine ⟨by omega, p, b', 2, rfl, SHp.set_same, h3, by decide, Sm.mono (n := 2) (by unfold Sm; decide) (by decide), fun r2 b2 g1 g2 g3 => ?_⟩
  simp only [q_ecall, sx0, sx1, sx2, sx3, sx4, sx5, sx6, sx7, sx8, sx9, sx10, sx11, sx12, Nat.reduceAdd, Nat.reduceSub, Nat.reduceLT, Nat.reduceEqDiff, st0, endsOf]
  exact cond_split (fun _ => q _ _ (by omega) (by omega) g3) fun _ => q _ _ (by omega) (by omega) g3
def b_num : List SS := [.ret (.bool true [(.isi (.var 0) "int"), (.not (.isi (.var 0) "bool"))])]
def spNumI (lv k : Nat) : SSp := fun args h R X => lv ≤ k ∧ ∃ i : Int, args = [.int i] ∧ R (.bl true) h
theorem num_ok (q : spNumI lv k args h R X) : args.length = 1 ∧ wpSs G b_num (st0 1 args) h (endsOf R) := by
  obtain ⟨_, i, rfl, q⟩ := q
  refine ⟨rfl, ?_⟩
  unfold b_num
  simp only [q_ecall, sx0, sx1, sx2, sx3, sx4, sx5, sx6, sx7, sx8, sx9, sx10, sx11, sx12, Nat.reduceAdd, Nat.reduceSub, Nat.reduceLT, Nat.reduceEqDiff, st0, endsOf]
  exact q
def b_part : List SS := [.ife (.bool false [(.not (.isi (.var 0) "tuple")), (.cmp .NotEq (.bi .len [(.var 0)]) (.cst (.int 2))), (.not (.call "_law_num" [(.ix (.var 0) (.cst (.int 0)))])), (.not (.call "_law_num" [(.ix (.var 0) (.cst (.int 1)))]))]) [.ret (.cst (.bl false))] [], .ret (.bool true [(.cmp .Gt (.ix (.var 0) (.cst (.int 1))) (.cst (.int 0))), (.cmp .Eq (.call "_law_common" [(.ix (.var 0) (.cst (.int 0))), (.ix (.var 0) (.cst (.int 1)))]) (.cst (.int 1)))])]
/-- a fraction in lowest terms -/
def Low (a b : Int) : Prop := 0 < b ∧ Int.gcd a b = 1
def spPart (lv k : Nat) : SSp := fun args h R X => lv ≤ k ∧ ∃ a b : Int, args = [.tup [.int a, .int b]] ∧ Low a b ∧ R (.bl true) h
theorem part_ok {lc ln : Nat} (hc : G.call "_law_common" = spCommon lc k) (hn : G.call "_law_num" = spNumI ln k) (hl : lc < lv) (hl2 : ln < lv) (q : spPart lv (k + 1) args h R X) : args.length = 1 ∧ wpSs G b_part (st0 1 args) h (endsOf R) := by
  obtain ⟨_, a, b, rfl, ⟨hb, hg⟩, q⟩ := q
  refine ⟨rfl, ?_⟩
  unfold b_part
  rw [q_cons, q_ife]
  have h2 : (decide (((2 : Nat) : Int) ≠ 2)) = false := by decide
  simp only [q_ecall, sx0, sx1, sx2, sx3, sx4, sx5, sx6, sx7, sx8, sx9, sx10, sx11, sx12, Nat.reduceAdd, Nat.reduceSub, Nat.reduceLT, Nat.reduceEqDiff, st0, endsOf, hc, hn]
  rw [h2, q_condF]
  refine ⟨by omega, a, rfl, ?_⟩
  simp only [q_ecall, sx0, sx1, sx2, sx3, sx4, sx5, sx6, sx7, sx8, sx9, sx10, sx11, sx12, Nat.reduceAdd, Nat.reduceSub, Nat.reduceLT, Nat.reduceEqDiff, st0, endsOf]
  refine ⟨by omega, b, rfl, ?_⟩
  simp only [q_ecall, sx0, sx1, sx2, sx3, sx4, sx5, sx6, sx7, sx8, sx9, sx10, sx11, sx12, Nat.reduceAdd, Nat.reduceSub, Nat.reduceLT, Nat.reduceEqDiff, st0, endsOf, decide_eq_true hb]
  refine ⟨by omega, a, b, rfl, ?_⟩
  simp only [q_ecall, sx0, sx1, sx2, sx3, sx4, sx5, sx6, sx7, sx8, sx9, sx10, sx11, sx12, Nat.reduceAdd, Nat.reduceSub, Nat.reduceLT, Nat.reduceEqDiff, st0, endsOf]
  rw [decide_eq_true (by omega)]
  exact q
theorem Sm.small {n : Nat} {i : Int} (h : i.natAbs < 2 ^ 64) (hn : 64 ≤ n) : Sm n i := Sm.mono (n := 64) h hn
theorem take_go {p : Addr} {b : List SV} {m : Int} (hk : lv ≤ k) (hb : Drawn b) (hm : 0 < m) (hs : m.natAbs < 2 ^ 64) (q : ∀ (r : Int) (b' : List SV), 0 ≤ r → r < m → Drawn b' → R (.int r) (h.set p (.lst b'))) : spTake lv k [.ref p, .int m] (h.set p (.lst b)) R X :=
  ⟨hk, p, b, m, rfl, SHp.set_same, hb, hm, Sm.small hs (by decide), fun r b' h1 h2 h3 => by rw [q_hss]; exact q r b' h1 h2 h3⟩
theorem near_go {p : Addr} {b : List SV} {m : Int} (hk : lv ≤ k) (hb : Drawn b) (hm : 0 ≤ m) (hs : m.natAbs < 2 ^ 64) (q : ∀ (r : Int) (b' : List SV), -m ≤ r → r ≤ m → Drawn b' → R (.int r) (h.set p (.lst b'))) : spNear lv k [.ref p, .int m] (h.set p (.lst b)) R X :=
  ⟨hk, p, b, m, rfl, SHp.set_same, hb, hm, Sm.small hs (by decide), fun r b' h1 h2 h3 => by rw [q_hss]; exact q r b' h1 h2 h3⟩
theorem far_go {p : Addr} {b : List SV} (hk : lv ≤ k) (hb : Drawn b) (q : ∀ (r : Int) (b' : List SV), -10000000000000000000 ≤ r → r ≤ 10000000000000000000 → Drawn b' → R (.int r) (h.set p (.lst b'))) : spFar lv k [.ref p] (h.set p (.lst b)) R X :=
  ⟨hk, p, b, rfl, SHp.set_same, hb, fun r b' h1 h2 h3 => by rw [q_hss]; exact q r b' h1 h2 h3⟩
end
end SL
/-! F3: alike to the last value. -/
namespace SL
open PySem PySem.Spec L2
def okD : Nat → PyData → Prop
  | _, .none => True
  | _, .bool _ => True
  | _, .int _ => True
  | _, .str z => PyData.strOk z = true
  | n + 1, .list xs => xs.length < sizeLine ∧ ∀ x ∈ xs, okD n x
  | n + 1, .tuple xs => xs.length < sizeLine ∧ ∀ x ∈ xs, okD n x
  | _, _ => False
section
variable {G : Gm} {lv k : Nat} {args : List SV} {h : SHp} {R : SV → SHp → Prop} {X : SX → SHp → Prop}
def b_same : List SS := [.ife (.cmp .Is (.var 1) (.cst .non)) [.ret (.cmp .Is (.var 0) (.cst .non))] [], .ife (.bool false [(.isi (.var 1) "list"), (.isi (.var 1) "tuple")]) [.ife (.bool false [(.cmp .NotEq (.isi (.var 0) "list") (.isi (.var 1) "list")), (.cmp .NotEq (.isi (.var 0) "tuple") (.isi (.var 1) "tuple"))]) [.ret (.cst (.bl false))] [], .ret (.bool true [(.cmp .Eq (.bi .len [(.var 0)]) (.bi .len [(.var 1)])), (.bi .all [(.lc [("_law_one", 2), ("_law_other", 3)] (.tup [(.nm 2), (.nm 3)]) (.zip [(.var 0), (.var 1)]) [] (.call "_law_same" [(.var 2), (.var 3)]))])])] [], .ife (.bool false [(.cmp .NotEq (.isi (.var 1) "bool") (.isi (.var 0) "bool")), (.cmp .NotEq (.isi (.var 1) "int") (.isi (.var 0) "int"))]) [.ret (.cst (.bl false))] [], .ret (.bool true [(.cmp .Eq (.isi (.var 0) "str") (.isi (.var 1) "str")), (.cmp .Eq (.var 0) (.var 1))])]
def spSame (lv k : Nat) : SSp := fun args h R X => ∃ (n : Nat) (d : PyData) (x y : SV), lv + n ≤ k ∧ args = [x, y] ∧ pdV [] h x = some d ∧ pdV [] h y = some d ∧ okD n d ∧ x.isOwn = false ∧ y.isOwn = false ∧ R (.bl true) h
/-- a list in the heap, or a frozen one -/
inductive LstIs (h : SHp) : SV → List SV → Prop
  | frz {xs : List SV} : LstIs h (.frz xs) xs
  | lkd {xs : List SV} : LstIs h (.lkd xs) xs
  | ref {p : Addr} {xs : List SV} : h p = some (.lst xs) → LstIs h (.ref p) xs
theorem shp_str {a : Str} (ha : PyData.strOk a = true) : SeqAt.shaped (.str a) = true := by
  simp [SeqAt.shaped, PyData.canLay0, PyData.depth, ha]
theorem eq_str {a b : Str} {δ : SSt} {F : Bool → Prop} (ha : PyData.strOk a = true) (hb : PyData.strOk b = true) (q : F (a == b)) : cmpS .Eq (.str a) (.str b) δ h F := ⟨.str a, .str b, rfl, rfl, shp_str ha, shp_str hb, q⟩
theorem LstIs.vw {x : SV} {xs : List SV} (i : LstIs h x xs) : vw h x = some (false, xs) := by
  cases i with
  | frz => rfl
  | lkd => rfl
  | ref e => simp only [SL.vw, e]
theorem pd_non {x : SV} (e : pdV [] h x = some .none) : x = .non := by
  cases x <;> simp [pdV, view, vw, SV.pd] at e ⊢
  split at e <;> simp [SV.pd] at e
theorem pd_int {x : SV} {i : Int} (e : pdV [] h x = some (.int i)) : x = .int i := by
  cases x <;> simp [pdV, view, vw, SV.pd] at e ⊢
  · exact e
  · split at e <;> simp [SV.pd] at e
theorem pd_bl {x : SV} {i : Bool} (e : pdV [] h x = some (.bool i)) : x = .bl i := by
  cases x <;> simp [pdV, view, vw, SV.pd] at e ⊢
  · exact e
  · split at e <;> simp [SV.pd] at e
theorem pd_str {x : SV} {i : Str} (e : pdV [] h x = some (.str i)) : x = .str i := by
  cases x <;> simp [pdV, view, vw, SV.pd] at e ⊢
  · exact e
  · split at e <;> simp [SV.pd] at e
theorem pd_tup {x : SV} {ds : List PyData} (e : pdV [] h x = some (.tuple ds)) : ∃ xs, x = .tup xs ∧ pds xs = some ds := by
  cases x with
  | ref p =>
    simp only [pdV, view, vw] at e
    cases hp : h p with
    | none => simp [hp, SV.pd] at e
    | some c => cases c <;> simp [hp, SV.pd] at e
  | _ => simp [pdV, view, vw, SV.pd] at e ⊢; try exact e
theorem pd_lst {x : SV} {ds : List PyData} (e : pdV [] h x = some (.list ds)) (n : x.isOwn = false) : ∃ xs, LstIs h x xs ∧ pds xs = some ds := by
  cases x with
  | ref p =>
    simp only [pdV, view, vw] at e
    cases hp : h p with
    | none => simp [hp, SV.pd] at e
    | some c =>
      cases c <;> simp [hp, SV.pd] at e
      exact ⟨_, .ref hp, e⟩
  | frz xs => simp [pdV, view, vw] at e; exact ⟨_, .frz, e⟩
  | lkd xs => simp [pdV, view, vw] at e; exact ⟨_, .lkd, e⟩
  | own xs => cases n
  | _ => simp [pdV, view, vw, SV.pd] at e
theorem pds_cons {x : SV} {xs : List SV} {ds : List PyData} (e : pds (x :: xs) = some ds) : ∃ d r, ds = d :: r ∧ x.pd = some d ∧ pds xs = some r := by
  simp only [pds] at e
  split at e
  · rename_i d r e1 e2
    exact ⟨d, r, (Option.some.inj e).symm, e1, e2⟩
  · cases e
theorem pds_len {xs : List SV} : ∀ {ds : List PyData}, pds xs = some ds → xs.length = ds.length := by
  induction xs with
  | nil => intro ds e; cases e; rfl
  | cons x xs ih =>
    intro ds e
    obtain ⟨d, r, rfl, _, e2⟩ := pds_cons e
    simp [ih e2]
theorem pd_pdV {x : SV} {d : PyData} (e : x.pd = some d) : pdV [] h x = some d ∧ x.isOwn = false ∧ x.plain = true := by
  cases x <;> simp [SV.pd] at e <;> simp [pdV, view, vw, SV.pd, e, SV.isOwn, SV.plain]
  all_goals
    split at e
    · rename_i e1
      have e := Option.some.inj e
      simp [e1, e]
    · cases e
theorem varQ_pd {x : SV} {n : Nat} {F : SV → Prop} (e : x.isOwn = false) : varQ (some (some x)) n F = F x := by
  unfold varQ
  simp only [e]
theorem boxS_pd {x : SV} {δ : SSt} {Q : SV → Option (Option Nat × Addr) → SSt → SHp → Prop} (e : x.plain = true) : boxS x δ h Q = Q x none δ h := by
  cases x <;> first | rfl | cases e
theorem same_zip {R' : List SV → SSt → SHp → Prop} (hc : G.call "_law_same" = spSame lv k) {x y : SV} {gd : Gd} (hg : gd h) {xs ys : List SV} {ds : List PyData} (h1 : pds xs = some ds) (h2 : pds ys = some ds) {n : Nat} (hn : lv + n ≤ k) (hd : ∀ d ∈ ds, okD n d) (hl : ds.length < sizeLine)
    (q : ∀ acc : List SV, asBls acc = some (acc.map fun _ => true) → R' acc [some x, some y, none, none] h) : lcLoop gd [2, 3] (tgS (.tup [.nm 2, .nm 3])) (fun δ h R => wpIf G.nox [] δ h R) (fun δ h R => wpE G.nox (.call "_law_same" [(.var 2), (.var 3)]) δ h R) (zipS xs ys) [] [some x, some y, none, none] h R' := by
  refine lc_rule (fun done todo acc δ h' => h' = h ∧ δ = [some x, some y, none, none] ∧ asBls acc = some (acc.map fun _ => true) ∧ ∃ xs ys ds, todo = zipS xs ys ∧ pds xs = some ds ∧ pds ys = some ds ∧ (∀ d ∈ ds, okD n d) ∧ acc.length + ds.length < sizeLine) ⟨rfl, rfl, rfl, xs, ys, ds, rfl, h1, h2, hd, by simpa using hl⟩ ?_ ?_
  · rintro done z todo acc _ h K ⟨rfl, rfl, ha, xs, ys, ds, e, h1, h2, hd, hl⟩ hK
    cases xs with
    | nil => cases e
    | cons u us =>
      cases ys with
      | nil => cases e
      | cons v vs =>
        simp only [zipS, List.cons.injEq] at e
        obtain ⟨rfl, rfl⟩ := e
        obtain ⟨d, r, rfl, e1, e2⟩ := pds_cons h1
        obtain ⟨d', r', e3, e4, e5⟩ := pds_cons h2
        cases e3
        obtain ⟨u1, u2, u3⟩ := pd_pdV (h := h) e1
        obtain ⟨v1, v2, v3⟩ := pd_pdV (h := h) e4
        have hc' : G.nox.call "_law_same" = spSame lv k := hc
        refine ⟨hg, ?_⟩
        simp only [q_ecall, sx0, sx1, sx2, sx3, sx4, sx5, sx6, sx7, sx8, sx9, sx10, sx11, sx12, Nat.reduceAdd, Nat.reduceSub, Nat.reduceLT, Nat.reduceEqDiff, st0, endsOf, varQ_pd u2, varQ_pd v2, boxS_pd u3, boxS_pd v3, hc']
        refine ⟨n, d, u, v, hn, rfl, u1, v1, hd d List.mem_cons_self, u2, v2, ?_⟩
        simp only [List.length_cons] at hl
        simp only [q_ecall, sx0, sx1, sx2, sx3, sx4, sx5, sx6, sx7, sx8, sx9, sx10, sx11, sx12, Nat.reduceAdd, Nat.reduceSub, Nat.reduceLT, Nat.reduceEqDiff, st0, endsOf]
        refine ⟨by omega, hK _ _ _ ⟨rfl, rfl, ?_, us, vs, r, rfl, e2, e5, fun d hd' => hd d (List.mem_cons_of_mem _ hd'), by simp; omega⟩⟩
        clear hl hK
        induction acc with
        | nil => rfl
        | cons a acc ih =>
          cases a with
          | bl b =>
            simp only [asBls, List.map_cons, Option.map_eq_some_iff, List.cons.injEq] at ha
            obtain ⟨q1, q2, q3, q4⟩ := ha
            subst q3 q4
            simp only [List.cons_append, asBls, ih q2]
            rfl
          | _ => cases ha
  · rintro acc _ _ ⟨rfl, rfl, ha, _⟩
    exact ⟨hg, q acc ha⟩
theorem all_tr {acc : List SV} : ((acc.map fun _ => true) : List Bool).all id = true := by
  induction acc with
  | nil => rfl
  | cons a acc ih => simpa using ih
theorem same_ok (hc : G.call "_law_same" = spSame lv k) (q : spSame lv (k + 1) args h R X) : args.length = 2 ∧ wpSs G b_same (st0 4 args) h (endsOf R) := by
  obtain ⟨n, d, x, y, hk, rfl, e1, e2, ok, nx, ny, q⟩ := q
  refine ⟨rfl, ?_⟩
  unfold b_same
  cases d with
  | none =>
    cases pd_non e1
    cases pd_non e2
    rw [q_cons, q_ife]
    simp only [q_ecall, sx0, sx1, sx2, sx3, sx4, sx5, sx6, sx7, sx8, sx9, sx10, sx11, sx12, Nat.reduceAdd, Nat.reduceSub, Nat.reduceLT, Nat.reduceEqDiff, st0, endsOf]
    exact q
  | bool b =>
    cases pd_bl e1
    cases pd_bl e2
    rw [q_cons, q_ife]
    simp only [q_ecall, sx0, sx1, sx2, sx3, sx4, sx5, sx6, sx7, sx8, sx9, sx10, sx11, sx12, Nat.reduceAdd, Nat.reduceSub, Nat.reduceLT, Nat.reduceEqDiff, st0, endsOf]
    rw [q_ife]
    simp only [q_ecall, sx0, sx1, sx2, sx3, sx4, sx5, sx6, sx7, sx8, sx9, sx10, sx11, sx12, Nat.reduceAdd, Nat.reduceSub, Nat.reduceLT, Nat.reduceEqDiff, st0, endsOf]
    rw [q_ife]
    simp only [q_ecall, sx0, sx1, sx2, sx3, sx4, sx5, sx6, sx7, sx8, sx9, sx10, sx11, sx12, Nat.reduceAdd, Nat.reduceSub, Nat.reduceLT, Nat.reduceEqDiff, st0, endsOf, Bool.not_true, beq_self_eq_true]
    exact q
  | int b =>
    cases pd_int e1
    cases pd_int e2
    rw [q_cons, q_ife]
    simp only [q_ecall, sx0, sx1, sx2, sx3, sx4, sx5, sx6, sx7, sx8, sx9, sx10, sx11, sx12, Nat.reduceAdd, Nat.reduceSub, Nat.reduceLT, Nat.reduceEqDiff, st0, endsOf]
    rw [q_ife]
    simp only [q_ecall, sx0, sx1, sx2, sx3, sx4, sx5, sx6, sx7, sx8, sx9, sx10, sx11, sx12, Nat.reduceAdd, Nat.reduceSub, Nat.reduceLT, Nat.reduceEqDiff, st0, endsOf]
    rw [q_ife]
    simp only [q_ecall, sx0, sx1, sx2, sx3, sx4, sx5, sx6, sx7, sx8, sx9, sx10, sx11, sx12, Nat.reduceAdd, Nat.reduceSub, Nat.reduceLT, Nat.reduceEqDiff, st0, endsOf, Bool.not_true, beq_self_eq_true, decide_true]
    exact q
  | str b =>
    cases pd_str e1
    cases pd_str e2
    rw [q_cons, q_ife]
    simp only [q_ecall, sx0, sx1, sx2, sx3, sx4, sx5, sx6, sx7, sx8, sx9, sx10, sx11, sx12, Nat.reduceAdd, Nat.reduceSub, Nat.reduceLT, Nat.reduceEqDiff, st0, endsOf]
    rw [q_ife]
    simp only [q_ecall, sx0, sx1, sx2, sx3, sx4, sx5, sx6, sx7, sx8, sx9, sx10, sx11, sx12, Nat.reduceAdd, Nat.reduceSub, Nat.reduceLT, Nat.reduceEqDiff, st0, endsOf]
    rw [q_ife]
    simp only [q_ecall, sx0, sx1, sx2, sx3, sx4, sx5, sx6, sx7, sx8, sx9, sx10, sx11, sx12, Nat.reduceAdd, Nat.reduceSub, Nat.reduceLT, Nat.reduceEqDiff, st0, endsOf, Bool.not_true, beq_self_eq_true, decide_true]
    have sb : PyData.strOk b = true := by cases n <;> exact ok
    exact ⟨sb, sb, q⟩
  | tuple ds =>
    cases n with
    | zero => exact ok.elim
    | succ n =>
      obtain ⟨hl, hd⟩ := ok
      obtain ⟨xs, rfl, p1⟩ := pd_tup e1
      obtain ⟨ys, rfl, p2⟩ := pd_tup e2
      have l1 := pds_len p1
      have l2 := pds_len p2
      rw [q_cons, q_ife]
      simp only [q_ecall, sx0, sx1, sx2, sx3, sx4, sx5, sx6, sx7, sx8, sx9, sx10, sx11, sx12, Nat.reduceAdd, Nat.reduceSub, Nat.reduceLT, Nat.reduceEqDiff, st0, endsOf]
      rw [q_ife]
      simp only [q_ecall, sx0, sx1, sx2, sx3, sx4, sx5, sx6, sx7, sx8, sx9, sx10, sx11, sx12, Nat.reduceAdd, Nat.reduceSub, Nat.reduceLT, Nat.reduceEqDiff, st0, endsOf]
      rw [q_ife]
      simp only [q_ecall, sx0, sx1, sx2, sx3, sx4, sx5, sx6, sx7, sx8, sx9, sx10, sx11, sx12, Nat.reduceAdd, Nat.reduceSub, Nat.reduceLT, Nat.reduceEqDiff, st0, endsOf, Bool.not_true, beq_self_eq_true, l1, l2, decide_true]
      rw [q_lc]
      simp only [q_izip, q_ecall, sx0, sx1, sx2, sx3, sx4, sx5, sx6, sx7, sx8, sx9, sx10, sx11, sx12, Nat.reduceAdd, Nat.reduceSub, Nat.reduceLT, Nat.reduceEqDiff, st0, endsOf]
      refine zip_go rfl rfl ?_
      refine same_zip hc ⟨rfl, rfl⟩ p1 p2 (show lv + n ≤ k by omega) hd hl fun acc ha => ?_
      refine ⟨_, _, _, rfl, rfl, ha, ?_⟩
      rw [all_tr]
      exact q
  | list ds =>
    cases n with
    | zero => exact ok.elim
    | succ n =>
      obtain ⟨hl, hd⟩ := ok
      obtain ⟨xs, i1, p1⟩ := pd_lst e1 nx
      obtain ⟨ys, i2, p2⟩ := pd_lst e2 ny
      have l1 := pds_len p1
      have l2 := pds_len p2
      have go : ∀ {x y : SV}, LstIs h x xs → LstIs h y ys → wpSs G b_same (st0 4 [x, y]) h (endsOf R) := by
        intro x y i1 i2
        unfold b_same
        have j1 := i1
        have j2 := i2
        cases i1 <;> cases i2
        all_goals
          rw [q_cons, q_ife]
          simp only [q_ecall, sx0, sx1, sx2, sx3, sx4, sx5, sx6, sx7, sx8, sx9, sx10, sx11, sx12, Nat.reduceAdd, Nat.reduceSub, Nat.reduceLT, Nat.reduceEqDiff, st0, endsOf, *]
          rw [q_ife]
          simp only [q_ecall, sx0, sx1, sx2, sx3, sx4, sx5, sx6, sx7, sx8, sx9, sx10, sx11, sx12, Nat.reduceAdd, Nat.reduceSub, Nat.reduceLT, Nat.reduceEqDiff, st0, endsOf, *]
          rw [q_ife]
          simp only [q_ecall, sx0, sx1, sx2, sx3, sx4, sx5, sx6, sx7, sx8, sx9, sx10, sx11, sx12, Nat.reduceAdd, Nat.reduceSub, Nat.reduceLT, Nat.reduceEqDiff, st0, endsOf, *, Bool.not_true, beq_self_eq_true, decide_true]
          rw [q_lc]
          simp only [q_izip, q_ecall, sx0, sx1, sx2, sx3, sx4, sx5, sx6, sx7, sx8, sx9, sx10, sx11, sx12, Nat.reduceAdd, Nat.reduceSub, Nat.reduceLT, Nat.reduceEqDiff, st0, endsOf, *]
          refine zip_go (kk := false) (k3 := false) (xs := xs) (ys := ys) j1.vw j2.vw ?_
          refine same_zip hc ⟨j1.vw, j2.vw⟩ p1 p2 (show lv + n ≤ k by omega) hd hl fun acc ha => ?_
          refine ⟨_, _, _, rfl, rfl, ha, ?_⟩
          rw [all_tr]
          exact q
      exact go i1 i2
  | dict ds => cases n <;> exact ok.elim
theorem ne_of_none {H : SHp} {p1 p2 : Addr} {c1 : Cell} (h2 : (H.set p1 c1) p2 = none) : p1 ≠ p2 := fun z => by subst z; rw [SHp.set_same] at h2; cases h2
theorem del2 {H : SHp} {p1 p2 : Addr} {c1 c2 : Cell} (h1 : H p1 = none) (h2 : (H.set p1 c1) p2 = none) : (((H.set p1 c1).set p2 c2).del p1).del p2 = H := by
  have ne := ne_of_none h2
  have h3 : H p2 = none := by rwa [SHp.set_ne ne.symm] at h2
  funext x
  by_cases e2 : x = p2
  · subst e2; rw [SHp.del_same, h3]
  · rw [SHp.del_ne e2]
    by_cases e1 : x = p1
    · subst e1; rw [SHp.del_same, h1]
    · rw [SHp.del_ne e1, SHp.set_ne e2, SHp.set_ne e1]
theorem same_refs {n : Nat} {p1 p2 : Addr} {xs ys : List SV} {ds : List PyData} (hn : lv + n ≤ k) (np : (h.set p1 (.lst xs)) p2 = none) (h1 : pds xs = some ds) (h2 : pds ys = some ds) (ok : okD n (.list ds)) (q : R (.bl true) ((h.set p1 (.lst xs)).set p2 (.lst ys))) : spSame lv k [.ref p1, .ref p2] ((h.set p1 (.lst xs)).set p2 (.lst ys)) R X := by
  have ne : p1 ≠ p2 := fun e => by subst e; rw [SHp.set_same] at np; cases np
  refine ⟨n, .list ds, _, _, hn, rfl, ?_, ?_, ok, rfl, rfl, q⟩
  · simp [pdV, view, vw, SHp.set_ne ne, SHp.set_same, h1]
  · simp [pdV, view, vw, SHp.set_same, h2]
end
end SL
/-! F4: fractions. -/
namespace SL
open PySem PySem.Spec L2
/-- the pair of a fraction in lowest terms -/
def frac (r : Rat) : SV := .tup [.int r.num, .int (r.den : Int)]
def pair (a b : Int) : SV := .tup [.int a, .int b]
theorem frac_of {a b : Int} (hb : 0 < b) : SV.tup [.int (a / Int.gcd a b), .int (b / Int.gcd a b)] = frac (Rat.divInt a b) := by
  unfold frac
  rw [Rat.num_divInt, Rat.den_divInt, if_neg (by omega), Int.sign_eq_one_of_pos hb, Int.one_mul, Int.gcd_comm b a]
  have e : (b.natAbs : Int) = b := by omega
  rw [Int.natCast_ediv, e]
/-- a fraction of small numbers -/
def SmR (n : Nat) (r : Rat) : Prop := Sm n r.num ∧ Sm n (r.den : Int)
theorem SmR.mono {n m : Nat} {r : Rat} (h : SmR n r) (hm : n ≤ m) : SmR m r := ⟨h.1.mono hm, h.2.mono hm⟩
theorem SmR.of {n : Nat} {a b : Int} (hb : 0 < b) (h1 : Sm n a) (h2 : Sm n b) : SmR n (Rat.divInt a b) := by
  constructor
  · rw [Rat.num_divInt, Int.sign_eq_one_of_pos hb, Int.one_mul]
    exact h1.div
  · rw [Rat.den_divInt, if_neg (by omega)]
    have e : (b.natAbs : Int) = b := by omega
    rw [Int.natCast_ediv, e]
    exact h2.div
theorem den_pos (r : Rat) : (0 : Int) < (r.den : Int) := by
  have := r.den_pos
  omega
theorem rat_self (r : Rat) : Rat.divInt r.num (r.den : Int) = r := Rat.num_divInt_den r
section
variable {G : Gm} {lv k : Nat} {args : List SV} {h : SHp} {R : SV → SHp → Prop} {X : SX → SHp → Prop}
def spLow (lv k : Nat) : SSp := fun args h R X => lv ≤ k ∧ ∃ a b : Int, args = [.int a, .int b] ∧ 0 < b ∧ Sm 9000 b ∧ R (frac (Rat.divInt a b)) h
theorem low_ok {lc : Nat} (hc : G.call "common" = spCommon lc k) (hl : lc < lv) (q : spLow lv (k + 1) args h R X) : args.length = 2 ∧ wpSs G b_lowest (st0 3 args) h (endsOf R) := by
  obtain ⟨h0, a, b, rfl, hb, hs, q⟩ := q
  exact lowest_ok (X := X) hc hl ⟨h0, a, b, rfl, hb, hs, by rw [frac_of hb]; exact q⟩
def b_llow : List SS := [.asg (.nm 2) (.call "_law_common" [(.var 0), (.var 1)]), .ret (.tup [(.bin .FloorDiv (.var 0) (.var 2)), (.bin .FloorDiv (.var 1) (.var 2))])]
theorem llow_ok {lc : Nat} (hc : G.call "_law_common" = spCommon lc k) (hl : lc < lv) (q : spLow lv (k + 1) args h R X) : args.length = 2 ∧ wpSs G b_llow (st0 3 args) h (endsOf R) := by
  obtain ⟨h0, a, b, rfl, hb, hs, q⟩ := q
  refine ⟨rfl, ?_⟩
  unfold b_llow
  simp only [q_ecall, sx0, sx1, sx2, sx3, sx4, sx5, sx6, sx7, sx8, sx9, sx10, sx11, sx12, Nat.reduceAdd, Nat.reduceSub, Nat.reduceLT, Nat.reduceEqDiff, st0, endsOf, hc]
  refine ⟨by omega, a, b, rfl, ?_⟩
  have hg : 0 < (Int.gcd a b : Int) := by
    have := Int.gcd_pos_of_ne_zero_right a (show b ≠ 0 by omega)
    omega
  have hg2 : Sm 9000 (Int.gcd a b : Int) := hs.of_abs (by
    have := Int.le_of_dvd hb (Int.gcd_dvd_right a b)
    omega)
  simp only [q_ecall, sx0, sx1, sx2, sx3, sx4, sx5, sx6, sx7, sx8, sx9, sx10, sx11, sx12, Nat.reduceAdd, Nat.reduceSub, Nat.reduceLT, Nat.reduceEqDiff, st0, endsOf]
  exact ⟨hg2.divOk (by decide) hg, hg2.divOk (by decide) hg, by rw [frac_of hb]; exact q⟩
/-- two fractions of small numbers, a reckoning with them -/
def spFr2 (f : Rat → Rat → Rat) (lv k : Nat) : SSp := fun args h R X => lv ≤ k ∧ ∃ a b c d : Int, args = [pair a b, pair c d] ∧ 0 < b ∧ 0 < d ∧ Sm 4000 a ∧ Sm 4000 b ∧ Sm 4000 c ∧ Sm 4000 d ∧ R (frac (f (Rat.divInt a b) (Rat.divInt c d))) h
def b_plus : List SS := [.ret (.call "lowest" [(.bin .Add (.bin .Mult (.ix (.var 0) (.cst (.int 0))) (.ix (.var 1) (.cst (.int 1)))) (.bin .Mult (.ix (.var 1) (.cst (.int 0))) (.ix (.var 0) (.cst (.int 1))))), (.bin .Mult (.ix (.var 0) (.cst (.int 1))) (.ix (.var 1) (.cst (.int 1))))])]
def b_minus : List SS := [.ret (.call "lowest" [(.bin .Sub (.bin .Mult (.ix (.var 0) (.cst (.int 0))) (.ix (.var 1) (.cst (.int 1)))) (.bin .Mult (.ix (.var 1) (.cst (.int 0))) (.ix (.var 0) (.cst (.int 1))))), (.bin .Mult (.ix (.var 0) (.cst (.int 1))) (.ix (.var 1) (.cst (.int 1))))])]
def b_times : List SS := [.ret (.call "lowest" [(.bin .Mult (.ix (.var 0) (.cst (.int 0))) (.ix (.var 1) (.cst (.int 0)))), (.bin .Mult (.ix (.var 0) (.cst (.int 1))) (.ix (.var 1) (.cst (.int 1))))])]
def b_lsum : List SS := [.ret (.call "_law_low" [(.bin .Add (.bin .Mult (.ix (.var 0) (.cst (.int 0))) (.ix (.var 1) (.cst (.int 1)))) (.bin .Mult (.ix (.var 1) (.cst (.int 0))) (.ix (.var 0) (.cst (.int 1))))), (.bin .Mult (.ix (.var 0) (.cst (.int 1))) (.ix (.var 1) (.cst (.int 1))))])]
theorem plus_ok {lc : Nat} (hc : G.call "lowest" = spLow lc k) (hl : lc < lv) (q : spFr2 (· + ·) lv (k + 1) args h R X) : args.length = 2 ∧ wpSs G b_plus (st0 2 args) h (endsOf R) := by
  obtain ⟨h0, a, b, c, d, rfl, hb, hd, s1, s2, s3, s4, q⟩ := q
  refine ⟨rfl, ?_⟩
  unfold b_plus pair
  simp only [q_ecall, sx0, sx1, sx2, sx3, sx4, sx5, sx6, sx7, sx8, sx9, sx10, sx11, sx12, Nat.reduceAdd, Nat.reduceSub, Nat.reduceLT, Nat.reduceEqDiff, st0, endsOf, hc]
  refine ⟨s1.mulOk s4 (by decide), s3.mulOk s2 (by decide), s2.mulOk s4 (by decide), by omega, _, _, rfl, Int.mul_pos hb hd, (s2.mul s4).mono (by decide), ?_⟩
  have q : R (frac (Rat.divInt a b + Rat.divInt c d)) h := q
  rw [Rat.divInt_add_divInt _ _ (by omega) (by omega)] at q
  exact q
theorem lsum_ok {lc : Nat} (hc : G.call "_law_low" = spLow lc k) (hl : lc < lv) (q : spFr2 (· + ·) lv (k + 1) args h R X) : args.length = 2 ∧ wpSs G b_lsum (st0 2 args) h (endsOf R) := by
  obtain ⟨h0, a, b, c, d, rfl, hb, hd, s1, s2, s3, s4, q⟩ := q
  refine ⟨rfl, ?_⟩
  unfold b_lsum pair
  simp only [q_ecall, sx0, sx1, sx2, sx3, sx4, sx5, sx6, sx7, sx8, sx9, sx10, sx11, sx12, Nat.reduceAdd, Nat.reduceSub, Nat.reduceLT, Nat.reduceEqDiff, st0, endsOf, hc]
  refine ⟨s1.mulOk s4 (by decide), s3.mulOk s2 (by decide), s2.mulOk s4 (by decide), by omega, _, _, rfl, Int.mul_pos hb hd, (s2.mul s4).mono (by decide), ?_⟩
  have q : R (frac (Rat.divInt a b + Rat.divInt c d)) h := q
  rw [Rat.divInt_add_divInt _ _ (by omega) (by omega)] at q
  exact q
theorem minus_ok {lc : Nat} (hc : G.call "lowest" = spLow lc k) (hl : lc < lv) (q : spFr2 (· - ·) lv (k + 1) args h R X) : args.length = 2 ∧ wpSs G b_minus (st0 2 args) h (endsOf R) := by
  obtain ⟨h0, a, b, c, d, rfl, hb, hd, s1, s2, s3, s4, q⟩ := q
  refine ⟨rfl, ?_⟩
  unfold b_minus pair
  simp only [q_ecall, sx0, sx1, sx2, sx3, sx4, sx5, sx6, sx7, sx8, sx9, sx10, sx11, sx12, Nat.reduceAdd, Nat.reduceSub, Nat.reduceLT, Nat.reduceEqDiff, st0, endsOf, hc]
  refine ⟨s1.mulOk s4 (by decide), s3.mulOk s2 (by decide), s2.mulOk s4 (by decide), by omega, _, _, rfl, Int.mul_pos hb hd, (s2.mul s4).mono (by decide), ?_⟩
  have q : R (frac (Rat.divInt a b - Rat.divInt c d)) h := q
  rw [Rat.divInt_sub_divInt _ _ (by omega) (by omega)] at q
  exact q
theorem times_ok {lc : Nat} (hc : G.call "lowest" = spLow lc k) (hl : lc < lv) (q : spFr2 (· * ·) lv (k + 1) args h R X) : args.length = 2 ∧ wpSs G b_times (st0 2 args) h (endsOf R) := by
  obtain ⟨h0, a, b, c, d, rfl, hb, hd, s1, s2, s3, s4, q⟩ := q
  refine ⟨rfl, ?_⟩
  unfold b_times pair
  simp only [q_ecall, sx0, sx1, sx2, sx3, sx4, sx5, sx6, sx7, sx8, sx9, sx10, sx11, sx12, Nat.reduceAdd, Nat.reduceSub, Nat.reduceLT, Nat.reduceEqDiff, st0, endsOf, hc]
  refine ⟨s1.mulOk s3 (by decide), s2.mulOk s4 (by decide), by omega, _, _, rfl, Int.mul_pos hb hd, (s2.mul s4).mono (by decide), ?_⟩
  have q : R (frac (Rat.divInt a b * Rat.divInt c d)) h := q
  rw [Rat.divInt_mul_divInt] at q
  exact q
def b_lpart : List SS := [.asg (.nm 2) (.call "_law_near" [(.var 0), (.var 1)]), .asg (.nm 3) (.ix (.lst [(.cst (.int 1)), (.cst (.int 1)), (.cst (.int 2)), (.bin .Add (.cst (.int 1)) (.call "_law_take" [(.var 0), (.cst (.int 6))]))]) (.call "_law_take" [(.var 0), (.cst (.int 4))])), .ret (.call "_law_low" [(.var 2), (.var 3)])]
/-- a drawn fraction -/
def spDrawnPart (lv k : Nat) : SSp := fun args h R X => lv ≤ k ∧ ∃ (p : Addr) (b : List SV) (far : Int), args = [.ref p, .int far] ∧ h p = some (.lst b) ∧ Drawn b ∧ 0 ≤ far ∧ far < 2 ^ 60 ∧ ∀ (r : Rat) (b' : List SV), SmR 64 r → Drawn b' → R (frac r) (h.set p (.lst b'))
theorem lpart_ok {l1 l2 l3 : Nat} (c1 : G.call "_law_near" = spNear l1 k) (c2 : G.call "_law_take" = spTake l2 k) (c3 : G.call "_law_low" = spLow l3 k) (hl1 : l1 < lv) (hl2 : l2 < lv) (hl3 : l3 < lv) (q : spDrawnPart lv (k + 1) args h R X) : args.length = 2 ∧ wpSs G b_lpart (st0 4 args) h (endsOf R) := by
  obtain ⟨h0, p, b, far, rfl, hp, hb, f0, f1, q⟩ := q
  refine ⟨rfl, ?_⟩
  unfold b_lpart
  simp only [q_ecall, sx0, sx1, sx2, sx3, sx4, sx5, sx6, sx7, sx8, sx9, sx10, sx11, sx12, Nat.reduceAdd, Nat.reduceSub, Nat.reduceLT, Nat.reduceEqDiff, st0, endsOf, c1]
  rw [← set_id hp]
  refine near_go (by omega) hb f0 (by omega) fun n b1 n1 n2 hb1 => ?_
  simp only [q_ecall, sx0, sx1, sx2, sx3, sx4, sx5, sx6, sx7, sx8, sx9, sx10, sx11, sx12, Nat.reduceAdd, Nat.reduceSub, Nat.reduceLT, Nat.reduceEqDiff, st0, endsOf, c2]
  refine take_go (by omega) hb1 (by decide) (by decide) fun r1 b2 g1 g2 hb2 => ?_
  simp only [q_ecall, sx0, sx1, sx2, sx3, sx4, sx5, sx6, sx7, sx8, sx9, sx10, sx11, sx12, Nat.reduceAdd, Nat.reduceSub, Nat.reduceLT, Nat.reduceEqDiff, st0, endsOf, c2]
  refine take_go (by omega) hb2 (by decide) (by decide) fun r2 b3 g3 g4 hb3 => ?_
  simp only [q_ecall, sx0, sx1, sx2, sx3, sx4, sx5, sx6, sx7, sx8, sx9, sx10, sx11, sx12, Nat.reduceAdd, Nat.reduceSub, Nat.reduceLT, Nat.reduceEqDiff, st0, endsOf]
  obtain ⟨d, ed, hd1, hd2⟩ : ∃ d : Int, atI [SV.int 1, .int 1, .int 2, .int (1 + r1)] r2 = some (.int d) ∧ 0 < d ∧ d ≤ 7 := by
    have : r2 = 0 ∨ r2 = 1 ∨ r2 = 2 ∨ r2 = 3 := by omega
    rcases this with rfl | rfl | rfl | rfl
    · exact ⟨1, rfl, by omega, by omega⟩
    · exact ⟨1, rfl, by omega, by omega⟩
    · exact ⟨2, rfl, by omega, by omega⟩
    · exact ⟨_, rfl, by omega, by omega⟩
  simp only [q_ecall, sx0, sx1, sx2, sx3, sx4, sx5, sx6, sx7, sx8, sx9, sx10, sx11, sx12, Nat.reduceAdd, Nat.reduceSub, Nat.reduceLT, Nat.reduceEqDiff, st0, endsOf, ed, c3]
  refine ⟨by omega, _, _, rfl, hd1, Sm.small (by omega) (by decide), ?_⟩
  simp only [frac, q_ecall, sx0, sx1, sx2, sx3, sx4, sx5, sx6, sx7, sx8, sx9, sx10, sx11, sx12, Nat.reduceAdd, Nat.reduceSub, Nat.reduceLT, Nat.reduceEqDiff, st0, endsOf]
  exact q _ _ (SmR.of hd1 (Sm.small (by omega) (by decide)) (Sm.small (by omega) (by decide))) hb3
end
end SL
/-! F5: more of fractions. -/
namespace SL
open PySem PySem.Spec L2
section
variable {G : Gm} {lv k : Nat} {args : List SV} {h : SHp} {R : SV → SHp → Prop} {X : SX → SHp → Prop}
/-- a reckoning with fractions that are small -/
theorem fr2_go {f : Rat → Rat → Rat} {a b : Rat} (hk : lv ≤ k) (ha : SmR 4000 a) (hb : SmR 4000 b) (q : R (frac (f a b)) h) : spFr2 f lv k [frac a, frac b] h R X :=
  ⟨hk, a.num, a.den, b.num, b.den, rfl, den_pos a, den_pos b, ha.1, ha.2, hb.1, hb.2, by rw [rat_self, rat_self]; exact q⟩
theorem SmR.plus {n : Nat} {a b : Rat} (ha : SmR n a) (hb : SmR n b) : SmR (n + n + 1) (a + b) := by
  have e : a + b = Rat.divInt (a.num * b.den + b.num * a.den) (a.den * b.den) := by
    rw [← Rat.divInt_add_divInt _ _ (by have := den_pos a; omega) (by have := den_pos b; omega), rat_self, rat_self]
  rw [e]
  exact SmR.of (Int.mul_pos (den_pos a) (den_pos b)) ((ha.1.mul hb.2).add (hb.1.mul ha.2)) ((ha.2.mul hb.2).mono (by omega))
theorem SmR.times {n : Nat} {a b : Rat} (ha : SmR n a) (hb : SmR n b) : SmR (n + n) (a * b) := by
  have e : a * b = Rat.divInt (a.num * b.num) (a.den * b.den) := by
    rw [← Rat.divInt_mul_divInt, rat_self, rat_self]
  rw [e]
  exact SmR.of (Int.mul_pos (den_pos a) (den_pos b)) (ha.1.mul hb.1) (ha.2.mul hb.2)
theorem SmR.neg {n : Nat} {a : Rat} (ha : SmR n a) : SmR n (-a) := ⟨by rw [Rat.neg_num]; exact ha.1.neg, ha.2⟩
theorem SmR.minus {n : Nat} {a b : Rat} (ha : SmR n a) (hb : SmR n b) : SmR (n + n + 1) (a - b) := by
  rw [Rat.sub_eq_add_neg]; exact ha.plus hb.neg
/-- fractions by their numbers -/
theorem frac_ne {a b : Rat} {δ : SSt} {F : Bool → Prop} (q : F (decide (a ≠ b))) : cmpS .NotEq (frac a) (frac b) δ h F := by
  refine ⟨.tuple [.int a.num, .int a.den], .tuple [.int b.num, .int b.den], rfl, rfl, rfl, rfl, ?_⟩
  have e : (!PyData.eqv (.tuple [.int a.num, .int a.den]) (.tuple [.int b.num, .int b.den])) = decide (a ≠ b) := by
    by_cases e : a = b
    · subst e
      simp [PyData.eqv, PyData.eqvAll]
    · have n : ¬ (a.num = b.num ∧ a.den = b.den) := fun z => e (Rat.ext z.1 z.2)
      simp only [PyData.eqv, PyData.eqvAll, ne_eq, e, not_false_eq_true, decide_true, Bool.not_eq_true']
      cases h1 : (a.num == b.num) with
      | false => simp [h1]
      | true =>
        cases h2 : ((a.den : Int) == (b.den : Int)) with
        | false => simp [h1, h2]
        | true =>
          exfalso
          exact n ⟨by simpa using h1, by have := beq_iff_eq.mp h2; omega⟩
  rw [e]
  exact q
theorem frac_ne_eq {a b : Rat} {δ : SSt} {F : Bool → Prop} (e : a = b) (q : F false) : cmpS .NotEq (frac a) (frac b) δ h F := frac_ne (by rw [decide_eq_false (by simp [e])]; exact q)
theorem less_go {a b : Rat} (hk : lv ≤ k) (ha : SmR 4000 a) (hb : SmR 4000 b) (q : R (.bl (decide (a < b))) h) : spLess lv k [frac a, frac b] h R X := by
  refine ⟨hk, a.num, a.den, b.num, b.den, rfl, ha.1.mono (by decide), ha.2.mono (by decide), hb.1.mono (by decide), hb.2.mono (by decide), ?_⟩
  have e : decide (a.num * b.den < b.num * a.den) = decide (a < b) := by
    rw [decide_eq_decide]
    exact (Rat.lt_iff a b).symm
  rw [e]
  exact q
end
end SL
/-! F6: comprehensions that draw; rows in plain form. -/
namespace SL
open PySem PySem.Spec L2
/-- a comprehension whose turns draw, and nothing else -/
theorem lc_box {gd : Gd} {vs : List Nat} {tg : SV → SSt → SHp → (SSt → SHp → Prop) → Prop} {test : SSt → SHp → (Bool → SSt → SHp → Prop) → Prop} {elt : SSt → SHp → Post → Prop} {Q : List SV → SSt → SHp → Prop} {items : List SV} {δ : SSt} {h : SHp} {p : Addr} {b : List SV}
    (P : SV → Prop) (hb : Drawn b) (hz : items.length ≤ sizeLine) (hg : ∀ b, gd (h.set p (.lst b)))
    (step : ∀ x ∈ items, ∀ b, Drawn b → ∀ acc (K : List SV → SSt → SHp → Prop), acc.length < sizeLine → (∀ e b', P e → Drawn b' → K (acc ++ [e]) δ (h.set p (.lst b'))) → tg x δ (h.set p (.lst b)) fun δ1 h1 => test δ1 h1 fun c δ2 h2 => match c with
      | true => elt δ2 h2 fun d δ3 h3 => stow d δ3 h3 fun e δ4 h4 => acc.length < sizeLine ∧ K (acc ++ [e]) (wipeS δ4 vs) h4
      | false => K acc (wipeS δ2 vs) h2)
    (fin : ∀ acc b', acc.length = items.length → (∀ e ∈ acc, P e) → Drawn b' → Q acc δ (h.set p (.lst b'))) : lcLoop gd vs tg test elt items [] δ (h.set p (.lst b)) Q := by
  refine lc_rule (fun done todo acc δ' h' => ∃ b, Drawn b ∧ δ' = δ ∧ h' = h.set p (.lst b) ∧ done ++ todo = items ∧ acc.length = done.length ∧ ∀ e ∈ acc, P e) ⟨b, hb, rfl, rfl, rfl, rfl, fun e he => by cases he⟩ ?_ ?_
  · rintro done x todo acc _ _ K ⟨b, hb, rfl, rfl, e, hl, ha⟩ hK
    have hlen : done.length + todo.length + 1 = items.length := by rw [← e]; simp; omega
    refine ⟨hg b, step x (by rw [← e]; simp) b hb acc K (by omega) fun e' b' pe hb' => hK _ _ _ ⟨b', hb', rfl, rfl, by rw [← e]; simp, by simp [hl], fun z hz => ?_⟩⟩
    rcases List.mem_append.mp hz with hz | hz
    · exact ha z hz
    · rw [List.mem_singleton] at hz
      rw [hz]
      exact pe
  · rintro acc _ _ ⟨b', hb', rfl, rfl, _, hl, ha⟩
    exact ⟨hg b', fin acc b' hl ha hb'⟩
/-- a comprehension that computes, and nothing else -/
theorem lc_map {gd : Gd} {vs : List Nat} {tg : SV → SSt → SHp → (SSt → SHp → Prop) → Prop} {test : SSt → SHp → (Bool → SSt → SHp → Prop) → Prop} {elt : SSt → SHp → Post → Prop} {Q : List SV → SSt → SHp → Prop} {items : List SV} {δ : SSt} {h : SHp}
    (f : SV → SV) (hz : items.length ≤ sizeLine) (hg : gd h)
    (step : ∀ x ∈ items, ∀ acc (K : List SV → SSt → SHp → Prop), acc.length < sizeLine → K (acc ++ [f x]) δ h → tg x δ h fun δ1 h1 => test δ1 h1 fun c δ2 h2 => match c with
      | true => elt δ2 h2 fun d δ3 h3 => stow d δ3 h3 fun e δ4 h4 => acc.length < sizeLine ∧ K (acc ++ [e]) (wipeS δ4 vs) h4
      | false => K acc (wipeS δ2 vs) h2)
    (fin : Q (items.map f) δ h) : lcLoop gd vs tg test elt items [] δ h Q := by
  refine lc_rule (fun done todo acc δ' h' => δ' = δ ∧ h' = h ∧ done ++ todo = items ∧ acc = done.map f) ⟨rfl, rfl, rfl, rfl⟩ ?_ ?_
  · rintro done x todo acc _ _ K ⟨rfl, rfl, e, rfl⟩ hK
    have hlen : done.length + todo.length + 1 = items.length := by rw [← e]; simp; omega
    exact ⟨hg, step x (by rw [← e]; simp) _ K (by rw [List.length_map]; omega) (hK _ _ _ ⟨rfl, rfl, by rw [← e]; simp, by simp⟩)⟩
  · rintro acc _ _ ⟨rfl, rfl, _, rfl⟩
    exact ⟨hg, fin⟩
theorem st_rule {G : Gm} {s : SS} {δ : SSt} {h : SHp} {N B C : SSt → SHp → Prop} {Rt : SV → SHp → Prop} (I : SSt → SHp → Prop) (h1 : ∀ K : SSt → SHp → Prop, (∀ δ h, I δ h → K δ h) → wpS G s δ h { nx := K, rt := Rt, bk := B, ct := C }) (h2 : ∀ δ h, I δ h → N δ h) : wpS G s δ h { nx := N, rt := Rt, bk := B, ct := C } := h1 N h2
/-! ### values of unknown kind -/
theorem stow_pd {x : SV} {δ : SSt} {h : SHp} {Q : Post} (e : x.plain = true) : stow x δ h Q = Q x δ h := by
  cases x <;> first | rfl | cases e
theorem opd_pd {x : SV} (e : x.plain = true) : x.opd = x := by
  cases x <;> first | rfl | cases e
theorem view_pd {x : SV} {δ : SSt} {h : SHp} (e : x.plain = true) : view δ h x = vw h x := by
  cases x <;> first | rfl | cases e
theorem plain_isOwn {x : SV} (e : x.plain = true) : x.isOwn = false := by
  cases x <;> first | rfl | cases e
/-! ### rows -/
def intsV (ns : List Int) : List SV := ns.map SV.int
def rowS (ns : List Int) (b : Int) : SV := .tup [.tup (intsV ns), .int b]
def gcdL (ns : List Int) (g : Nat) : Nat := ns.foldl (fun g n => Int.gcd g n) g
theorem gcdL_one : ∀ ns : List Int, gcdL ns 1 = 1
  | [] => rfl
  | n :: ns => by
    have e : Int.gcd ((1 : Nat) : Int) n = 1 := Int.one_gcd
    simp only [gcdL, List.foldl_cons, e]
    exact gcdL_one ns
theorem gcdL_cons {n : Int} {ns : List Int} {g : Nat} : gcdL (n :: ns) g = gcdL ns (Int.gcd g n) := rfl
theorem gcdL_dvd : ∀ {ns : List Int} {g : Nat}, gcdL ns g ∣ g ∧ ∀ n ∈ ns, ((gcdL ns g : Nat) : Int) ∣ n
  | [], g => ⟨Nat.dvd_refl g, fun n hn => by cases hn⟩
  | n :: ns, g => by
    obtain ⟨h1, h2⟩ := gcdL_dvd (ns := ns) (g := Int.gcd g n)
    rw [gcdL_cons]
    refine ⟨Nat.dvd_trans h1 ?_, fun m hm => ?_⟩
    · have := Int.gcd_dvd_left (g : Int) n
      exact Int.natCast_dvd_natCast.mp this
    · rcases List.mem_cons.mp hm with rfl | hm
      · exact Int.dvd_trans (Int.natCast_dvd_natCast.mpr h1) (Int.gcd_dvd_right (g : Int) m)
      · exact h2 m hm
theorem gcdL_zero : ∀ {ns : List Int} {g : Nat}, gcdL ns g = 0 → g = 0 ∧ ∀ n ∈ ns, n = 0
  | [], g, h => ⟨h, fun n hn => by cases hn⟩
  | n :: ns, g, h => by
    rw [gcdL_cons] at h
    obtain ⟨h1, h2⟩ := gcdL_zero h
    have := Int.gcd_eq_zero_iff.mp h1
    refine ⟨by omega, fun m hm => ?_⟩
    rcases List.mem_cons.mp hm with rfl | hm
    · exact this.2
    · exact h2 m hm
theorem gcdL_div {d : Nat} (hd : 0 < d) : ∀ {ns : List Int} {g : Nat}, d ∣ g → (∀ n ∈ ns, (d : Int) ∣ n) → gcdL (ns.map (· / (d : Int))) (g / d) = gcdL ns g / d
  | [], g, _, _ => rfl
  | n :: ns, g, h1, h2 => by
    have hn := h2 n List.mem_cons_self
    have e : Int.gcd ((g / d : Nat) : Int) (n / (d : Int)) = Int.gcd g n / d := by
      have := Int.gcd_ediv (a := (g : Int)) (b := n) (c := (d : Int)) (Int.natCast_dvd_natCast.mpr h1) hn
      simpa using this
    rw [List.map_cons, gcdL_cons, gcdL_cons, e]
    refine gcdL_div hd ?_ fun m hm => h2 m (List.mem_cons_of_mem _ hm)
    have : (d : Int) ∣ ((Int.gcd (g : Int) n : Nat) : Int) := Int.dvd_coe_gcd (Int.natCast_dvd_natCast.mpr h1) hn
    exact Int.natCast_dvd_natCast.mp this
/-- the plain form: by the greatest common divisor -/
def byOf (ns : List Int) (b : Int) : Nat := gcdL ns b.natAbs
def plainW (ns : List Int) (b : Int) : List Int := ns.map (· / (byOf ns b : Int))
def plainB (ns : List Int) (b : Int) : Int := b / (byOf ns b : Int)
theorem byOf_zero {ns : List Int} {b : Int} (e : byOf ns b = 0) : plainW ns b = ns ∧ plainB ns b = b := by
  obtain ⟨h1, h2⟩ := gcdL_zero e
  unfold plainW plainB
  rw [e]
  refine ⟨?_, by simp; omega⟩
  have : ∀ n ∈ ns, n / ((0 : Nat) : Int) = n := fun n hn => by rw [h2 n hn]; rfl
  exact (List.map_congr_left this).trans (List.map_id' ns)
theorem byOf_plain {ns : List Int} {b : Int} (e : byOf ns b ≠ 0) : byOf (plainW ns b) (plainB ns b) = 1 := by
  have hd : 0 < byOf ns b := Nat.pos_of_ne_zero e
  have hh := gcdL_dvd (ns := ns) (g := b.natAbs)
  have h1 : byOf ns b ∣ b.natAbs := hh.1
  have h2 : ∀ n ∈ ns, ((byOf ns b : Nat) : Int) ∣ n := hh.2
  have hb : (plainB ns b).natAbs = b.natAbs / byOf ns b := by
    unfold plainB
    rw [Int.natAbs_ediv_of_dvd (Int.ofNat_dvd_left.mpr h1)]
    simp
  show gcdL (ns.map (· / (byOf ns b : Int))) (plainB ns b).natAbs = 1
  rw [hb, gcdL_div hd h1 h2]
  exact Nat.div_self hd
theorem plain_plain (ns : List Int) (b : Int) : plainW (plainW ns b) (plainB ns b) = plainW ns b ∧ plainB (plainW ns b) (plainB ns b) = plainB ns b := by
  by_cases e : byOf ns b = 0
  · obtain ⟨h1, h2⟩ := byOf_zero e
    rw [h1, h2]
    exact byOf_zero e
  · have e1 := byOf_plain e
    constructor
    · rw [show plainW (plainW ns b) (plainB ns b) = (plainW ns b).map (· / (byOf (plainW ns b) (plainB ns b) : Int)) from rfl, e1]
      have : ∀ n ∈ plainW ns b, n / ((1 : Nat) : Int) = n := fun n _ => by simp
      exact (List.map_congr_left this).trans (List.map_id' _)
    · rw [show plainB (plainW ns b) (plainB ns b) = plainB ns b / (byOf (plainW ns b) (plainB ns b) : Int) from rfl, e1]
      simp
end SL
/-! F7: common_of, plain_row, the law's own plain form. -/
namespace SL
open PySem PySem.Spec L2
section
variable {G : Gm} {lv k : Nat} {args : List SV} {h : SHp} {R : SV → SHp → Prop} {X : SX → SHp → Prop}
def b_common_of : List SS := [.for (.nm 2) (.of (.var 0)) [.ife (.cmp .Eq (.var 1) (.cst (.int 1))) [.ret (.cst (.int 1))] [], .asg (.nm 1) (.call "common" [(.var 1), (.var 2)])], .ret (.var 1)]
/-- the numbers of a list or a tuple, a first number -/
def spCommonOf (lv k : Nat) : SSp := fun args h R X => lv ≤ k ∧ ∃ (x : SV) (t : Bool) (ns : List Int) (g : Nat), args = [x, .int g] ∧ x.plain = true ∧ vw h x = some (t, intsV ns) ∧ R (.int (gcdL ns g)) h
theorem common_of_ok {lc : Nat} (hc : G.call "common" = spCommon lc k) (hl : lc < lv) (q : spCommonOf lv (k + 1) args h R X) : args.length = 2 ∧ wpSs G b_common_of (st0 3 args) h (endsOf R) := by
  obtain ⟨h0, x, t, ns, g, rfl, hx, hv, q⟩ := q
  refine ⟨rfl, ?_⟩
  unfold b_common_of
  have ho := plain_isOwn hx
  rw [q_cons, q_for]
  simp only [q_ecall, sx0, sx1, sx2, sx3, sx4, sx5, sx6, sx7, sx8, sx9, sx10, sx11, sx12, Nat.reduceAdd, Nat.reduceSub, Nat.reduceLT, Nat.reduceEqDiff, st0, endsOf, varQ_pd ho, stow_pd hx]
  refine it_go hv ?_
  refine for_rule (fun done todo δ h' => h' = h ∧ ∃ (ms : List Int) (g' : Nat) (o : Option SV), todo = intsV ms ∧ δ = [some x, some (.int g'), o] ∧ gcdL ms g' = gcdL ns g) ⟨rfl, ns, g, none, rfl, rfl, rfl⟩ ?_ ?_
  · rintro done y todo _ h' K ⟨rfl, ms, g', o, e, rfl, hg⟩ hK
    cases ms with
    | nil => cases e
    | cons m ms =>
      simp only [intsV, List.map_cons, List.cons.injEq] at e
      obtain ⟨rfl, rfl⟩ := e
      refine ⟨hv, ?_⟩
      simp only [q_ecall, sx0, sx1, sx2, sx3, sx4, sx5, sx6, sx7, sx8, sx9, sx10, sx11, sx12, Nat.reduceAdd, Nat.reduceSub, Nat.reduceLT, Nat.reduceEqDiff, st0, endsOf]
      rw [q_ife]
      simp only [q_ecall, sx0, sx1, sx2, sx3, sx4, sx5, sx6, sx7, sx8, sx9, sx10, sx11, sx12, Nat.reduceAdd, Nat.reduceSub, Nat.reduceLT, Nat.reduceEqDiff, st0, endsOf]
      refine cond_split (fun e1 => ?_) fun e1 => ?_
      · have e2 : g' = 1 := by have := of_decide_eq_true e1; omega
        subst e2
        rw [gcdL_one] at hg
        rw [← hg] at q
        exact q
      · simp only [q_ecall, sx0, sx1, sx2, sx3, sx4, sx5, sx6, sx7, sx8, sx9, sx10, sx11, sx12, Nat.reduceAdd, Nat.reduceSub, Nat.reduceLT, Nat.reduceEqDiff, st0, endsOf, hc]
        refine ⟨by omega, g', m, rfl, ?_⟩
        simp only [q_ecall, sx0, sx1, sx2, sx3, sx4, sx5, sx6, sx7, sx8, sx9, sx10, sx11, sx12, Nat.reduceAdd, Nat.reduceSub, Nat.reduceLT, Nat.reduceEqDiff, st0, endsOf]
        exact hK _ _ ⟨rfl, ms, Int.gcd g' m, _, rfl, rfl, hg⟩
  · rintro _ h' ⟨rfl, ms, g', o, e, rfl, hg⟩
    have e1 : ms = [] := by
      cases ms with
      | nil => rfl
      | cons m ms => cases e
    subst e1
    refine ⟨hv, ?_⟩
    simp only [q_ecall, sx0, sx1, sx2, sx3, sx4, sx5, sx6, sx7, sx8, sx9, sx10, sx11, sx12, Nat.reduceAdd, Nat.reduceSub, Nat.reduceLT, Nat.reduceEqDiff, st0, endsOf]
    rw [← hg] at q
    exact q
/-- numbers of a row that are small -/
def SmL (n : Nat) (ns : List Int) : Prop := ∀ m ∈ ns, Sm n m
theorem byOf_sm {n : Nat} {ns : List Int} {b : Int} (h1 : SmL n ns) (h2 : Sm n b) (e : byOf ns b ≠ 0) : Sm n (byOf ns b : Int) := by
  have hh := gcdL_dvd (ns := ns) (g := b.natAbs)
  by_cases hb : b = 0
  · obtain ⟨m, hm, m0⟩ : ∃ m ∈ ns, m ≠ 0 := by
      apply Classical.byContradiction
      intro z
      have all : ∀ m ∈ ns, m = 0 := fun m hm => Classical.byContradiction fun q => z ⟨m, hm, q⟩
      apply e
      subst hb
      unfold byOf
      clear hh h1 e z
      induction ns with
      | nil => rfl
      | cons a ns ih =>
        have ea := all a List.mem_cons_self
        subst ea
        rw [gcdL_cons]
        exact ih fun m hm => all m (List.mem_cons_of_mem _ hm)
    refine (h1 m hm).of_abs ?_
    exact Nat.le_of_dvd (by omega) (Int.natAbs_dvd_natAbs.mpr (hh.2 m hm))
  · refine h2.of_abs ?_
    have : byOf ns b ∣ b.natAbs := hh.1
    have := Nat.le_of_dvd (by omega) this
    simpa using this
def b_plain_row : List SS := [.asg (.tup [(.nm 2), (.nm 3)]) (.var 0), .asg (.nm 1) (.callP "common_of/1/by" ["by"] [(.var 2)] [(.bi .abs [(.var 3)])]), .ife (.cmp .Eq (.var 1) (.cst (.int 0))) [.ret (.tup [(.bi .tuple [(.var 2)]), (.var 3)])] [], .ret (.tup [(.bi .tuple [(.lc [("weight", 4)] (.nm 4) (.of (.var 2)) [] (.bin .FloorDiv (.var 4) (.var 1)))]), (.bin .FloorDiv (.var 3) (.var 1))])]
def spPlainRow (lv k : Nat) : SSp := fun args h R X => lv ≤ k ∧ ∃ (x : SV) (t : Bool) (ns : List Int) (b : Int), args = [.tup [x, .int b]] ∧ x.plain = true ∧ vw h x = some (t, intsV ns) ∧ ns.length ≤ sizeLine ∧ SmL 9000 ns ∧ Sm 9000 b ∧ R (rowS (plainW ns b) (plainB ns b)) h
theorem bi_tup {x : SV} {t : Bool} {xs : List SV} {δ : SSt} {F : SV → Prop} (hx : x.plain = true) (hv : vw h x = some (t, xs)) (q : F (.tup xs)) : biS .tuple [x] δ h F := ⟨x, t, xs, rfl, by rw [view_pd hx]; exact hv, q⟩
theorem plain_row_ok {lc : Nat} (hc : G.call "common_of/1/by" = fun args h R X => spCommonOf lc k (asmG .non [.arg 0, .arg 1] args []) h R X) (hl : lc < lv) (q : spPlainRow lv (k + 1) args h R X) : args.length = 1 ∧ wpSs G b_plain_row (st0 5 args) h (endsOf R) := by
  obtain ⟨h0, x, t, ns, b, rfl, hx, hv, hz, h1, h2, q⟩ := q
  refine ⟨rfl, ?_⟩
  unfold b_plain_row
  have ho := plain_isOwn hx
  simp only [q_ecall, sx0, sx1, sx2, sx3, sx4, sx5, sx6, sx7, sx8, sx9, sx10, sx11, sx12, Nat.reduceAdd, Nat.reduceSub, Nat.reduceLT, Nat.reduceEqDiff, st0, endsOf, varQ_pd ho, boxS_pd hx, hc, asmG, List.getD_cons_zero, List.getD_cons_succ]
  refine ⟨by omega, x, t, ns, b.natAbs, rfl, hx, hv, ?_⟩
  simp only [q_ecall, sx0, sx1, sx2, sx3, sx4, sx5, sx6, sx7, sx8, sx9, sx10, sx11, sx12, Nat.reduceAdd, Nat.reduceSub, Nat.reduceLT, Nat.reduceEqDiff, st0, endsOf]
  rw [q_ife]
  simp only [q_ecall, sx0, sx1, sx2, sx3, sx4, sx5, sx6, sx7, sx8, sx9, sx10, sx11, sx12, Nat.reduceAdd, Nat.reduceSub, Nat.reduceLT, Nat.reduceEqDiff, st0, endsOf, varQ_pd ho, opd_pd hx]
  refine cond_split (fun e => ?_) fun e => ?_
  · have e0 : byOf ns b = 0 := by have := of_decide_eq_true e; unfold byOf; omega
    obtain ⟨e1, e2⟩ := byOf_zero e0
    rw [e1, e2] at q
    rw [view_pd hx, hv, q_view]
    exact q
  · have e0 : byOf ns b ≠ 0 := by have := of_decide_eq_false e; unfold byOf; omega
    have dv : ∀ i, DivOk i (byOf ns b : Int) := fun i => (byOf_sm h1 h2 e0).divOk (by decide) (by omega)
    rw [q_lc]
    simp only [q_iof, wipeS, q_ecall, sx0, sx1, sx2, sx3, sx4, sx5, sx6, sx7, sx8, sx9, sx10, sx11, sx12, Nat.reduceAdd, Nat.reduceSub, Nat.reduceLT, Nat.reduceEqDiff, st0, endsOf, varQ_pd ho, stow_pd hx]
    refine it_go hv ?_
    refine lc_map (fun v => match v with | .int i => .int (i / (byOf ns b : Int)) | v => v) (by simpa [intsV] using hz) hv (fun y hy acc K ha hK => ?_) ?_
    · obtain ⟨i, hi, rfl⟩ := List.mem_map.mp hy
      simp only [wipeS, q_ecall, sx0, sx1, sx2, sx3, sx4, sx5, sx6, sx7, sx8, sx9, sx10, sx11, sx12, Nat.reduceAdd, Nat.reduceSub, Nat.reduceLT, Nat.reduceEqDiff, st0, endsOf]
      exact ⟨dv i, ha, hK⟩
    · simp only [backS, wipeS, SV.plain, q_ecall, sx0, sx1, sx2, sx3, sx4, sx5, sx6, sx7, sx8, sx9, sx10, sx11, sx12, Nat.reduceAdd, Nat.reduceSub, Nat.reduceLT, Nat.reduceEqDiff, st0, endsOf]
      refine ⟨dv b, ?_⟩
      have em : (intsV ns).map (fun v => match v with | .int i => SV.int (i / (byOf ns b : Int)) | v => v) = intsV (plainW ns b) := by
        unfold intsV plainW
        rw [List.map_map, List.map_map]
        rfl
      rw [em]
      exact q
def b_lplain : List SS := [.asg (.nm 1) (.bi .abs [(.ix (.var 0) (.cst (.int 1)))]), .for (.nm 2) (.of (.ix (.var 0) (.cst (.int 0)))) [.asg (.nm 1) (.call "_law_common" [(.var 1), (.var 2)])], .ife (.cmp .Eq (.var 1) (.cst (.int 0))) [.ret (.var 0)] [], .ret (.tup [(.bi .tuple [(.lc [("_law_weight", 2)] (.nm 2) (.of (.ix (.var 0) (.cst (.int 0)))) [] (.bin .FloorDiv (.var 2) (.var 1)))]), (.bin .FloorDiv (.ix (.var 0) (.cst (.int 1))) (.var 1))])]
theorem lplain_ok {lc : Nat} (hc : G.call "_law_common" = spCommon lc k) (hl : lc < lv) (q : spPlainRow lv (k + 1) args h R X) (hr : ∃ ns b, args = [rowS ns b]) : args.length = 1 ∧ wpSs G b_lplain (st0 3 args) h (endsOf R) := by
  obtain ⟨h0, x, t, ns, b, rfl, hx, hv, hz, h1, h2, q⟩ := q
  obtain ⟨ns', b', e⟩ := hr
  simp only [rowS, List.cons.injEq, SV.tup.injEq, SV.int.injEq, and_true] at e
  obtain ⟨rfl, rfl⟩ := e
  have e3 : ns' = ns := by
    simp only [vw, Option.some.injEq, Prod.mk.injEq] at hv
    have := hv.2
    unfold intsV at this
    exact (List.map_inj_right (fun a b e => SV.int.inj e)).mp this
  subst e3
  refine ⟨rfl, ?_⟩
  unfold b_lplain
  rw [q_cons]
  simp only [q_ecall, sx0, sx1, sx2, sx3, sx4, sx5, sx6, sx7, sx8, sx9, sx10, sx11, sx12, Nat.reduceAdd, Nat.reduceSub, Nat.reduceLT, Nat.reduceEqDiff, st0, endsOf]
  rw [q_for]
  simp only [q_ecall, sx0, sx1, sx2, sx3, sx4, sx5, sx6, sx7, sx8, sx9, sx10, sx11, sx12, Nat.reduceAdd, Nat.reduceSub, Nat.reduceLT, Nat.reduceEqDiff, st0, endsOf]
  refine it_go rfl ?_
  refine for_rule (fun done todo δ h' => h' = h ∧ ∃ (ms : List Int) (g' : Nat) (o : Option SV), todo = intsV ms ∧ δ = [some (.tup [.tup (intsV ns'), .int b]), some (.int g'), o] ∧ gcdL ms g' = gcdL ns' b.natAbs) ⟨rfl, ns', b.natAbs, none, rfl, rfl, rfl⟩ ?_ ?_
  · rintro done y todo _ h' K ⟨rfl, ms, g', o, e, rfl, hg⟩ hK
    cases ms with
    | nil => cases e
    | cons m ms =>
      simp only [intsV, List.map_cons, List.cons.injEq] at e
      obtain ⟨rfl, rfl⟩ := e
      refine ⟨rfl, ?_⟩
      simp only [q_ecall, sx0, sx1, sx2, sx3, sx4, sx5, sx6, sx7, sx8, sx9, sx10, sx11, sx12, Nat.reduceAdd, Nat.reduceSub, Nat.reduceLT, Nat.reduceEqDiff, st0, endsOf, hc]
      refine ⟨by omega, g', m, rfl, ?_⟩
      simp only [q_ecall, sx0, sx1, sx2, sx3, sx4, sx5, sx6, sx7, sx8, sx9, sx10, sx11, sx12, Nat.reduceAdd, Nat.reduceSub, Nat.reduceLT, Nat.reduceEqDiff, st0, endsOf]
      exact hK _ _ ⟨rfl, ms, Int.gcd g' m, _, rfl, rfl, hg⟩
  · rintro _ h' ⟨rfl, ms, g', o, e, rfl, hg⟩
    have e1 : ms = [] := by
      cases ms with
      | nil => rfl
      | cons m ms => cases e
    subst e1
    have hg : g' = byOf ns' b := hg
    subst hg
    refine ⟨rfl, ?_⟩
    simp only [q_ecall, sx0, sx1, sx2, sx3, sx4, sx5, sx6, sx7, sx8, sx9, sx10, sx11, sx12, Nat.reduceAdd, Nat.reduceSub, Nat.reduceLT, Nat.reduceEqDiff, st0, endsOf]
    rw [q_ife]
    simp only [q_ecall, sx0, sx1, sx2, sx3, sx4, sx5, sx6, sx7, sx8, sx9, sx10, sx11, sx12, Nat.reduceAdd, Nat.reduceSub, Nat.reduceLT, Nat.reduceEqDiff, st0, endsOf]
    refine cond_split (fun e => ?_) fun e => ?_
    · have e0 : byOf ns' b = 0 := by have := of_decide_eq_true e; omega
      obtain ⟨e1, e2⟩ := byOf_zero e0
      rw [e1, e2] at q
      exact q
    · have e0 : byOf ns' b ≠ 0 := by have := of_decide_eq_false e; omega
      have dv : ∀ i, DivOk i (byOf ns' b : Int) := fun i => (byOf_sm h1 h2 e0).divOk (by decide) (by omega)
      rw [q_lc]
      simp only [q_iof, wipeS, q_ecall, sx0, sx1, sx2, sx3, sx4, sx5, sx6, sx7, sx8, sx9, sx10, sx11, sx12, Nat.reduceAdd, Nat.reduceSub, Nat.reduceLT, Nat.reduceEqDiff, st0, endsOf]
      refine it_go rfl ?_
      refine lc_map (fun v => match v with | .int i => .int (i / (byOf ns' b : Int)) | v => v) (by simpa [intsV] using hz) rfl (fun y hy acc K ha hK => ?_) ?_
      · obtain ⟨i, hi, rfl⟩ := List.mem_map.mp hy
        simp only [wipeS, q_ecall, sx0, sx1, sx2, sx3, sx4, sx5, sx6, sx7, sx8, sx9, sx10, sx11, sx12, Nat.reduceAdd, Nat.reduceSub, Nat.reduceLT, Nat.reduceEqDiff, st0, endsOf]
        exact ⟨dv i, ha, hK⟩
      · simp only [backS, wipeS, SV.plain, q_ecall, sx0, sx1, sx2, sx3, sx4, sx5, sx6, sx7, sx8, sx9, sx10, sx11, sx12, Nat.reduceAdd, Nat.reduceSub, Nat.reduceLT, Nat.reduceEqDiff, st0, endsOf]
        refine ⟨dv b, ?_⟩
        have em : (intsV ns').map (fun v => match v with | .int i => SV.int (i / (byOf ns' b : Int)) | v => v) = intsV (plainW ns' b) := by
          unfold intsV plainW
          rw [List.map_map, List.map_map]
          rfl
        rw [em]
        exact q
end
end SL
/-! F8: data alike, sums of rows. -/
namespace SL
open PySem PySem.Spec L2
/-! ### data -/
theorem okD_lay : ∀ {n : Nat} {d : PyData}, okD n d → d.canLay0 = true ∧ d.depth ≤ n
  | _, .none, _ => ⟨rfl, Nat.zero_le _⟩
  | _, .bool _, _ => ⟨rfl, Nat.zero_le _⟩
  | _, .int _, _ => ⟨rfl, Nat.zero_le _⟩
  | 0, .str z, h => ⟨by simp only [PyData.canLay0]; exact h, Nat.zero_le _⟩
  | n + 1, .str z, h => ⟨by simp only [PyData.canLay0]; exact h, Nat.zero_le _⟩
  | n + 1, .list xs, ⟨_, h⟩ => by
    have all : ∀ ys : List PyData, (∀ y ∈ ys, y.canLay0 = true ∧ y.depth ≤ n) → PyData.canLayAll0 ys = true ∧ PyData.depthAll ys ≤ n := by
      intro ys
      induction ys with
      | nil => exact fun _ => ⟨rfl, Nat.zero_le _⟩
      | cons y ys ih =>
        intro h
        have h1 := h y List.mem_cons_self
        have h2 := ih fun z hz => h z (List.mem_cons_of_mem _ hz)
        exact ⟨by simp [PyData.canLayAll0, h1.1, h2.1], by simp [PyData.depthAll]; omega⟩
    obtain ⟨h1, h2⟩ := all xs fun y hy => okD_lay (h y hy)
    exact ⟨by simpa [PyData.canLay0] using h1, by simp [PyData.depth]; omega⟩
  | n + 1, .tuple xs, ⟨_, h⟩ => by
    have all : ∀ ys : List PyData, (∀ y ∈ ys, y.canLay0 = true ∧ y.depth ≤ n) → PyData.canLayAll0 ys = true ∧ PyData.depthAll ys ≤ n := by
      intro ys
      induction ys with
      | nil => exact fun _ => ⟨rfl, Nat.zero_le _⟩
      | cons y ys ih =>
        intro h
        have h1 := h y List.mem_cons_self
        have h2 := ih fun z hz => h z (List.mem_cons_of_mem _ hz)
        exact ⟨by simp [PyData.canLayAll0, h1.1, h2.1], by simp [PyData.depthAll]; omega⟩
    obtain ⟨h1, h2⟩ := all xs fun y hy => okD_lay (h y hy)
    exact ⟨by simpa [PyData.canLay0] using h1, by simp [PyData.depth]; omega⟩
  | 0, .list _, h => h.elim
  | 0, .tuple _, h => h.elim
  | 0, .dict _, h => h.elim
  | _ + 1, .dict _, h => h.elim
theorem eqv_refl : ∀ {n : Nat} {d : PyData}, okD n d → PyData.eqv d d = true
  | _, .none, _ => rfl
  | _, .bool _, _ => by simp [PyData.eqv]
  | _, .int _, _ => by simp [PyData.eqv]
  | _, .str z, _ => by simp [PyData.eqv]
  | n + 1, .list xs, ⟨_, h⟩ => by
    have all : ∀ ys : List PyData, (∀ y ∈ ys, PyData.eqv y y = true) → PyData.eqvAll ys ys = true := by
      intro ys
      induction ys with
      | nil => exact fun _ => rfl
      | cons y ys ih => exact fun h => by simp [PyData.eqvAll, h y List.mem_cons_self, ih fun z hz => h z (List.mem_cons_of_mem _ hz)]
    simp only [PyData.eqv]
    exact all xs fun y hy => eqv_refl (h y hy)
  | n + 1, .tuple xs, ⟨_, h⟩ => by
    have all : ∀ ys : List PyData, (∀ y ∈ ys, PyData.eqv y y = true) → PyData.eqvAll ys ys = true := by
      intro ys
      induction ys with
      | nil => exact fun _ => rfl
      | cons y ys ih => exact fun h => by simp [PyData.eqvAll, h y List.mem_cons_self, ih fun z hz => h z (List.mem_cons_of_mem _ hz)]
    simp only [PyData.eqv]
    exact all xs fun y hy => eqv_refl (h y hy)
  | 0, .list _, h => h.elim
  | 0, .tuple _, h => h.elim
  | 0, .dict _, h => h.elim
  | _ + 1, .dict _, h => h.elim
theorem okD_shaped {n : Nat} {d : PyData} (h : okD n d) (hn : n ≤ 64) : SeqAt.shaped d = true := by
  obtain ⟨h1, h2⟩ := okD_lay h
  simp [SeqAt.shaped, h1]
  omega
theorem eqv_ints : ∀ {xs ys : List Int}, PyData.eqvAll (xs.map .int) (ys.map .int) = decide (xs = ys)
  | [], [] => rfl
  | [], _ :: _ => by simp [PyData.eqvAll]
  | _ :: _, [] => by simp [PyData.eqvAll]
  | x :: xs, y :: ys => by
    have := eqv_ints (xs := xs) (ys := ys)
    simp only [List.map_cons, PyData.eqvAll, PyData.eqv, this]
    by_cases h1 : x = y
    · by_cases h2 : xs = ys
      · simp [h1, h2]
      · simp [h1, h2]
    · simp [h1]
theorem ints_of {n : Nat} : ∀ {acc : List SV}, (∀ e ∈ acc, ∃ i, e = SV.int i ∧ Sm n i) → ∃ ws, acc = intsV ws ∧ SmL n ws
  | [], _ => ⟨[], rfl, fun m hm => by cases hm⟩
  | a :: acc, h => by
    obtain ⟨ws, rfl, hw⟩ := ints_of fun e he => h e (List.mem_cons_of_mem _ he)
    obtain ⟨i, rfl, hi⟩ := h a List.mem_cons_self
    exact ⟨i :: ws, rfl, fun m hm => by
      rcases List.mem_cons.mp hm with rfl | hm
      · exact hi
      · exact hw m hm⟩
theorem pds_ints : ∀ ns : List Int, pds (intsV ns) = some (ns.map PyData.int)
  | [] => rfl
  | n :: ns => by
    have := pds_ints ns
    unfold intsV at this ⊢
    simp only [List.map_cons, pds, SV.pd, this]
def rowD (ns : List Int) (b : Int) : PyData := .tuple [.tuple (ns.map PyData.int), .int b]
theorem row_pd0 {ns : List Int} {b : Int} : (rowS ns b).pd = some (rowD ns b) := by
  simp [rowS, rowD, pds, SV.pd, pds_ints]
theorem row_pd {ns : List Int} {b : Int} {h : SHp} : pdV [] h (rowS ns b) = some (rowD ns b) := by
  simp [pdV, view, vw, rowS, rowD, pds, SV.pd, pds_ints]
theorem intsD_ok {ns : List Int} (hl : ns.length < sizeLine) : okD 1 (.tuple (ns.map PyData.int)) ∧ okD 1 (.list (ns.map PyData.int)) := by
  have : (ns.map PyData.int).length < sizeLine ∧ ∀ x ∈ ns.map PyData.int, okD 0 x := ⟨by simpa using hl, fun y hy => by
    obtain ⟨i, _, rfl⟩ := List.mem_map.mp hy
    trivial⟩
  exact ⟨this, this⟩
theorem row_ok {ns : List Int} {b : Int} (hl : ns.length < sizeLine) : okD 2 (rowD ns b) := by
  have hz : (2 : Nat) < sizeLine := by decide
  refine ⟨hz, fun x hx => ?_⟩
  simp only [List.mem_cons, List.mem_nil_iff, or_false] at hx
  rcases hx with rfl | rfl
  · exact (intsD_ok hl).1
  · trivial
/-- rows -/
abbrev RowT := List Int × Int
def rowsV (rs : List RowT) : List SV := rs.map fun r => rowS r.1 r.2
def rowsD (rs : List RowT) : List PyData := rs.map fun r => rowD r.1 r.2
theorem pds_rows : ∀ rs : List RowT, pds (rowsV rs) = some (rowsD rs)
  | [] => rfl
  | r :: rs => by
    have := pds_rows rs
    unfold rowsV rowsD at this ⊢
    simp only [List.map_cons, pds, this, row_pd0]
def RowsOk (n : Nat) (rs : List RowT) : Prop := ∀ r ∈ rs, r.1.length = n
theorem rowsD_ok {n : Nat} {rs : List RowT} (hr : RowsOk n rs) (hn : n < sizeLine) (hl : rs.length < sizeLine) : okD 3 (.list (rowsD rs)) := by
  refine ⟨by simpa [rowsD] using hl, fun x hx => ?_⟩
  obtain ⟨r, hr', rfl⟩ := List.mem_map.mp hx
  exact row_ok (by rw [hr r hr']; exact hn)
theorem rowsV_len {rs : List RowT} : (rowsV rs).length = rs.length := by simp [rowsV]
theorem intsV_len {ns : List Int} : (intsV ns).length = ns.length := by simp [intsV]
/-! ### built-ins at values of unknown kind -/
section
variable {h : SHp} {δ : SSt} {F : SV → Prop} {x : SV} {t : Bool} {ys : List SV}
theorem bi_len (hx : x.plain = true) (hv : vw h x = some (t, ys)) (q : F (.int ys.length)) : biS .len [x] δ h F := by
  cases x with
  | str z => cases hv
  | own _ => cases hx
  | ownD _ => cases hx
  | loc _ => cases hx
  | _ => exact ⟨t, ys, hv, q⟩
theorem bi_list (hx : x.plain = true) (hv : vw h x = some (t, ys)) (q : F (.own ys)) : biS .list [x] δ h F := ⟨x, t, ys, rfl, by rw [view_pd hx]; exact hv, q⟩
theorem asBls_map {α : Type} (p : α → Bool) : ∀ zs : List α, asBls (zs.map fun z => SV.bl (p z)) = some (zs.map p)
  | [] => rfl
  | z :: zs => by simp only [List.map_cons, asBls, asBls_map p zs, Option.map_some]
theorem bi_all {α : Type} {p : α → Bool} {zs : List α} (q : F (.bl (zs.all p))) : biS .all [.frz (zs.map fun z => SV.bl (p z))] δ h F := ⟨_, _, _, rfl, rfl, asBls_map p zs, by rw [List.all_map]; exact q⟩
theorem bi_any {α : Type} {p : α → Bool} {zs : List α} (q : F (.bl (zs.any p))) : biS .any [.frz (zs.map fun z => SV.bl (p z))] δ h F := ⟨_, _, _, rfl, rfl, asBls_map p zs, by rw [List.any_map]; exact q⟩
end
/-! ### sums of rows -/
def stepW (t r : List Int) (w : Int) : List Int := List.zipWith (fun a b => a + w * b) t r
def addsW : List RowT → List Int → List Int → List Int
  | r :: rs, w :: ws, t => addsW rs ws (stepW t r.1 w)
  | _, _, t => t
def addsB : List RowT → List Int → Int → Int
  | r :: rs, w :: ws, b => addsB rs ws (b + w * r.2)
  | _, _, b => b
def cntOf (rs : List RowT) : Nat := match rs with
  | [] => 0
  | r :: _ => r.1.length
def addW (rs : List RowT) (ws : List Int) : List Int := addsW rs ws (List.replicate (cntOf rs) 0)
def addB (rs : List RowT) (ws : List Int) : Int := addsB rs ws 0
theorem zip_map : ∀ {t r : List Int} {w : Int}, (zipS (intsV t) (intsV r)).map (fun v => match v with
      | .tup [.int a, .int b] => SV.int (a + w * b)
      | v => v) = intsV (stepW t r w)
  | [], _, _ => by simp [zipS, intsV, stepW]
  | _ :: _, [], _ => by simp [zipS, intsV, stepW]
  | a :: t, b :: r, w => by
    have := zip_map (t := t) (r := r) (w := w)
    unfold intsV stepW at this ⊢
    simp only [List.map_cons, zipS, List.zipWith_cons_cons, this]
theorem mem_zip : ∀ {t r : List Int} {v : SV}, v ∈ zipS (intsV t) (intsV r) → ∃ a b, v = .tup [.int a, .int b] ∧ b ∈ r
  | [], _, _, hv => by simp [zipS, intsV] at hv
  | _ :: _, [], _, hv => by simp [zipS, intsV] at hv
  | a :: t, b :: r, v, hv => by
    simp only [intsV, List.map_cons, zipS, List.mem_cons] at hv
    rcases hv with rfl | hv
    · exact ⟨a, b, rfl, List.mem_cons_self⟩
    · obtain ⟨a', b', e, hb⟩ := mem_zip (t := t) (r := r) hv
      exact ⟨a', b', e, List.mem_cons_of_mem _ hb⟩
/-- rows of small numbers -/
def SmRs (n : Nat) (rs : List RowT) : Prop := ∀ r ∈ rs, SmL n r.1 ∧ Sm n r.2
theorem stepW_len {t r : List Int} {w : Int} (hl : r.length = t.length) : (stepW t r w).length = t.length := by
  unfold stepW
  rw [List.length_zipWith]
  omega
theorem zero_rep (m : Nat) : (List.replicate m [SV.int 0]).flatten = intsV (List.replicate m 0) := by
  induction m with
  | zero => rfl
  | succ m ih => rw [List.replicate_succ, List.flatten_cons, ih]; rfl
section
variable {G : Gm} {lv k : Nat} {args : List SV} {h : SHp} {R : SV → SHp → Prop} {X : SX → SHp → Prop}
/-- rows and weights to be read -/
structure RW (h : SHp) (x y : SV) (n : Nat) (rs : List RowT) (ws : List Int) : Prop where
  px : x.plain = true
  py : y.plain = true
  vx : vw h x = some (false, rowsV rs)
  vy : vw h y = some (false, intsV ws)
  cnt : RowsOk n rs
  cl : n < sizeLine
  ck : n ≤ 1000
  rl : rs.length < sizeLine
  wl : ws.length < sizeLine
  sr : SmRs 40000000 rs
  sw : SmL 40000000 ws
def spAdds (lv k : Nat) : SSp := fun args h R X => lv ≤ k ∧ ∃ x y n rs ws, args = [x, y] ∧ RW h x y n rs ws ∧ rs ≠ [] ∧ R (rowS (addW rs ws) (addB rs ws)) h
def b_added : List SS := [.asg (.nm 2) (.bin .Mult (.lst [(.cst (.int 0))]) (.bi .len [(.ix (.ix (.var 0) (.cst (.int 0))) (.cst (.int 0)))])), .asg (.nm 3) (.cst (.int 0)), .for (.tup [(.nm 4), (.nm 5)]) (.zip [(.var 0), (.var 1)]) [.asg (.nm 2) (.lc [("one", 6), ("other", 7)] (.tup [(.nm 6), (.nm 7)]) (.zip [(.var 2), (.ix (.var 4) (.cst (.int 0)))]) [] (.bin .Add (.var 6) (.bin .Mult (.var 5) (.var 7)))), .aug 3 .Add (.bin .Mult (.var 5) (.ix (.var 4) (.cst (.int 1))))], .ret (.tup [(.bi .tuple [(.var 2)]), (.var 3)])]
def b_ladds : List SS := [.asg (.nm 2) (.bin .Mult (.lst [(.cst (.int 0))]) (.bi .len [(.ix (.ix (.var 0) (.cst (.int 0))) (.cst (.int 0)))])), .asg (.nm 3) (.cst (.int 0)), .for (.tup [(.nm 4), (.nm 5)]) (.zip [(.var 0), (.var 1)]) [.asg (.nm 2) (.lc [("_law_one", 6), ("_law_other", 7)] (.tup [(.nm 6), (.nm 7)]) (.zip [(.var 2), (.ix (.var 4) (.cst (.int 0)))]) [] (.bin .Add (.var 6) (.bin .Mult (.var 5) (.var 7)))), .asg (.nm 3) (.bin .Add (.var 3) (.bin .Mult (.var 5) (.ix (.var 4) (.cst (.int 1)))))], .ret (.tup [(.bi .tuple [(.var 2)]), (.var 3)])]
theorem added_ok (q : spAdds lv k args h R X) : args.length = 2 ∧ wpSs G b_added (st0 8 args) h (endsOf R) := by
  obtain ⟨h0, x, y, n, rs, ws, rfl, w, ne, q⟩ := q
  refine ⟨rfl, ?_⟩
  unfold b_added
  obtain ⟨r0, rt, rfl⟩ : ∃ r0 rt, rs = r0 :: rt := by
    cases rs with
    | nil => exact absurd rfl ne
    | cons a b => exact ⟨a, b, rfl⟩
  have ho := plain_isOwn w.px
  have ho2 := plain_isOwn w.py
  have v0 : view [some x, some y, none, none, none, none, none, none] h x = some (false, rowS r0.1 r0.2 :: rowsV rt) := by
    rw [view_pd w.px]; exact w.vx
  have e0 : r0.1.length = n := w.cnt r0 List.mem_cons_self
  simp only [q_ecall, sx0, sx1, sx2, sx3, sx4, sx5, sx6, sx7, sx8, sx9, sx10, sx11, sx12, Nat.reduceAdd, Nat.reduceSub, Nat.reduceLT, Nat.reduceEqDiff, st0, endsOf, varQ_pd ho, opd_pd w.px, v0, rowS]
  have cl := w.cl
  refine ⟨false, [.int 0], rfl, rfl, by omega, ?_, by simp only [List.length_cons, List.length_nil, intsV_len]; omega, ?_⟩
  · have : sizeLine < 2 ^ 62 := by decide
    simp only [intsV_len]
    omega
  simp only [q_ecall, sx0, sx1, sx2, sx3, sx4, sx5, sx6, sx7, sx8, sx9, sx10, sx11, sx12, Nat.reduceAdd, Nat.reduceSub, Nat.reduceLT, Nat.reduceEqDiff, st0, endsOf, zero_rep, intsV_len, Int.toNat_natCast]
  rw [q_for]
  simp only [q_izip, q_ecall, sx0, sx1, sx2, sx3, sx4, sx5, sx6, sx7, sx8, sx9, sx10, sx11, sx12, Nat.reduceAdd, Nat.reduceSub, Nat.reduceLT, Nat.reduceEqDiff, st0, endsOf, varQ_pd ho, varQ_pd ho2, stow_pd w.px, stow_pd w.py]
  refine zip_go w.vx w.vy ?_
  refine for_rule (fun done todo δ h' => h' = h ∧ ∃ (rs' : List RowT) (ws' t : List Int) (b : Int) (o4 o5 o6 o7 : Option SV), todo = zipS (rowsV rs') (intsV ws') ∧ (∀ r ∈ rs', r ∈ r0 :: rt) ∧ (∀ m ∈ ws', m ∈ ws) ∧ t.length = n ∧ δ = [some x, some y, some (.own (intsV t)), some (.int b), o4, o5, o6, o7] ∧ addsW rs' ws' t = addW (r0 :: rt) ws ∧ addsB rs' ws' b = addB (r0 :: rt) ws)
    ⟨rfl, r0 :: rt, ws, List.replicate r0.1.length 0, 0, none, none, none, none, rfl, fun _ h => h, fun _ h => h, by rw [List.length_replicate]; exact e0, rfl, rfl, rfl⟩ ?_ ?_
  · rintro done z todo _ h' K ⟨rfl, rs', ws', t, b, o4, o5, o6, o7, e, h1, h2, ht, rfl, hW, hB⟩ hK
    cases rs' with
    | nil => simp [zipS, rowsV] at e
    | cons r rs' =>
      cases ws' with
      | nil => simp [zipS, rowsV, intsV] at e
      | cons m ws' =>
        simp only [rowsV, intsV, List.map_cons, zipS, List.cons.injEq] at e
        obtain ⟨rfl, rfl⟩ := e
        have sr := w.sr r (h1 r List.mem_cons_self)
        have sm := w.sw m (h2 m List.mem_cons_self)
        have lr : r.1.length = n := w.cnt r (h1 r List.mem_cons_self)
        refine ⟨⟨w.vx, w.vy⟩, ?_⟩
        simp only [q_ecall, sx0, sx1, sx2, sx3, sx4, sx5, sx6, sx7, sx8, sx9, sx10, sx11, sx12, Nat.reduceAdd, Nat.reduceSub, Nat.reduceLT, Nat.reduceEqDiff, st0, endsOf, rowS]
        rw [q_lc]
        simp only [q_izip, wipeS, q_ecall, sx0, sx1, sx2, sx3, sx4, sx5, sx6, sx7, sx8, sx9, sx10, sx11, sx12, Nat.reduceAdd, Nat.reduceSub, Nat.reduceLT, Nat.reduceEqDiff, st0, endsOf]
        refine stow_loc rfl ?_
        simp only [wipeS, q_ecall, sx0, sx1, sx2, sx3, sx4, sx5, sx6, sx7, sx8, sx9, sx10, sx11, sx12, Nat.reduceAdd, Nat.reduceSub, Nat.reduceLT, Nat.reduceEqDiff, st0, endsOf]
        refine zip_go (xs := intsV t) (ys := intsV r.1) rfl rfl ?_
        refine lc_map (fun v => match v with
            | .tup [.int a, .int b] => SV.int (a + m * b)
            | v => v) (by rw [zipS_length, intsV_len, intsV_len]; omega) ⟨rfl, rfl⟩ (fun v hv acc K2 ha hK2 => ?_) ?_
        · obtain ⟨a', b', rfl, hb'⟩ := mem_zip hv
          simp only [wipeS, q_ecall, sx0, sx1, sx2, sx3, sx4, sx5, sx6, sx7, sx8, sx9, sx10, sx11, sx12, Nat.reduceAdd, Nat.reduceSub, Nat.reduceLT, Nat.reduceEqDiff, st0, endsOf]
          exact ⟨sm.mulOk (sr.1 b' hb') (by decide), ha, hK2⟩
        · rw [zip_map]
          simp only [backS, SV.plain, q_ecall, sx0, sx1, sx2, sx3, sx4, sx5, sx6, sx7, sx8, sx9, sx10, sx11, sx12, Nat.reduceAdd, Nat.reduceSub, Nat.reduceLT, Nat.reduceEqDiff, st0, endsOf]
          rw [aug_add (m := b) rfl]
          simp only [q_ecall, sx0, sx1, sx2, sx3, sx4, sx5, sx6, sx7, sx8, sx9, sx10, sx11, sx12, Nat.reduceAdd, Nat.reduceSub, Nat.reduceLT, Nat.reduceEqDiff, st0, endsOf]
          refine ⟨sm.mulOk sr.2 (by decide), hK _ _ ⟨rfl, rs', ws', _, _, _, _, _, _, rfl, fun z hz => h1 z (List.mem_cons_of_mem _ hz), fun z hz => h2 z (List.mem_cons_of_mem _ hz), by rw [stepW_len (by omega)]; exact ht, rfl, hW, hB⟩⟩
  · rintro _ h' ⟨rfl, rs', ws', t, b, o4, o5, o6, o7, e, h1, h2, ht, rfl, hW, hB⟩
    have fin : addsW rs' ws' t = t ∧ addsB rs' ws' b = b := by
      cases rs' with
      | nil => exact ⟨rfl, rfl⟩
      | cons r rs' =>
        cases ws' with
        | nil => exact ⟨rfl, rfl⟩
        | cons m ws' => simp [zipS, rowsV, intsV] at e
    rw [fin.1] at hW
    rw [fin.2] at hB
    subst hW hB
    refine ⟨⟨w.vx, w.vy⟩, ?_⟩
    simp only [q_ecall, sx0, sx1, sx2, sx3, sx4, sx5, sx6, sx7, sx8, sx9, sx10, sx11, sx12, Nat.reduceAdd, Nat.reduceSub, Nat.reduceLT, Nat.reduceEqDiff, st0, endsOf]
    exact q
theorem ladds_ok (q : spAdds lv k args h R X) : args.length = 2 ∧ wpSs G b_ladds (st0 8 args) h (endsOf R) := by
  obtain ⟨h0, x, y, n, rs, ws, rfl, w, ne, q⟩ := q
  refine ⟨rfl, ?_⟩
  unfold b_ladds
  obtain ⟨r0, rt, rfl⟩ : ∃ r0 rt, rs = r0 :: rt := by
    cases rs with
    | nil => exact absurd rfl ne
    | cons a b => exact ⟨a, b, rfl⟩
  have ho := plain_isOwn w.px
  have ho2 := plain_isOwn w.py
  have v0 : view [some x, some y, none, none, none, none, none, none] h x = some (false, rowS r0.1 r0.2 :: rowsV rt) := by
    rw [view_pd w.px]; exact w.vx
  have e0 : r0.1.length = n := w.cnt r0 List.mem_cons_self
  simp only [q_ecall, sx0, sx1, sx2, sx3, sx4, sx5, sx6, sx7, sx8, sx9, sx10, sx11, sx12, Nat.reduceAdd, Nat.reduceSub, Nat.reduceLT, Nat.reduceEqDiff, st0, endsOf, varQ_pd ho, opd_pd w.px, v0, rowS]
  have cl := w.cl
  refine ⟨false, [.int 0], rfl, rfl, by omega, ?_, by simp only [List.length_cons, List.length_nil, intsV_len]; omega, ?_⟩
  · have : sizeLine < 2 ^ 62 := by decide
    simp only [intsV_len]
    omega
  simp only [q_ecall, sx0, sx1, sx2, sx3, sx4, sx5, sx6, sx7, sx8, sx9, sx10, sx11, sx12, Nat.reduceAdd, Nat.reduceSub, Nat.reduceLT, Nat.reduceEqDiff, st0, endsOf, zero_rep, intsV_len, Int.toNat_natCast]
  rw [q_for]
  simp only [q_izip, q_ecall, sx0, sx1, sx2, sx3, sx4, sx5, sx6, sx7, sx8, sx9, sx10, sx11, sx12, Nat.reduceAdd, Nat.reduceSub, Nat.reduceLT, Nat.reduceEqDiff, st0, endsOf, varQ_pd ho, varQ_pd ho2, stow_pd w.px, stow_pd w.py]
  refine zip_go w.vx w.vy ?_
  refine for_rule (fun done todo δ h' => h' = h ∧ ∃ (rs' : List RowT) (ws' t : List Int) (b : Int) (o4 o5 o6 o7 : Option SV), todo = zipS (rowsV rs') (intsV ws') ∧ (∀ r ∈ rs', r ∈ r0 :: rt) ∧ (∀ m ∈ ws', m ∈ ws) ∧ t.length = n ∧ δ = [some x, some y, some (.own (intsV t)), some (.int b), o4, o5, o6, o7] ∧ addsW rs' ws' t = addW (r0 :: rt) ws ∧ addsB rs' ws' b = addB (r0 :: rt) ws)
    ⟨rfl, r0 :: rt, ws, List.replicate r0.1.length 0, 0, none, none, none, none, rfl, fun _ h => h, fun _ h => h, by rw [List.length_replicate]; exact e0, rfl, rfl, rfl⟩ ?_ ?_
  · rintro done z todo _ h' K ⟨rfl, rs', ws', t, b, o4, o5, o6, o7, e, h1, h2, ht, rfl, hW, hB⟩ hK
    cases rs' with
    | nil => simp [zipS, rowsV] at e
    | cons r rs' =>
      cases ws' with
      | nil => simp [zipS, rowsV, intsV] at e
      | cons m ws' =>
        simp only [rowsV, intsV, List.map_cons, zipS, List.cons.injEq] at e
        obtain ⟨rfl, rfl⟩ := e
        have sr := w.sr r (h1 r List.mem_cons_self)
        have sm := w.sw m (h2 m List.mem_cons_self)
        have lr : r.1.length = n := w.cnt r (h1 r List.mem_cons_self)
        refine ⟨⟨w.vx, w.vy⟩, ?_⟩
        simp only [q_ecall, sx0, sx1, sx2, sx3, sx4, sx5, sx6, sx7, sx8, sx9, sx10, sx11, sx12, Nat.reduceAdd, Nat.reduceSub, Nat.reduceLT, Nat.reduceEqDiff, st0, endsOf, rowS]
        rw [q_lc]
        simp only [q_izip, wipeS, q_ecall, sx0, sx1, sx2, sx3, sx4, sx5, sx6, sx7, sx8, sx9, sx10, sx11, sx12, Nat.reduceAdd, Nat.reduceSub, Nat.reduceLT, Nat.reduceEqDiff, st0, endsOf]
        refine stow_loc rfl ?_
        simp only [wipeS, q_ecall, sx0, sx1, sx2, sx3, sx4, sx5, sx6, sx7, sx8, sx9, sx10, sx11, sx12, Nat.reduceAdd, Nat.reduceSub, Nat.reduceLT, Nat.reduceEqDiff, st0, endsOf]
        refine zip_go (xs := intsV t) (ys := intsV r.1) rfl rfl ?_
        refine lc_map (fun v => match v with
            | .tup [.int a, .int b] => SV.int (a + m * b)
            | v => v) (by rw [zipS_length, intsV_len, intsV_len]; omega) ⟨rfl, rfl⟩ (fun v hv acc K2 ha hK2 => ?_) ?_
        · obtain ⟨a', b', rfl, hb'⟩ := mem_zip hv
          simp only [wipeS, q_ecall, sx0, sx1, sx2, sx3, sx4, sx5, sx6, sx7, sx8, sx9, sx10, sx11, sx12, Nat.reduceAdd, Nat.reduceSub, Nat.reduceLT, Nat.reduceEqDiff, st0, endsOf]
          exact ⟨sm.mulOk (sr.1 b' hb') (by decide), ha, hK2⟩
        · rw [zip_map]
          simp only [backS, SV.plain, q_ecall, sx0, sx1, sx2, sx3, sx4, sx5, sx6, sx7, sx8, sx9, sx10, sx11, sx12, Nat.reduceAdd, Nat.reduceSub, Nat.reduceLT, Nat.reduceEqDiff, st0, endsOf]
          refine ⟨sm.mulOk sr.2 (by decide), hK _ _ ⟨rfl, rs', ws', _, _, _, _, _, _, rfl, fun z hz => h1 z (List.mem_cons_of_mem _ hz), fun z hz => h2 z (List.mem_cons_of_mem _ hz), by rw [stepW_len (by omega)]; exact ht, rfl, hW, hB⟩⟩
  · rintro _ h' ⟨rfl, rs', ws', t, b, o4, o5, o6, o7, e, h1, h2, ht, rfl, hW, hB⟩
    have fin : addsW rs' ws' t = t ∧ addsB rs' ws' b = b := by
      cases rs' with
      | nil => exact ⟨rfl, rfl⟩
      | cons r rs' =>
        cases ws' with
        | nil => exact ⟨rfl, rfl⟩
        | cons m ws' => simp [zipS, rowsV, intsV] at e
    rw [fin.1] at hW
    rw [fin.2] at hB
    subst hW hB
    refine ⟨⟨w.vx, w.vy⟩, ?_⟩
    simp only [q_ecall, sx0, sx1, sx2, sx3, sx4, sx5, sx6, sx7, sx8, sx9, sx10, sx11, sx12, Nat.reduceAdd, Nat.reduceSub, Nat.reduceLT, Nat.reduceEqDiff, st0, endsOf]
    exact q
end
end SL
/-! F9: weights that fit, bars, papers. -/
namespace SL
open PySem PySem.Spec L2
def fitB (rs : List RowT) (ws : List Int) : Bool := decide (ws.length = rs.length) && ws.all fun w => decide (0 ≤ w)
def barB (rs : List RowT) (ws : List Int) : Bool := decide (addB rs ws < 0) && (addW rs ws).all fun w => decide (w = 0)
def showB (rs : List RowT) (ns : List Int) (b many : Int) (ws : List Int) : Bool := decide (addW rs ws = ns.map (many * ·)) && decide (addB rs ws ≤ many * b)
theorem isi_list {h : SHp} {δ : SSt} {y : SV} {ys : List SV} (hp : y.plain = true) (hv : vw h y = some (false, ys)) : isiS y δ h = some "list" := by
  cases y with
  | non => cases hv
  | bl _ => cases hv
  | int _ => cases hv
  | str _ => cases hv
  | ty _ => cases hv
  | tup _ => cases hv
  | own _ => cases hp
  | ownD _ => cases hp
  | loc _ => cases hp
  | frz zs => rfl
  | lkd zs => rfl
  | ref p =>
    have hv' : view δ h (.ref p) = some (false, ys) := hv
    simp only [isiS, hv']
theorem ints_map {α : Type} (f : Int → α) (ns : List Int) (g : SV → α) (e : ∀ i, g (.int i) = f i) : (intsV ns).map g = ns.map f := by
  unfold intsV
  rw [List.map_map]
  exact List.map_congr_left fun i _ => e i
section
variable {G : Gm} {lv k : Nat} {args : List SV} {h : SHp} {R : SV → SHp → Prop} {X : SX → SHp → Prop}
def spFit (lv k : Nat) : SSp := fun args h R X => lv ≤ k ∧ ∃ x y n rs ws, args = [x, y] ∧ RW h x y n rs ws ∧ R (.bl (fitB rs ws)) h
def b_fitting : List SS := [.ret (.bool true [(.cmp .Eq (.bi .len [(.var 1)]) (.bi .len [(.var 0)])), (.bi .all [(.lc [("number", 2)] (.nm 2) (.of (.var 1)) [] (.cmp .GtE (.var 2) (.cst (.int 0))))])])]
theorem fitting_ok (q : spFit lv k args h R X) : args.length = 2 ∧ wpSs G b_fitting (st0 3 args) h (endsOf R) := by
  obtain ⟨h0, x, y, n, rs, ws, rfl, w, q⟩ := q
  refine ⟨rfl, ?_⟩
  unfold b_fitting
  have ho := plain_isOwn w.px
  have ho2 := plain_isOwn w.py
  simp only [q_ecall, sx0, sx1, sx2, sx3, sx4, sx5, sx6, sx7, sx8, sx9, sx10, sx11, sx12, Nat.reduceAdd, Nat.reduceSub, Nat.reduceLT, Nat.reduceEqDiff, st0, endsOf, varQ_pd ho, varQ_pd ho2, opd_pd w.px, opd_pd w.py]
  refine bi_len w.py w.vy ?_
  simp only [q_ecall, sx0, sx1, sx2, sx3, sx4, sx5, sx6, sx7, sx8, sx9, sx10, sx11, sx12, Nat.reduceAdd, Nat.reduceSub, Nat.reduceLT, Nat.reduceEqDiff, st0, endsOf, varQ_pd ho, varQ_pd ho2, opd_pd w.px, opd_pd w.py]
  refine bi_len w.px w.vx ?_
  simp only [q_ecall, sx0, sx1, sx2, sx3, sx4, sx5, sx6, sx7, sx8, sx9, sx10, sx11, sx12, Nat.reduceAdd, Nat.reduceSub, Nat.reduceLT, Nat.reduceEqDiff, st0, endsOf, rowsV_len, intsV_len]
  refine cond_split (fun e => ?_) fun e => ?_
  · have e := of_decide_eq_true e
    have el : ws.length = rs.length := by omega
    rw [q_lc]
    simp only [q_iof, wipeS, q_ecall, sx0, sx1, sx2, sx3, sx4, sx5, sx6, sx7, sx8, sx9, sx10, sx11, sx12, Nat.reduceAdd, Nat.reduceSub, Nat.reduceLT, Nat.reduceEqDiff, st0, endsOf, varQ_pd ho2, stow_pd w.py]
    refine it_go w.vy ?_
    have wl := w.wl
    refine lc_map (fun v => match v with
        | .int i => .bl (decide (0 ≤ i))
        | v => v) (by rw [intsV_len]; omega) w.vy (fun v hv acc K ha hK => ?_) ?_
    · obtain ⟨i, hi, rfl⟩ := List.mem_map.mp hv
      simp only [wipeS, q_ecall, sx0, sx1, sx2, sx3, sx4, sx5, sx6, sx7, sx8, sx9, sx10, sx11, sx12, Nat.reduceAdd, Nat.reduceSub, Nat.reduceLT, Nat.reduceEqDiff, st0, endsOf]
      exact ⟨ha, hK⟩
    · rw [ints_map (fun i => SV.bl (decide (0 ≤ i))) ws _ fun i => rfl]
      simp only [backS, SV.plain, q_ecall, sx0, sx1, sx2, sx3, sx4, sx5, sx6, sx7, sx8, sx9, sx10, sx11, sx12, Nat.reduceAdd, Nat.reduceSub, Nat.reduceLT, Nat.reduceEqDiff, st0, endsOf]
      refine bi_all ?_
      simp only [q_ecall, sx0, sx1, sx2, sx3, sx4, sx5, sx6, sx7, sx8, sx9, sx10, sx11, sx12, Nat.reduceAdd, Nat.reduceSub, Nat.reduceLT, Nat.reduceEqDiff, st0, endsOf]
      unfold fitB at q
      rw [decide_eq_true el, Bool.true_and] at q
      exact q
  · have e := of_decide_eq_false e
    have el : ¬ ws.length = rs.length := by omega
    unfold fitB at q
    rw [decide_eq_false el, Bool.false_and] at q
    exact q
/-- the same, the weights first -/
def spAreW (lv k : Nat) : SSp := fun args h R X => lv ≤ k ∧ ∃ x y n rs ws, args = [y, x] ∧ RW h x y n rs ws ∧ R (.bl (fitB rs ws)) h
def b_areW : List SS := [.ife (.bool false [(.not (.isi (.var 0) "list")), (.cmp .NotEq (.bi .len [(.var 0)]) (.bi .len [(.var 1)]))]) [.ret (.cst (.bl false))] [], .ret (.bi .all [(.lc [("_law_weight", 2)] (.nm 2) (.of (.var 0)) [] (.bool true [(.call "_law_num" [(.var 2)]), (.cmp .GtE (.var 2) (.cst (.int 0)))]))])]
theorem areW_ok {lc : Nat} (hc : G.call "_law_num" = spNumI lc k) (hl : lc < lv) (q : spAreW lv (k + 1) args h R X) : args.length = 2 ∧ wpSs G b_areW (st0 3 args) h (endsOf R) := by
  obtain ⟨h0, x, y, n, rs, ws, rfl, w, q⟩ := q
  refine ⟨rfl, ?_⟩
  unfold b_areW
  have ho := plain_isOwn w.px
  have ho2 := plain_isOwn w.py
  have hc' : G.nox.call "_law_num" = spNumI lc k := hc
  rw [q_cons, q_ife]
  simp only [q_ecall, sx0, sx1, sx2, sx3, sx4, sx5, sx6, sx7, sx8, sx9, sx10, sx11, sx12, Nat.reduceAdd, Nat.reduceSub, Nat.reduceLT, Nat.reduceEqDiff, st0, endsOf, varQ_pd ho, varQ_pd ho2, opd_pd w.px, opd_pd w.py, isi_list w.py w.vy]
  refine bi_len w.py w.vy ?_
  simp only [q_ecall, sx0, sx1, sx2, sx3, sx4, sx5, sx6, sx7, sx8, sx9, sx10, sx11, sx12, Nat.reduceAdd, Nat.reduceSub, Nat.reduceLT, Nat.reduceEqDiff, st0, endsOf, varQ_pd ho, varQ_pd ho2, opd_pd w.px, opd_pd w.py]
  refine bi_len w.px w.vx ?_
  simp only [q_ecall, sx0, sx1, sx2, sx3, sx4, sx5, sx6, sx7, sx8, sx9, sx10, sx11, sx12, Nat.reduceAdd, Nat.reduceSub, Nat.reduceLT, Nat.reduceEqDiff, st0, endsOf, rowsV_len, intsV_len]
  refine cond_split (fun e => ?_) fun e => ?_
  · have e := of_decide_eq_true e
    have el : ¬ ws.length = rs.length := by omega
    unfold fitB at q
    rw [decide_eq_false el, Bool.false_and] at q
    exact q
  · have e := of_decide_eq_false e
    have el : ws.length = rs.length := by omega
    rw [q_lc]
    simp only [q_iof, wipeS, q_ecall, sx0, sx1, sx2, sx3, sx4, sx5, sx6, sx7, sx8, sx9, sx10, sx11, sx12, Nat.reduceAdd, Nat.reduceSub, Nat.reduceLT, Nat.reduceEqDiff, st0, endsOf, varQ_pd ho2, stow_pd w.py]
    refine it_go w.vy ?_
    have wl := w.wl
    refine lc_map (fun v => match v with
        | .int i => .bl (decide (0 ≤ i))
        | v => v) (by rw [intsV_len]; omega) w.vy (fun v hv acc K ha hK => ?_) ?_
    · obtain ⟨i, hi, rfl⟩ := List.mem_map.mp hv
      simp only [wipeS, q_ecall, sx0, sx1, sx2, sx3, sx4, sx5, sx6, sx7, sx8, sx9, sx10, sx11, sx12, Nat.reduceAdd, Nat.reduceSub, Nat.reduceLT, Nat.reduceEqDiff, st0, endsOf, hc']
      refine ⟨by omega, i, rfl, ?_⟩
      simp only [wipeS, q_ecall, sx0, sx1, sx2, sx3, sx4, sx5, sx6, sx7, sx8, sx9, sx10, sx11, sx12, Nat.reduceAdd, Nat.reduceSub, Nat.reduceLT, Nat.reduceEqDiff, st0, endsOf]
      exact ⟨ha, hK⟩
    · rw [ints_map (fun i => SV.bl (decide (0 ≤ i))) ws _ fun i => rfl]
      simp only [backS, SV.plain, q_ecall, sx0, sx1, sx2, sx3, sx4, sx5, sx6, sx7, sx8, sx9, sx10, sx11, sx12, Nat.reduceAdd, Nat.reduceSub, Nat.reduceLT, Nat.reduceEqDiff, st0, endsOf]
      refine bi_all ?_
      simp only [q_ecall, sx0, sx1, sx2, sx3, sx4, sx5, sx6, sx7, sx8, sx9, sx10, sx11, sx12, Nat.reduceAdd, Nat.reduceSub, Nat.reduceLT, Nat.reduceEqDiff, st0, endsOf]
      unfold fitB at q
      rw [decide_eq_true el, Bool.true_and] at q
      exact q
def spBars (lv k : Nat) : SSp := fun args h R X => lv ≤ k ∧ ∃ x y n rs ws, args = [x, y] ∧ RW h x y n rs ws ∧ rs ≠ [] ∧ R (.bl (fitB rs ws && barB rs ws)) h
def b_bars_right : List SS := [.ife (.not (.call "fitting" [(.var 0), (.var 1)])) [.ret (.cst (.bl false))] [], .asg (.tup [(.nm 2), (.nm 3)]) (.call "added" [(.var 0), (.var 1)]), .ret (.bool true [(.cmp .Lt (.var 3) (.cst (.int 0))), (.bi .all [(.lc [("one", 4)] (.nm 4) (.of (.var 2)) [] (.cmp .Eq (.var 4) (.cst (.int 0))))])])]
theorem addsW_len {n : Nat} : ∀ {rs : List RowT} {ws t : List Int}, RowsOk n rs → t.length = n → (addsW rs ws t).length = n
  | [], _, _, _, h => by simpa [addsW] using h
  | _ :: _, [], _, _, h => by simpa [addsW] using h
  | r :: rs, w :: ws, t, hr, h => by
    simp only [addsW]
    refine addsW_len (fun z hz => hr z (List.mem_cons_of_mem _ hz)) ?_
    rw [stepW_len (by rw [hr r List.mem_cons_self, h])]
    exact h
theorem addW_len {n : Nat} {rs : List RowT} {ws : List Int} (hr : RowsOk n rs) (ne : rs ≠ []) : (addW rs ws).length = n := by
  refine addsW_len hr ?_
  rw [List.length_replicate]
  cases rs with
  | nil => exact absurd rfl ne
  | cons r rs => exact hr r List.mem_cons_self
theorem bars_right_ok {l1 l2 : Nat} (c1 : G.call "fitting" = spFit l1 k) (c2 : G.call "added" = spAdds l2 k) (hl1 : l1 < lv) (hl2 : l2 < lv) (q : spBars lv (k + 1) args h R X) : args.length = 2 ∧ wpSs G b_bars_right (st0 5 args) h (endsOf R) := by
  obtain ⟨h0, x, y, n, rs, ws, rfl, w, ne, q⟩ := q
  refine ⟨rfl, ?_⟩
  unfold b_bars_right
  have ho := plain_isOwn w.px
  have ho2 := plain_isOwn w.py
  rw [q_cons, q_ife]
  simp only [q_ecall, sx0, sx1, sx2, sx3, sx4, sx5, sx6, sx7, sx8, sx9, sx10, sx11, sx12, Nat.reduceAdd, Nat.reduceSub, Nat.reduceLT, Nat.reduceEqDiff, st0, endsOf, varQ_pd ho, varQ_pd ho2, boxS_pd w.px, boxS_pd w.py, c1]
  refine ⟨by omega, x, y, n, rs, ws, rfl, w, ?_⟩
  simp only [q_ecall, sx0, sx1, sx2, sx3, sx4, sx5, sx6, sx7, sx8, sx9, sx10, sx11, sx12, Nat.reduceAdd, Nat.reduceSub, Nat.reduceLT, Nat.reduceEqDiff, st0, endsOf]
  cases e : fitB rs ws with
  | false =>
    rw [e, Bool.false_and] at q
    simp only [q_ecall, sx0, sx1, sx2, sx3, sx4, sx5, sx6, sx7, sx8, sx9, sx10, sx11, sx12, Nat.reduceAdd, Nat.reduceSub, Nat.reduceLT, Nat.reduceEqDiff, st0, endsOf]
    exact q
  | true =>
    rw [e, Bool.true_and] at q
    simp only [q_ecall, sx0, sx1, sx2, sx3, sx4, sx5, sx6, sx7, sx8, sx9, sx10, sx11, sx12, Nat.reduceAdd, Nat.reduceSub, Nat.reduceLT, Nat.reduceEqDiff, st0, endsOf, varQ_pd ho, varQ_pd ho2, boxS_pd w.px, boxS_pd w.py, c2]
    refine ⟨by omega, x, y, n, rs, ws, rfl, w, ne, ?_⟩
    simp only [rowS, q_ecall, sx0, sx1, sx2, sx3, sx4, sx5, sx6, sx7, sx8, sx9, sx10, sx11, sx12, Nat.reduceAdd, Nat.reduceSub, Nat.reduceLT, Nat.reduceEqDiff, st0, endsOf]
    unfold barB at q
    refine cond_split (fun e1 => ?_) fun e1 => ?_
    · rw [e1, Bool.true_and] at q
      rw [q_lc]
      simp only [q_iof, wipeS, q_ecall, sx0, sx1, sx2, sx3, sx4, sx5, sx6, sx7, sx8, sx9, sx10, sx11, sx12, Nat.reduceAdd, Nat.reduceSub, Nat.reduceLT, Nat.reduceEqDiff, st0, endsOf]
      refine it_go (kk := true) (xs := intsV (addW rs ws)) rfl ?_
      have cl := w.cl
      refine lc_map (fun v => match v with
          | .int i => .bl (decide (i = 0))
          | v => v) (by rw [intsV_len, addW_len w.cnt ne]; omega) rfl (fun v hv acc K ha hK => ?_) ?_
      · obtain ⟨i, hi, rfl⟩ := List.mem_map.mp hv
        simp only [wipeS, q_ecall, sx0, sx1, sx2, sx3, sx4, sx5, sx6, sx7, sx8, sx9, sx10, sx11, sx12, Nat.reduceAdd, Nat.reduceSub, Nat.reduceLT, Nat.reduceEqDiff, st0, endsOf]
        exact ⟨ha, hK⟩
      · rw [ints_map (fun i => SV.bl (decide (i = 0))) (addW rs ws) _ fun i => rfl]
        simp only [backS, SV.plain, q_ecall, sx0, sx1, sx2, sx3, sx4, sx5, sx6, sx7, sx8, sx9, sx10, sx11, sx12, Nat.reduceAdd, Nat.reduceSub, Nat.reduceLT, Nat.reduceEqDiff, st0, endsOf]
        refine bi_all ?_
        simp only [q_ecall, sx0, sx1, sx2, sx3, sx4, sx5, sx6, sx7, sx8, sx9, sx10, sx11, sx12, Nat.reduceAdd, Nat.reduceSub, Nat.reduceLT, Nat.reduceEqDiff, st0, endsOf]
        exact q
    · rw [e1, Bool.false_and] at q
      exact q
/-! ### the law's own -/
theorem pd_rows {δ : SSt} {x : SV} {rs : List RowT} (hp : x.plain = true) (hv : vw h x = some (false, rowsV rs)) : pdV δ h x = some (.list (rowsD rs)) := by
  unfold pdV
  rw [view_pd hp, hv]
  simp [pds_rows]
theorem eqv_nil {ds : List PyData} : PyData.eqv (.list ds) (.list []) = decide (ds = []) := by
  cases ds <;> simp [PyData.eqv, PyData.eqvAll]
theorem eq_nil {δ : SSt} {x : SV} {n : Nat} {rs : List RowT} {F : Bool → Prop} (hp : x.plain = true) (hv : vw h x = some (false, rowsV rs)) (hr : RowsOk n rs) (hn : n < sizeLine) (hl : rs.length < sizeLine) (q : F (decide (rs = []))) : cmpS .Eq x (.frz []) δ h F := by
  refine ⟨.list (rowsD rs), .list [], pd_rows hp hv, rfl, okD_shaped (rowsD_ok hr hn hl) (by decide), rfl, ?_⟩
  rw [eqv_nil]
  have e : decide (rowsD rs = []) = decide (rs = []) := by
    rw [decide_eq_decide]
    cases rs <;> simp [rowsD]
  rw [e]
  exact q
theorem eq_tups {δ : SSt} {xs ys : List Int} {F : Bool → Prop} (h1 : xs.length < sizeLine) (h2 : ys.length < sizeLine) (q : F (decide (xs = ys))) : cmpS .Eq (.tup (intsV xs)) (.tup (intsV ys)) δ h F := by
  refine ⟨.tuple (xs.map .int), .tuple (ys.map .int), by simp [pdV, view, vw, pds_ints], by simp [pdV, view, vw, pds_ints], okD_shaped (intsD_ok h1).1 (by decide), okD_shaped (intsD_ok h2).1 (by decide), ?_⟩
  have e : PyData.eqv (.tuple (xs.map .int)) (.tuple (ys.map .int)) = decide (xs = ys) := by
    simp only [PyData.eqv]
    exact eqv_ints
  rw [e]
  exact q
theorem zeros_all {n : Nat} : ∀ {t : List Int}, t.length = n → decide (t = List.replicate n 0) = t.all fun w => decide (w = 0) := by
  induction n with
  | zero => intro t ht; cases t <;> simp_all
  | succ n ih =>
    intro t ht
    cases t with
    | nil => cases ht
    | cons a t =>
      have := ih (t := t) (by simpa using ht)
      rw [List.replicate_succ, List.all_cons, ← this]
      by_cases h1 : a = 0
      · by_cases h2 : t = List.replicate n 0 <;> simp [h1, h2]
      · simp [h1]
/-- (0,) * n -/
theorem mul_zeros {δ : SSt} {n : Nat} {F : SV → Prop} (hn : n ≤ 1000) (q : F (.tup (intsV (List.replicate n 0)))) : binS .Mult (.tup [.int 0]) (.int (n : Int)) δ h F := by
  have hz : (1000 : Nat) ≤ sizeLine := by decide
  refine ⟨true, [.int 0], rfl, rfl, by omega, by omega, by simp; omega, by omega, by simp, ?_⟩
  rw [Int.toNat_natCast, zero_rep]
  exact q
def b_barred : List SS := [.ife (.bool false [(.cmp .Eq (.var 0) (.lst [])), (.not (.call "_law_are_weights" [(.var 1), (.var 0)]))]) [.ret (.cst (.bl false))] [], .asg (.tup [(.nm 2), (.nm 3)]) (.call "_law_adds" [(.var 0), (.var 1)]), .ret (.bool true [(.cmp .Lt (.var 3) (.cst (.int 0))), (.cmp .Eq (.var 2) (.bin .Mult (.tup [(.cst (.int 0))]) (.bi .len [(.var 2)])))])]
theorem barred_ok {l1 l2 : Nat} (c1 : G.call "_law_are_weights" = spAreW l1 k) (c2 : G.call "_law_adds" = spAdds l2 k) (hl1 : l1 < lv) (hl2 : l2 < lv) (q : spBars lv (k + 1) args h R X) : args.length = 2 ∧ wpSs G b_barred (st0 4 args) h (endsOf R) := by
  obtain ⟨h0, x, y, n, rs, ws, rfl, w, ne, q⟩ := q
  refine ⟨rfl, ?_⟩
  unfold b_barred
  have ho := plain_isOwn w.px
  have ho2 := plain_isOwn w.py
  rw [q_cons, q_ife]
  simp only [q_ecall, sx0, sx1, sx2, sx3, sx4, sx5, sx6, sx7, sx8, sx9, sx10, sx11, sx12, Nat.reduceAdd, Nat.reduceSub, Nat.reduceLT, Nat.reduceEqDiff, st0, endsOf, varQ_pd ho, varQ_pd ho2, opd_pd w.px]
  refine eq_nil w.px w.vx w.cnt w.cl w.rl ?_
  rw [decide_eq_false ne]
  simp only [q_ecall, sx0, sx1, sx2, sx3, sx4, sx5, sx6, sx7, sx8, sx9, sx10, sx11, sx12, Nat.reduceAdd, Nat.reduceSub, Nat.reduceLT, Nat.reduceEqDiff, st0, endsOf, varQ_pd ho, varQ_pd ho2, boxS_pd w.px, boxS_pd w.py, c1]
  refine ⟨by omega, x, y, n, rs, ws, rfl, w, ?_⟩
  simp only [q_ecall, sx0, sx1, sx2, sx3, sx4, sx5, sx6, sx7, sx8, sx9, sx10, sx11, sx12, Nat.reduceAdd, Nat.reduceSub, Nat.reduceLT, Nat.reduceEqDiff, st0, endsOf]
  cases e : fitB rs ws with
  | false =>
    rw [e, Bool.false_and] at q
    simp only [q_ecall, sx0, sx1, sx2, sx3, sx4, sx5, sx6, sx7, sx8, sx9, sx10, sx11, sx12, Nat.reduceAdd, Nat.reduceSub, Nat.reduceLT, Nat.reduceEqDiff, st0, endsOf]
    exact q
  | true =>
    rw [e, Bool.true_and] at q
    simp only [q_ecall, sx0, sx1, sx2, sx3, sx4, sx5, sx6, sx7, sx8, sx9, sx10, sx11, sx12, Nat.reduceAdd, Nat.reduceSub, Nat.reduceLT, Nat.reduceEqDiff, st0, endsOf, varQ_pd ho, varQ_pd ho2, boxS_pd w.px, boxS_pd w.py, c2]
    refine ⟨by omega, x, y, n, rs, ws, rfl, w, ne, ?_⟩
    simp only [rowS, q_ecall, sx0, sx1, sx2, sx3, sx4, sx5, sx6, sx7, sx8, sx9, sx10, sx11, sx12, Nat.reduceAdd, Nat.reduceSub, Nat.reduceLT, Nat.reduceEqDiff, st0, endsOf]
    unfold barB at q
    have al := addW_len (ws := ws) w.cnt ne
    refine cond_split (fun e1 => ?_) fun e1 => ?_
    · rw [e1, Bool.true_and] at q
      rw [intsV_len, al]
      refine mul_zeros w.ck ?_
      have cl := w.cl
      refine eq_tups (by omega) (by rw [List.length_replicate]; exact cl) ?_
      rw [zeros_all al]
      exact q
    · rw [e1, Bool.false_and] at q
      exact q
def spPaper (lv k : Nat) : SSp := fun args h R X => lv ≤ k ∧ ∃ x y n rs ws ns b many, args = [x, rowS ns b, .tup [.int many, y]] ∧ RW h x y n rs ws ∧ rs ≠ [] ∧ ns.length < sizeLine ∧ SmL 40000000 ns ∧ Sm 40000000 b ∧ Sm 40000000 many ∧ R (.bl (decide (1 ≤ many) && (fitB rs ws && showB rs ns b many ws))) h
def b_paper_right : List SS := [.asg (.tup [(.nm 3), (.nm 4)]) (.var 2), .ife (.bool false [(.cmp .Lt (.var 3) (.cst (.int 1))), (.not (.call "fitting" [(.var 0), (.var 4)]))]) [.ret (.cst (.bl false))] [], .asg (.tup [(.nm 5), (.nm 6)]) (.call "added" [(.var 0), (.var 4)]), .ret (.bool true [(.cmp .Eq (.var 5) (.bi .tuple [(.lc [("one", 7)] (.nm 7) (.of (.ix (.var 1) (.cst (.int 0)))) [] (.bin .Mult (.var 3) (.var 7)))])), (.cmp .LtE (.var 6) (.bin .Mult (.var 3) (.ix (.var 1) (.cst (.int 1)))))])]
theorem paper_right_ok {l1 l2 : Nat} (c1 : G.call "fitting" = spFit l1 k) (c2 : G.call "added" = spAdds l2 k) (hl1 : l1 < lv) (hl2 : l2 < lv) (q : spPaper lv (k + 1) args h R X) : args.length = 3 ∧ wpSs G b_paper_right (st0 8 args) h (endsOf R) := by
  obtain ⟨h0, x, y, n, rs, ws, ns, b, many, rfl, w, ne, nl, sn, sb, sm, q⟩ := q
  refine ⟨rfl, ?_⟩
  unfold b_paper_right rowS
  have ho := plain_isOwn w.px
  have ho2 := plain_isOwn w.py
  simp only [q_ecall, sx0, sx1, sx2, sx3, sx4, sx5, sx6, sx7, sx8, sx9, sx10, sx11, sx12, Nat.reduceAdd, Nat.reduceSub, Nat.reduceLT, Nat.reduceEqDiff, st0, endsOf]
  rw [q_ife]
  simp only [q_ecall, sx0, sx1, sx2, sx3, sx4, sx5, sx6, sx7, sx8, sx9, sx10, sx11, sx12, Nat.reduceAdd, Nat.reduceSub, Nat.reduceLT, Nat.reduceEqDiff, st0, endsOf]
  refine cond_split (fun e => ?_) fun e => ?_
  · have e : ¬ 1 ≤ many := by have := of_decide_eq_true e; omega
    rw [decide_eq_false e, Bool.false_and] at q
    exact q
  have e : 1 ≤ many := by have := of_decide_eq_false e; omega
  rw [decide_eq_true e, Bool.true_and] at q
  simp only [q_ecall, sx0, sx1, sx2, sx3, sx4, sx5, sx6, sx7, sx8, sx9, sx10, sx11, sx12, Nat.reduceAdd, Nat.reduceSub, Nat.reduceLT, Nat.reduceEqDiff, st0, endsOf, varQ_pd ho, varQ_pd ho2, boxS_pd w.px, boxS_pd w.py, c1]
  refine ⟨by omega, x, y, n, rs, ws, rfl, w, ?_⟩
  simp only [q_ecall, sx0, sx1, sx2, sx3, sx4, sx5, sx6, sx7, sx8, sx9, sx10, sx11, sx12, Nat.reduceAdd, Nat.reduceSub, Nat.reduceLT, Nat.reduceEqDiff, st0, endsOf]
  cases e2 : fitB rs ws with
  | false =>
    rw [e2, Bool.false_and] at q
    simp only [q_ecall, sx0, sx1, sx2, sx3, sx4, sx5, sx6, sx7, sx8, sx9, sx10, sx11, sx12, Nat.reduceAdd, Nat.reduceSub, Nat.reduceLT, Nat.reduceEqDiff, st0, endsOf]
    exact q
  | true =>
    rw [e2, Bool.true_and] at q
    simp only [q_ecall, sx0, sx1, sx2, sx3, sx4, sx5, sx6, sx7, sx8, sx9, sx10, sx11, sx12, Nat.reduceAdd, Nat.reduceSub, Nat.reduceLT, Nat.reduceEqDiff, st0, endsOf, varQ_pd ho, varQ_pd ho2, boxS_pd w.px, boxS_pd w.py, c2]
    refine ⟨by omega, x, y, n, rs, ws, rfl, w, ne, ?_⟩
    simp only [rowS, q_ecall, sx0, sx1, sx2, sx3, sx4, sx5, sx6, sx7, sx8, sx9, sx10, sx11, sx12, Nat.reduceAdd, Nat.reduceSub, Nat.reduceLT, Nat.reduceEqDiff, st0, endsOf]
    have al := addW_len (ws := ws) w.cnt ne
    rw [q_lc]
    simp only [q_iof, wipeS, q_ecall, sx0, sx1, sx2, sx3, sx4, sx5, sx6, sx7, sx8, sx9, sx10, sx11, sx12, Nat.reduceAdd, Nat.reduceSub, Nat.reduceLT, Nat.reduceEqDiff, st0, endsOf]
    refine it_go (kk := true) (xs := intsV ns) rfl ?_
    refine lc_map (fun v => match v with
        | .int i => .int (many * i)
        | v => v) (by rw [intsV_len]; omega) rfl (fun v hv acc K ha hK => ?_) ?_
    · obtain ⟨i, hi, rfl⟩ := List.mem_map.mp hv
      simp only [wipeS, q_ecall, sx0, sx1, sx2, sx3, sx4, sx5, sx6, sx7, sx8, sx9, sx10, sx11, sx12, Nat.reduceAdd, Nat.reduceSub, Nat.reduceLT, Nat.reduceEqDiff, st0, endsOf]
      exact ⟨sm.mulOk (sn i hi) (by decide), ha, hK⟩
    · rw [ints_map (fun i => SV.int (many * i)) ns _ fun i => rfl]
      simp only [backS, SV.plain, q_ecall, sx0, sx1, sx2, sx3, sx4, sx5, sx6, sx7, sx8, sx9, sx10, sx11, sx12, Nat.reduceAdd, Nat.reduceSub, Nat.reduceLT, Nat.reduceEqDiff, st0, endsOf]
      have em : ns.map (fun i => SV.int (many * i)) = intsV (ns.map (many * ·)) := by unfold intsV; rw [List.map_map]; rfl
      rw [em]
      have cl := w.cl
      refine eq_tups (by omega) (by simpa using nl) ?_
      unfold showB at q
      refine cond_split (fun e1 => ?_) fun e1 => ?_
      · rw [e1, Bool.true_and] at q
        exact ⟨sm.mulOk sb (by decide), q⟩
      · rw [e1, Bool.false_and] at q
        exact q
end
end SL
/-! F10: drawn weights and rows; papers by the law's own look. -/
namespace SL
open PySem PySem.Spec L2
section
variable {G : Gm} {lv k : Nat} {args : List SV} {h : SHp} {R : SV → SHp → Prop} {X : SX → SHp → Prop}
def shownB (rs : List RowT) (ns : List Int) (b many : Int) (ws : List Int) : Bool := decide (1 ≤ many) && (fitB rs ws && (if rs = [] then decide (0 ≤ b) && ns.all fun w => decide (w = 0) else showB rs ns b many ws))
def spShown (lv k : Nat) : SSp := fun args h R X => lv ≤ k ∧ ∃ x y n rs ws ns b many, args = [x, rowS ns b, .tup [.int many, y]] ∧ RW h x y n rs ws ∧ ns.length ≤ 1000 ∧ SmL 40000000 ns ∧ Sm 40000000 b ∧ Sm 40000000 many ∧ R (.bl (shownB rs ns b many ws)) h
def b_shown : List SS := [.ife (.bool false [(.not (.isi (.var 2) "tuple")), (.cmp .NotEq (.bi .len [(.var 2)]) (.cst (.int 2))), (.not (.call "_law_num" [(.ix (.var 2) (.cst (.int 0)))])), (.cmp .Lt (.ix (.var 2) (.cst (.int 0))) (.cst (.int 1)))]) [.ret (.cst (.bl false))] [], .ife (.not (.call "_law_are_weights" [(.ix (.var 2) (.cst (.int 1))), (.var 0)])) [.ret (.cst (.bl false))] [], .ife (.cmp .Eq (.var 0) (.lst [])) [.ret (.bool true [(.cmp .GtE (.ix (.var 1) (.cst (.int 1))) (.cst (.int 0))), (.cmp .Eq (.ix (.var 1) (.cst (.int 0))) (.bin .Mult (.tup [(.cst (.int 0))]) (.bi .len [(.ix (.var 1) (.cst (.int 0)))])))])] [], .asg (.tup [(.nm 3), (.nm 4)]) (.call "_law_adds" [(.var 0), (.ix (.var 2) (.cst (.int 1)))]), .ret (.bool true [(.cmp .Eq (.var 3) (.bi .tuple [(.lc [("_law_one", 5)] (.nm 5) (.of (.ix (.var 1) (.cst (.int 0)))) [] (.bin .Mult (.ix (.var 2) (.cst (.int 0))) (.var 5)))])), (.cmp .LtE (.var 4) (.bin .Mult (.ix (.var 2) (.cst (.int 0))) (.ix (.var 1) (.cst (.int 1)))))])]
theorem shown_ok {l1 l2 l3 : Nat} (c1 : G.call "_law_are_weights" = spAreW l1 k) (c2 : G.call "_law_adds" = spAdds l2 k) (c3 : G.call "_law_num" = spNumI l3 k) (hl1 : l1 < lv) (hl2 : l2 < lv) (hl3 : l3 < lv) (q : spShown lv (k + 1) args h R X) : args.length = 3 ∧ wpSs G b_shown (st0 6 args) h (endsOf R) := by
  obtain ⟨h0, x, y, n, rs, ws, ns, b, many, rfl, w, nl, sn, sb, sm, q⟩ := q
  refine ⟨rfl, ?_⟩
  unfold b_shown rowS
  have ho := plain_isOwn w.px
  have ho2 := plain_isOwn w.py
  have e22 : decide (((2 : Nat) : Int) ≠ 2) = false := by decide
  rw [q_cons, q_ife]
  simp only [q_ecall, sx0, sx1, sx2, sx3, sx4, sx5, sx6, sx7, sx8, sx9, sx10, sx11, sx12, Nat.reduceAdd, Nat.reduceSub, Nat.reduceLT, Nat.reduceEqDiff, st0, endsOf, e22]
  simp only [c3]
  refine ⟨by omega, many, rfl, ?_⟩
  simp only [q_ecall, sx0, sx1, sx2, sx3, sx4, sx5, sx6, sx7, sx8, sx9, sx10, sx11, sx12, Nat.reduceAdd, Nat.reduceSub, Nat.reduceLT, Nat.reduceEqDiff, st0, endsOf]
  unfold shownB at q
  refine cond_split (fun e => ?_) fun e => ?_
  · have e : ¬ 1 ≤ many := by have := of_decide_eq_true e; omega
    rw [decide_eq_false e, Bool.false_and] at q
    exact q
  have e : 1 ≤ many := by have := of_decide_eq_false e; omega
  rw [decide_eq_true e, Bool.true_and] at q
  rw [q_ife]
  simp only [q_ecall, sx0, sx1, sx2, sx3, sx4, sx5, sx6, sx7, sx8, sx9, sx10, sx11, sx12, Nat.reduceAdd, Nat.reduceSub, Nat.reduceLT, Nat.reduceEqDiff, st0, endsOf, varQ_pd ho, boxS_pd w.px, boxS_pd w.py, c1]
  refine ⟨by omega, x, y, n, rs, ws, rfl, w, ?_⟩
  simp only [q_ecall, sx0, sx1, sx2, sx3, sx4, sx5, sx6, sx7, sx8, sx9, sx10, sx11, sx12, Nat.reduceAdd, Nat.reduceSub, Nat.reduceLT, Nat.reduceEqDiff, st0, endsOf]
  cases e2 : fitB rs ws with
  | false =>
    rw [e2, Bool.false_and] at q
    simp only [q_ecall, sx0, sx1, sx2, sx3, sx4, sx5, sx6, sx7, sx8, sx9, sx10, sx11, sx12, Nat.reduceAdd, Nat.reduceSub, Nat.reduceLT, Nat.reduceEqDiff, st0, endsOf]
    exact q
  | true =>
    rw [e2, Bool.true_and] at q
    simp only [q_ecall, sx0, sx1, sx2, sx3, sx4, sx5, sx6, sx7, sx8, sx9, sx10, sx11, sx12, Nat.reduceAdd, Nat.reduceSub, Nat.reduceLT, Nat.reduceEqDiff, st0, endsOf]
    rw [q_ife]
    simp only [q_ecall, sx0, sx1, sx2, sx3, sx4, sx5, sx6, sx7, sx8, sx9, sx10, sx11, sx12, Nat.reduceAdd, Nat.reduceSub, Nat.reduceLT, Nat.reduceEqDiff, st0, endsOf, varQ_pd ho, opd_pd w.px]
    refine eq_nil w.px w.vx w.cnt w.cl w.rl ?_
    have hz : (1000 : Nat) < sizeLine := by decide
    by_cases er : rs = []
    · rw [if_pos er] at q
      rw [decide_eq_true er]
      simp only [q_ecall, sx0, sx1, sx2, sx3, sx4, sx5, sx6, sx7, sx8, sx9, sx10, sx11, sx12, Nat.reduceAdd, Nat.reduceSub, Nat.reduceLT, Nat.reduceEqDiff, st0, endsOf]
      refine cond_split (fun e1 => ?_) fun e1 => ?_
      · rw [e1, Bool.true_and] at q
        rw [intsV_len]
        refine mul_zeros nl ?_
        refine eq_tups (by omega) (by rw [List.length_replicate]; omega) ?_
        rw [zeros_all rfl]
        exact q
      · rw [e1, Bool.false_and] at q
        exact q
    · rw [if_neg er] at q
      rw [decide_eq_false er]
      simp only [q_ecall, sx0, sx1, sx2, sx3, sx4, sx5, sx6, sx7, sx8, sx9, sx10, sx11, sx12, Nat.reduceAdd, Nat.reduceSub, Nat.reduceLT, Nat.reduceEqDiff, st0, endsOf, varQ_pd ho, boxS_pd w.px, boxS_pd w.py, c2]
      refine ⟨by omega, x, y, n, rs, ws, rfl, w, er, ?_⟩
      simp only [rowS, q_ecall, sx0, sx1, sx2, sx3, sx4, sx5, sx6, sx7, sx8, sx9, sx10, sx11, sx12, Nat.reduceAdd, Nat.reduceSub, Nat.reduceLT, Nat.reduceEqDiff, st0, endsOf]
      have al := addW_len (ws := ws) w.cnt er
      rw [q_lc]
      simp only [q_iof, wipeS, q_ecall, sx0, sx1, sx2, sx3, sx4, sx5, sx6, sx7, sx8, sx9, sx10, sx11, sx12, Nat.reduceAdd, Nat.reduceSub, Nat.reduceLT, Nat.reduceEqDiff, st0, endsOf]
      refine it_go (kk := true) (xs := intsV ns) rfl ?_
      refine lc_map (fun v => match v with
          | .int i => .int (many * i)
          | v => v) (by rw [intsV_len]; omega) rfl (fun v hv acc K ha hK => ?_) ?_
      · obtain ⟨i, hi, rfl⟩ := List.mem_map.mp hv
        simp only [wipeS, q_ecall, sx0, sx1, sx2, sx3, sx4, sx5, sx6, sx7, sx8, sx9, sx10, sx11, sx12, Nat.reduceAdd, Nat.reduceSub, Nat.reduceLT, Nat.reduceEqDiff, st0, endsOf]
        exact ⟨sm.mulOk (sn i hi) (by decide), ha, hK⟩
      · rw [ints_map (fun i => SV.int (many * i)) ns _ fun i => rfl]
        simp only [backS, SV.plain, q_ecall, sx0, sx1, sx2, sx3, sx4, sx5, sx6, sx7, sx8, sx9, sx10, sx11, sx12, Nat.reduceAdd, Nat.reduceSub, Nat.reduceLT, Nat.reduceEqDiff, st0, endsOf]
        have em : ns.map (fun i => SV.int (many * i)) = intsV (ns.map (many * ·)) := by unfold intsV; rw [List.map_map]; rfl
        rw [em]
        have cl := w.cl
        refine eq_tups (by omega) (by rw [List.length_map]; omega) ?_
        unfold showB at q
        refine cond_split (fun e1 => ?_) fun e1 => ?_
        · rw [e1, Bool.true_and] at q
          exact ⟨sm.mulOk sb (by decide), q⟩
        · rw [e1, Bool.false_and] at q
          exact q
/-! ### drawn weights -/
def Near (far : Int) (ws : List Int) : Prop := ∀ w ∈ ws, -far ≤ w ∧ w ≤ far
theorem ints_near {far : Int} : ∀ {acc : List SV}, (∀ e ∈ acc, ∃ i, e = SV.int i ∧ -far ≤ i ∧ i ≤ far) → ∃ ws, acc = intsV ws ∧ Near far ws
  | [], _ => ⟨[], rfl, fun m hm => by cases hm⟩
  | a :: acc, h => by
    obtain ⟨ws, rfl, hw⟩ := ints_near fun e he => h e (List.mem_cons_of_mem _ he)
    obtain ⟨i, rfl, hi⟩ := h a List.mem_cons_self
    exact ⟨i :: ws, rfl, fun m hm => by
      rcases List.mem_cons.mp hm with rfl | hm
      · exact hi
      · exact hw m hm⟩
theorem Near.sm {far : Int} {ws : List Int} {n : Nat} (h : Near far ws) (hf : far < 2 ^ 60) (hn : 64 ≤ n) : SmL n ws := fun m hm => by
  have := h m hm
  exact Sm.small (by omega) hn
theorem Near.set {far : Int} {ws : List Int} (h : Near far ws) (hf : 0 ≤ far) (i : Nat) : Near far (ws.set i 0) := fun m hm => by
  rcases List.mem_or_eq_of_mem_set hm with hm | rfl
  · exact h m hm
  · omega
def spWeights (lv k : Nat) : SSp := fun args h R X => lv ≤ k ∧ ∃ (p : Addr) (b : List SV) (c far : Int), args = [.ref p, .int c, .int far] ∧ h p = some (.lst b) ∧ Drawn b ∧ 0 < c ∧ c ≤ 1000 ∧ 1 ≤ far ∧ far < 2 ^ 60 ∧ ∀ (ws : List Int) (b' : List SV), (ws.length : Int) = c → Near far ws → Drawn b' → R (.tup (intsV ws)) (h.set p (.lst b'))
def b_weights : List SS := [.asg (.nm 3) (.call "_law_take" [(.var 0), (.cst (.int 5))]), .ife (.cmp .Eq (.var 3) (.cst (.int 0))) [.asg (.nm 5) (.call "_law_take" [(.var 0), (.var 1)]), .asg (.nm 6) (.ix (.lst [(.cst (.int 1)), (.neg (.cst (.int 1)))]) (.call "_law_take" [(.var 0), (.cst (.int 2))])), .ret (.bi .tuple [(.lc [("_law_k", 7)] (.nm 7) (.rng (.var 1)) [] (.bin .Mult (.var 6) (.bi .int [(.cmp .Eq (.var 7) (.var 5))])))])] [], .asg (.nm 4) (.lc [("_law_k", 7)] (.nm 7) (.rng (.var 1)) [] (.call "_law_near" [(.var 0), (.var 2)])), .ife (.bool true [(.cmp .Eq (.var 3) (.cst (.int 1))), (.cmp .Gt (.var 1) (.cst (.int 1)))]) [.asub (.var 4) (.call "_law_take" [(.var 0), (.var 1)]) (.cst (.int 0))] [], .ret (.bi .tuple [(.var 4)])]
theorem set_map {ws : List Int} {i : Nat} {v : Int} : (intsV ws).set i (.int v) = intsV (ws.set i v) := by
  unfold intsV
  rw [List.map_set]
theorem ixN_ok {n : Nat} {r : Int} (h1 : 0 ≤ r) (h2 : r < n) : ixN n r = some r.toNat := by
  unfold ixN
  rw [if_pos h1, if_pos h2]
theorem weights_ok {l1 l2 : Nat} (c1 : G.call "_law_take" = spTake l1 k) (c2 : G.call "_law_near" = spNear l2 k) (hl1 : l1 < lv) (hl2 : l2 < lv) (q : spWeights lv (k + 1) args h R X) : args.length = 3 ∧ wpSs G b_weights (st0 8 args) h (endsOf R) := by
  obtain ⟨h0, p, b, c, far, rfl, hp, hb, c0, cm, f1, f2, q⟩ := q
  refine ⟨rfl, ?_⟩
  unfold b_weights
  have d2 : G.nox.call "_law_near" = spNear l2 k := c2
  have hz : (1000 : Nat) ≤ sizeLine := by decide
  rw [← set_id hp]
  simp only [q_ecall, sx0, sx1, sx2, sx3, sx4, sx5, sx6, sx7, sx8, sx9, sx10, sx11, sx12, Nat.reduceAdd, Nat.reduceSub, Nat.reduceLT, Nat.reduceEqDiff, st0, endsOf, c1]
  refine take_go (by omega) hb (by decide) (by decide) fun way b1 g1 g2 hb1 => ?_
  simp only [q_ecall, sx0, sx1, sx2, sx3, sx4, sx5, sx6, sx7, sx8, sx9, sx10, sx11, sx12, Nat.reduceAdd, Nat.reduceSub, Nat.reduceLT, Nat.reduceEqDiff, st0, endsOf]
  refine st_rule (fun δ h' => δ = [some (.ref p), some (.int c), some (.int far), some (.int way), none, none, none, none] ∧ h' = h.set p (.lst b1)) (fun K hK => ?_) ?_
  · rw [q_ife]
    simp only [q_ecall, sx0, sx1, sx2, sx3, sx4, sx5, sx6, sx7, sx8, sx9, sx10, sx11, sx12, Nat.reduceAdd, Nat.reduceSub, Nat.reduceLT, Nat.reduceEqDiff, st0, endsOf]
    refine cond_split (fun e => ?_) fun e => hK _ _ ⟨rfl, rfl⟩
    simp only [c1]
    refine take_go (by omega) hb1 c0 (by omega) fun at_ b2 g3 g4 hb2 => ?_
    simp only [q_ecall, sx0, sx1, sx2, sx3, sx4, sx5, sx6, sx7, sx8, sx9, sx10, sx11, sx12, Nat.reduceAdd, Nat.reduceSub, Nat.reduceLT, Nat.reduceEqDiff, st0, endsOf, c1]
    refine take_go (by omega) hb2 (by decide) (by decide) fun r b3 g5 g6 hb3 => ?_
    obtain ⟨sg, es, s1, s2⟩ : ∃ sg : Int, atI [SV.int 1, .int (-1)] r = some (.int sg) ∧ -1 ≤ sg ∧ sg ≤ 1 := by
      have : r = 0 ∨ r = 1 := by omega
      rcases this with rfl | rfl
      · exact ⟨_, rfl, by decide, by decide⟩
      · exact ⟨_, rfl, by decide, by decide⟩
    simp only [q_ecall, sx0, sx1, sx2, sx3, sx4, sx5, sx6, sx7, sx8, sx9, sx10, sx11, sx12, Nat.reduceAdd, Nat.reduceSub, Nat.reduceLT, Nat.reduceEqDiff, st0, endsOf, es]
    rw [q_lc]
    simp only [wipeS, q_ecall, sx0, sx1, sx2, sx3, sx4, sx5, sx6, sx7, sx8, sx9, sx10, sx11, sx12, Nat.reduceAdd, Nat.reduceSub, Nat.reduceLT, Nat.reduceEqDiff, st0, endsOf]
    refine ⟨by omega, by omega, ?_⟩
    refine lc_map (fun v => match v with
        | .int i => .int (sg * (if decide (i = at_) then 1 else 0))
        | v => v) (by rw [rangeS_length]; omega) trivial (fun v hv acc K2 ha hK2 => ?_) ?_
    · obtain ⟨j, hj⟩ := List.getElem?_of_mem hv
      obtain ⟨_, rfl⟩ := rangeS_get hj
      simp only [wipeS, q_ecall, sx0, sx1, sx2, sx3, sx4, sx5, sx6, sx7, sx8, sx9, sx10, sx11, sx12, Nat.reduceAdd, Nat.reduceSub, Nat.reduceLT, Nat.reduceEqDiff, st0, endsOf]
      refine .inr ⟨_, rfl, ?_⟩
      simp only [wipeS, q_ecall, sx0, sx1, sx2, sx3, sx4, sx5, sx6, sx7, sx8, sx9, sx10, sx11, sx12, Nat.reduceAdd, Nat.reduceSub, Nat.reduceLT, Nat.reduceEqDiff, st0, endsOf]
      refine ⟨cmulR ?_ ?_, ha, hK2⟩ <;> split <;> omega
    · obtain ⟨ws, ew, hw⟩ := ints_near (far := far) (acc := (rangeS 0 c.toNat).map fun v => match v with
        | .int i => SV.int (sg * (if decide (i = at_) then 1 else 0))
        | v => v) fun e he => by
          obtain ⟨v, hv, rfl⟩ := List.mem_map.mp he
          obtain ⟨j, hj⟩ := List.getElem?_of_mem hv
          obtain ⟨_, rfl⟩ := rangeS_get hj
          refine ⟨_, rfl, ?_, ?_⟩ <;> split <;> omega
      have el : (ws.length : Int) = c := by
        have := congrArg List.length ew
        rw [List.length_map, rangeS_length, intsV_len] at this
        omega
      rw [ew]
      exact q ws b3 el hw hb3
  · rintro _ _ ⟨rfl, rfl⟩
    simp only [q_ecall, sx0, sx1, sx2, sx3, sx4, sx5, sx6, sx7, sx8, sx9, sx10, sx11, sx12, Nat.reduceAdd, Nat.reduceSub, Nat.reduceLT, Nat.reduceEqDiff, st0, endsOf]
    rw [q_lc]
    simp only [wipeS, q_ecall, sx0, sx1, sx2, sx3, sx4, sx5, sx6, sx7, sx8, sx9, sx10, sx11, sx12, Nat.reduceAdd, Nat.reduceSub, Nat.reduceLT, Nat.reduceEqDiff, st0, endsOf]
    refine ⟨by omega, by omega, ?_⟩
    refine lc_box (fun e => ∃ i, e = SV.int i ∧ -far ≤ i ∧ i ≤ far) hb1 (by rw [rangeS_length]; omega) (fun _ => trivial) (fun y hy b hb acc K3 ha hK3 => ?_) fun acc b2 hl ha hb2 => ?_
    · simp only [wipeS, q_ecall, sx0, sx1, sx2, sx3, sx4, sx5, sx6, sx7, sx8, sx9, sx10, sx11, sx12, Nat.reduceAdd, Nat.reduceSub, Nat.reduceLT, Nat.reduceEqDiff, st0, endsOf, d2]
      refine near_go (by omega) hb (by omega) (by omega) fun r b' f1 f2 hb' => ?_
      simp only [wipeS, q_ecall, sx0, sx1, sx2, sx3, sx4, sx5, sx6, sx7, sx8, sx9, sx10, sx11, sx12, Nat.reduceAdd, Nat.reduceSub, Nat.reduceLT, Nat.reduceEqDiff, st0, endsOf]
      exact ⟨ha, hK3 _ _ ⟨_, rfl, f1, f2⟩ hb'⟩
    · obtain ⟨ws, rfl, hw⟩ := ints_near ha
      rw [rangeS_length, intsV_len] at hl
      simp only [backS, SV.plain, q_ecall, sx0, sx1, sx2, sx3, sx4, sx5, sx6, sx7, sx8, sx9, sx10, sx11, sx12, Nat.reduceAdd, Nat.reduceSub, Nat.reduceLT, Nat.reduceEqDiff, st0, endsOf]
      refine st_rule (fun δ h' => ∃ (ws : List Int) (b : List SV) (o : Option SV), δ = [some (.ref p), some (.int c), some (.int far), some (.int way), some (.own (intsV ws)), none, none, o] ∧ h' = h.set p (.lst b) ∧ (ws.length : Int) = c ∧ Near far ws ∧ Drawn b) (fun K hK => ?_) ?_
      · have now : K [some (.ref p), some (.int c), some (.int far), some (.int way), some (.own (intsV ws)), none, none, none] (h.set p (.lst b2)) := hK _ _ ⟨ws, b2, _, rfl, rfl, by omega, hw, hb2⟩
        rw [q_ife]
        simp only [q_ecall, sx0, sx1, sx2, sx3, sx4, sx5, sx6, sx7, sx8, sx9, sx10, sx11, sx12, Nat.reduceAdd, Nat.reduceSub, Nat.reduceLT, Nat.reduceEqDiff, st0, endsOf]
        refine cond_split (fun e => ?_) fun e => now
        refine cond_split (fun e2 => ?_) fun e2 => now
        simp only [c1]
        refine take_go (by omega) hb2 c0 (by omega) fun r b3 g3 g4 hb3 => ?_
        simp only [q_ecall, sx0, sx1, sx2, sx3, sx4, sx5, sx6, sx7, sx8, sx9, sx10, sx11, sx12, Nat.reduceAdd, Nat.reduceSub, Nat.reduceLT, Nat.reduceEqDiff, st0, endsOf, intsV_len, ixN_ok g3 (show r < ((ws.length : Nat) : Int) by omega), set_map]
        exact hK _ _ ⟨_, b3, _, rfl, rfl, by rw [List.length_set]; omega, hw.set (by omega) _, hb3⟩
      · rintro _ _ ⟨ws, b, o, rfl, rfl, el, hw, hb⟩
        simp only [q_ecall, sx0, sx1, sx2, sx3, sx4, sx5, sx6, sx7, sx8, sx9, sx10, sx11, sx12, Nat.reduceAdd, Nat.reduceSub, Nat.reduceLT, Nat.reduceEqDiff, st0, endsOf]
        exact q ws b el hw hb
def spRow (lv k : Nat) : SSp := fun args h R X => lv ≤ k ∧ ∃ (p : Addr) (b : List SV) (c far : Int), args = [.ref p, .int c, .int far] ∧ h p = some (.lst b) ∧ Drawn b ∧ 0 < c ∧ c ≤ 1000 ∧ 1 ≤ far ∧ far < 2 ^ 50 ∧ ∀ (ws : List Int) (m : Int) (b' : List SV), (ws.length : Int) = c → Near far ws → -(3 * far) ≤ m → m ≤ 3 * far → Drawn b' → R (rowS ws m) (h.set p (.lst b'))
def b_row : List SS := [.ret (.tup [(.call "_law_weights" [(.var 0), (.var 1), (.var 2)]), (.call "_law_near" [(.var 0), (.bin .Mult (.cst (.int 3)) (.var 2))])])]
theorem row_ok' {l1 l2 : Nat} (c1 : G.call "_law_weights" = spWeights l1 k) (c2 : G.call "_law_near" = spNear l2 k) (hl1 : l1 < lv) (hl2 : l2 < lv) (q : spRow lv (k + 1) args h R X) : args.length = 3 ∧ wpSs G b_row (st0 3 args) h (endsOf R) := by
  obtain ⟨h0, p, b, c, far, rfl, hp, hb, d0, cm, f1, f2, q⟩ := q
  refine ⟨rfl, ?_⟩
  unfold b_row
  simp only [q_ecall, sx0, sx1, sx2, sx3, sx4, sx5, sx6, sx7, sx8, sx9, sx10, sx11, sx12, Nat.reduceAdd, Nat.reduceSub, Nat.reduceLT, Nat.reduceEqDiff, st0, endsOf, c1]
  refine ⟨by omega, p, b, c, far, rfl, hp, hb, d0, cm, f1, by omega, fun ws b1 el hw hb1 => ?_⟩
  simp only [q_ecall, sx0, sx1, sx2, sx3, sx4, sx5, sx6, sx7, sx8, sx9, sx10, sx11, sx12, Nat.reduceAdd, Nat.reduceSub, Nat.reduceLT, Nat.reduceEqDiff, st0, endsOf, c2]
  refine ⟨cmulR (by omega) (by omega), near_go (by omega) hb1 (by omega) (by omega) fun m b2 g1 g2 hb2 => ?_⟩
  simp only [q_ecall, sx0, sx1, sx2, sx3, sx4, sx5, sx6, sx7, sx8, sx9, sx10, sx11, sx12, Nat.reduceAdd, Nat.reduceSub, Nat.reduceLT, Nat.reduceEqDiff, st0, endsOf]
  exact q ws m b2 el hw g1 g2 hb2
theorem row_go {p : Addr} {b : List SV} {c far : Int} (hk : lv ≤ k) (hb : Drawn b) (c0 : 0 < c) (c1 : c ≤ 1000) (f1 : 1 ≤ far) (f2 : far < 2 ^ 50) (q : ∀ (ws : List Int) (m : Int) (b' : List SV), (ws.length : Int) = c → Near far ws → -(3 * far) ≤ m → m ≤ 3 * far → Drawn b' → R (rowS ws m) (h.set p (.lst b'))) : spRow lv k [.ref p, .int c, .int far] (h.set p (.lst b)) R X :=
  ⟨hk, p, b, c, far, rfl, SHp.set_same, hb, c0, c1, f1, f2, fun ws m b' e1 e2 e3 e4 e5 => by rw [q_hss]; exact q ws m b' e1 e2 e3 e4 e5⟩
def spSomeW (lv k : Nat) : SSp := fun args h R X => lv ≤ k ∧ ∃ (p : Addr) (b : List SV) (m : Int), args = [.ref p, .int m] ∧ h p = some (.lst b) ∧ Drawn b ∧ 0 < m ∧ m ≤ 1000 ∧ ∀ (ws : List Int) (b' : List SV), ws.length ≤ 1001 → Near 9 ws → Drawn b' → R (.own (intsV ws)) (h.set p (.lst b'))
def b_someW : List SS := [.asg (.nm 2) (.lc [("_law_k", 4)] (.nm 4) (.rng (.var 1)) [] (.ix (.lst [(.cst (.int 0)), (.cst (.int 1)), (.call "_law_take" [(.var 0), (.cst (.int 9))]), (.cst (.int 1))]) (.call "_law_take" [(.var 0), (.cst (.int 4))]))), .asg (.nm 3) (.call "_law_take" [(.var 0), (.cst (.int 8))]), .ife (.cmp .Eq (.var 3) (.cst (.int 0))) [.exp (.mth .append (.var 2) [(.call "_law_take" [(.var 0), (.cst (.int 2))])])] [], .ife (.cmp .Eq (.var 3) (.cst (.int 1))) [.exp (.mth .pop (.var 2) [])] [], .ife (.cmp .Eq (.var 3) (.cst (.int 2))) [.asub (.var 2) (.call "_law_take" [(.var 0), (.var 1)]) (.bin .Sub (.neg (.cst (.int 1))) (.call "_law_take" [(.var 0), (.cst (.int 3))]))] [], .ret (.var 2)]
theorem someW_ok {l1 : Nat} (c1 : G.call "_law_take" = spTake l1 k) (hl1 : l1 < lv) (q : spSomeW lv (k + 1) args h R X) : args.length = 2 ∧ wpSs G b_someW (st0 5 args) h (endsOf R) := by
  obtain ⟨h0, p, b, m, rfl, hp, hb, m0, m1, q⟩ := q
  refine ⟨rfl, ?_⟩
  unfold b_someW
  have d1 : G.nox.call "_law_take" = spTake l1 k := c1
  have hz : (2000 : Nat) < sizeLine := by decide
  rw [← set_id hp]
  simp only [q_ecall, sx0, sx1, sx2, sx3, sx4, sx5, sx6, sx7, sx8, sx9, sx10, sx11, sx12, Nat.reduceAdd, Nat.reduceSub, Nat.reduceLT, Nat.reduceEqDiff, st0, endsOf]
  rw [q_lc]
  simp only [wipeS, q_ecall, sx0, sx1, sx2, sx3, sx4, sx5, sx6, sx7, sx8, sx9, sx10, sx11, sx12, Nat.reduceAdd, Nat.reduceSub, Nat.reduceLT, Nat.reduceEqDiff, st0, endsOf]
  refine ⟨by omega, by omega, ?_⟩
  refine lc_box (fun e => ∃ i, e = SV.int i ∧ -9 ≤ i ∧ i ≤ 9) hb (by rw [rangeS_length]; omega) (fun _ => trivial) (fun y hy b hb acc K3 ha hK3 => ?_) fun acc b2 hl ha hb2 => ?_
  · simp only [wipeS, q_ecall, sx0, sx1, sx2, sx3, sx4, sx5, sx6, sx7, sx8, sx9, sx10, sx11, sx12, Nat.reduceAdd, Nat.reduceSub, Nat.reduceLT, Nat.reduceEqDiff, st0, endsOf, d1]
    refine take_go (by omega) hb (by decide) (by decide) fun r1 b1 g1 g2 hb1 => ?_
    simp only [wipeS, q_ecall, sx0, sx1, sx2, sx3, sx4, sx5, sx6, sx7, sx8, sx9, sx10, sx11, sx12, Nat.reduceAdd, Nat.reduceSub, Nat.reduceLT, Nat.reduceEqDiff, st0, endsOf, d1]
    refine take_go (by omega) hb1 (by decide) (by decide) fun r2 b2 g3 g4 hb2 => ?_
    obtain ⟨v, ev, v1, v2⟩ : ∃ v : Int, atI [SV.int 0, .int 1, .int r1, .int 1] r2 = some (.int v) ∧ -9 ≤ v ∧ v ≤ 9 := by
      have : r2 = 0 ∨ r2 = 1 ∨ r2 = 2 ∨ r2 = 3 := by omega
      rcases this with rfl | rfl | rfl | rfl
      · exact ⟨_, rfl, by decide, by decide⟩
      · exact ⟨_, rfl, by decide, by decide⟩
      · exact ⟨_, rfl, by omega, by omega⟩
      · exact ⟨_, rfl, by decide, by decide⟩
    simp only [wipeS, q_ecall, sx0, sx1, sx2, sx3, sx4, sx5, sx6, sx7, sx8, sx9, sx10, sx11, sx12, Nat.reduceAdd, Nat.reduceSub, Nat.reduceLT, Nat.reduceEqDiff, st0, endsOf, ev]
    exact ⟨ha, hK3 _ _ ⟨_, rfl, v1, v2⟩ hb2⟩
  · obtain ⟨ws, rfl, hw⟩ := ints_near ha
    rw [rangeS_length, intsV_len] at hl
    simp only [backS, SV.plain, q_ecall, sx0, sx1, sx2, sx3, sx4, sx5, sx6, sx7, sx8, sx9, sx10, sx11, sx12, Nat.reduceAdd, Nat.reduceSub, Nat.reduceLT, Nat.reduceEqDiff, st0, endsOf, c1]
    refine take_go (by omega) hb2 (by decide) (by decide) fun way b3 g1 g2 hb3 => ?_
    simp only [q_ecall, sx0, sx1, sx2, sx3, sx4, sx5, sx6, sx7, sx8, sx9, sx10, sx11, sx12, Nat.reduceAdd, Nat.reduceSub, Nat.reduceLT, Nat.reduceEqDiff, st0, endsOf]
    refine st_rule (fun δ h' => ∃ (ws : List Int) (b : List SV) (o : Option SV), δ = [some (.ref p), some (.int m), some (.own (intsV ws)), some (.int way), o] ∧ h' = h.set p (.lst b) ∧ (ws.length : Int) ≤ m + 1 ∧ m ≤ ws.length ∧ Near 9 ws ∧ Drawn b) (fun K hK => ?_) ?_
    · rw [q_ife]
      simp only [q_ecall, sx0, sx1, sx2, sx3, sx4, sx5, sx6, sx7, sx8, sx9, sx10, sx11, sx12, Nat.reduceAdd, Nat.reduceSub, Nat.reduceLT, Nat.reduceEqDiff, st0, endsOf, c1]
      refine cond_split (fun e => ?_) fun e => hK _ _ ⟨ws, b3, _, rfl, rfl, by omega, by omega, hw, hb3⟩
      refine take_go (by omega) hb3 (by decide) (by decide) fun r b4 g3 g4 hb4 => ?_
      simp only [q_ecall, sx0, sx1, sx2, sx3, sx4, sx5, sx6, sx7, sx8, sx9, sx10, sx11, sx12, Nat.reduceAdd, Nat.reduceSub, Nat.reduceLT, Nat.reduceEqDiff, st0, endsOf]
      have e1 : intsV ws ++ [SV.int r] = intsV (ws ++ [r]) := by unfold intsV; simp
      rw [e1]
      refine ⟨by rw [intsV_len]; omega, hK _ _ ⟨_, b4, _, rfl, rfl, by simp; omega, by simp; omega, fun z hz' => ?_, hb4⟩⟩
      rcases List.mem_append.mp hz' with hz' | hz'
      · exact hw z hz'
      · rw [List.mem_singleton] at hz'
        omega
    · rintro _ _ ⟨ws, b, o, rfl, rfl, l1, l2, hw, hb⟩
      simp only [q_ecall, sx0, sx1, sx2, sx3, sx4, sx5, sx6, sx7, sx8, sx9, sx10, sx11, sx12, Nat.reduceAdd, Nat.reduceSub, Nat.reduceLT, Nat.reduceEqDiff, st0, endsOf]
      refine st_rule (fun δ h' => ∃ (ws : List Int) (o : Option SV), δ = [some (.ref p), some (.int m), some (.own (intsV ws)), some (.int way), o] ∧ h' = h.set p (.lst b) ∧ (ws.length : Int) ≤ m + 1 ∧ (way = 2 → m ≤ ws.length) ∧ Near 9 ws) (fun K hK => ?_) ?_
      · rw [q_ife]
        simp only [q_ecall, sx0, sx1, sx2, sx3, sx4, sx5, sx6, sx7, sx8, sx9, sx10, sx11, sx12, Nat.reduceAdd, Nat.reduceSub, Nat.reduceLT, Nat.reduceEqDiff, st0, endsOf]
        refine cond_split (fun e => ?_) fun e => hK _ _ ⟨ws, _, rfl, rfl, by omega, fun _ => by omega, hw⟩
        have e : way = 1 := by have := of_decide_eq_true e; omega
        have lt : ws.length - 1 < ws.length := by omega
        refine ⟨intsV ws, .int (ws[ws.length - 1]'lt), rfl, by rw [intsV_len]; unfold intsV; rw [List.getElem?_map, List.getElem?_eq_getElem lt]; rfl, ?_⟩
        have e1 : (intsV ws).dropLast = intsV ws.dropLast := by unfold intsV; rw [List.map_dropLast]
        simp only [q_ecall, sx0, sx1, sx2, sx3, sx4, sx5, sx6, sx7, sx8, sx9, sx10, sx11, sx12, Nat.reduceAdd, Nat.reduceSub, Nat.reduceLT, Nat.reduceEqDiff, st0, endsOf, e1]
        exact hK _ _ ⟨_, _, rfl, rfl, by simp; omega, fun z => by omega, fun z hz' => hw z (List.dropLast_subset _ hz')⟩
      · rintro _ _ ⟨ws, o, rfl, rfl, l1, l2, hw⟩
        simp only [q_ecall, sx0, sx1, sx2, sx3, sx4, sx5, sx6, sx7, sx8, sx9, sx10, sx11, sx12, Nat.reduceAdd, Nat.reduceSub, Nat.reduceLT, Nat.reduceEqDiff, st0, endsOf]
        refine st_rule (fun δ h' => ∃ (ws : List Int) (b : List SV) (o : Option SV), δ = [some (.ref p), some (.int m), some (.own (intsV ws)), some (.int way), o] ∧ h' = h.set p (.lst b) ∧ (ws.length : Int) ≤ m + 1 ∧ Near 9 ws ∧ Drawn b) (fun K hK => ?_) ?_
        · rw [q_ife]
          simp only [q_ecall, sx0, sx1, sx2, sx3, sx4, sx5, sx6, sx7, sx8, sx9, sx10, sx11, sx12, Nat.reduceAdd, Nat.reduceSub, Nat.reduceLT, Nat.reduceEqDiff, st0, endsOf, c1]
          refine cond_split (fun e => ?_) fun e => hK _ _ ⟨ws, b, _, rfl, rfl, by omega, hw, hb⟩
          have e : way = 2 := by have := of_decide_eq_true e; omega
          refine take_go (by omega) hb (by decide) (by decide) fun r b4 g3 g4 hb4 => ?_
          simp only [q_ecall, sx0, sx1, sx2, sx3, sx4, sx5, sx6, sx7, sx8, sx9, sx10, sx11, sx12, Nat.reduceAdd, Nat.reduceSub, Nat.reduceLT, Nat.reduceEqDiff, st0, endsOf, c1]
          refine take_go (by omega) hb4 m0 (by omega) fun r2 b5 g5 g6 hb5 => ?_
          have := l2 e
          simp only [q_ecall, sx0, sx1, sx2, sx3, sx4, sx5, sx6, sx7, sx8, sx9, sx10, sx11, sx12, Nat.reduceAdd, Nat.reduceSub, Nat.reduceLT, Nat.reduceEqDiff, st0, endsOf, intsV_len, ixN_ok g5 (show r2 < ((ws.length : Nat) : Int) by omega), set_map]
          refine hK _ _ ⟨_, b5, _, rfl, rfl, by rw [List.length_set]; omega, fun z hz' => ?_, hb5⟩
          rcases List.mem_or_eq_of_mem_set hz' with hz' | rfl
          · exact hw z hz'
          · omega
        · rintro _ _ ⟨ws, b, o, rfl, rfl, l1, hw, hb⟩
          simp only [q_ecall, sx0, sx1, sx2, sx3, sx4, sx5, sx6, sx7, sx8, sx9, sx10, sx11, sx12, Nat.reduceAdd, Nat.reduceSub, Nat.reduceLT, Nat.reduceEqDiff, st0, endsOf]
          refine ret_loc rfl ?_
          exact q ws b (by omega) hw hb
end
end SL
/-! F11: calls with owned lists that leave all as it was; drawn rows. -/
namespace SL
open PySem PySem.Spec L2
theorem set_back {δ : SSt} {i : Nat} {o : Option SV} (e : δ[i]? = some o) (o' : Option SV) : (δ.set i o').set i o = δ := by
  rw [List.set_set]
  apply List.ext_getElem?
  intro j
  by_cases ij : i = j
  · subst ij
    have hl := (List.getElem?_eq_some_iff.mp e).1
    rw [List.getElem?_set_self hl, e]
  · rw [List.getElem?_set_ne ij]
theorem call2_pure {G : Gm} {f : Str} {i j : Nat} {δ : SSt} {h : SHp} {xs ys : List SV} {v : SV} {Q : Post} (e1 : δ[i]? = some (some (.own xs))) (e2 : δ[j]? = some (some (.own ys))) (ij : i ≠ j)
    (hq : ∀ p1 p2 h' R X, p1 ≠ p2 → h' p1 = some (.lst xs) → h' p2 = some (.lst ys) → R v h' → G.call f [.ref p1, .ref p2] h' R X) (q : Q v δ h) : wpE G (.call f [.var i, .var j]) δ h Q := by
  rw [q_ecall, q_ar1, q_evar, e1, q_var_own]
  refine box_loc e1 fun p1 hp1 => ?_
  rw [q_ar1, q_evar, List.getElem?_set_ne ij, e2, q_var_own]
  refine box_loc (by rw [List.getElem?_set_ne ij]; exact e2) fun p2 hp2 => ?_
  rw [q_ar0]
  have ne := ne_of_none hp2
  refine hq p1 p2 _ _ _ ne (by rw [SHp.set_ne ne]; exact SHp.set_same) SHp.set_same ?_
  rw [q_un3, SHp.set_ne ne, SHp.set_same, q_unC, q_un3, SHp.del_ne ne.symm, SHp.set_same, q_unC, q_un0, del2 hp1 hp2]
  have a1 : ((δ.set i (some (.ref p1))).set j (some (.ref p2))).set i (some (.own xs)) = (δ.set i (some (.own xs))).set j (some (.ref p2)) := by
    rw [List.set_comm _ _ ij.symm, List.set_set]
  rw [a1, List.set_set]
  have a2 : δ.set i (some (.own xs)) = δ := by
    have := set_back e1 none
    rw [List.set_set] at this
    exact this
  have a3 : δ.set j (some (.own ys)) = δ := by
    have := set_back e2 none
    rw [List.set_set] at this
    exact this
  rw [a2, a3]
  exact q
/-- rows of so many weights, all of them near -/
def RowsN (n : Nat) (far : Int) (rs : List RowT) : Prop := ∀ r ∈ rs, r.1.length = n ∧ Near far r.1 ∧ -far ≤ r.2 ∧ r.2 ≤ far
theorem rows_near {n : Nat} {far : Int} : ∀ {acc : List SV}, (∀ e ∈ acc, ∃ ws m, e = rowS ws m ∧ ws.length = n ∧ Near far ws ∧ -far ≤ m ∧ m ≤ far) → ∃ rs, acc = rowsV rs ∧ RowsN n far rs
  | [], _ => ⟨[], rfl, fun m hm => by cases hm⟩
  | a :: acc, h => by
    obtain ⟨rs, rfl, hr⟩ := rows_near fun e he => h e (List.mem_cons_of_mem _ he)
    obtain ⟨ws, m, rfl, hi⟩ := h a List.mem_cons_self
    exact ⟨(ws, m) :: rs, rfl, fun r hm => by
      rcases List.mem_cons.mp hm with rfl | hm
      · exact hi
      · exact hr r hm⟩
theorem RowsN.rw {n : Nat} {far f2 : Int} {rs : List RowT} {ws : List Int} {h : SHp} {x y : SV} (hr : RowsN n far rs) (hw : Near f2 ws) (hf : far < 2 ^ 60) (hf2 : f2 < 2 ^ 60) (hn : n ≤ 1000) (hl : rs.length ≤ 10000) (hl2 : ws.length ≤ 10000) (px : x.plain = true) (py : y.plain = true) (vx : vw h x = some (false, rowsV rs)) (vy : vw h y = some (false, intsV ws)) : RW h x y n rs ws := by
  have hz : (10000 : Nat) < sizeLine := by decide
  exact ⟨px, py, vx, vy, fun r hr' => (hr r hr').1, by omega, hn, by omega, by omega, fun r hr' => ⟨(hr r hr').2.1.sm hf (by decide), by
    have := (hr r hr').2.2
    exact Sm.small (by omega) (by decide)⟩, hw.sm hf2 (by decide)⟩
theorem Near.mono {f g : Int} {ws : List Int} (h : Near f ws) (hf : f ≤ g) : Near g ws := fun m hm => by
  have := h m hm
  omega
theorem ref_vw {h : SHp} {p : Addr} {xs : List SV} (e : h p = some (.lst xs)) : vw h (.ref p) = some (false, xs) := by
  simp only [vw, e]
theorem Sm.addmul {c : Nat} {a w b : Int} (hc : 128 ≤ c) (ha : Sm c a) (hw : Sm 64 w) (hb : Sm 64 b) : Sm (c + 1) (a + w * b) := ha.add ((hw.mul hb).mono hc)
theorem stepW_sm {c : Nat} {w : Int} (hc : 128 ≤ c) (hw : Sm 64 w) : ∀ {t r : List Int}, SmL c t → SmL 64 r → SmL (c + 1) (stepW t r w)
  | [], _, _, _ => by intro m hm; simp [stepW] at hm
  | _ :: _, [], _, _ => by intro m hm; simp [stepW] at hm
  | a :: t, b :: r, ht, hr => by
    intro m hm
    simp only [stepW, List.zipWith_cons_cons, List.mem_cons] at hm
    rcases hm with rfl | hm
    · exact Sm.addmul hc (ht a List.mem_cons_self) hw (hr b List.mem_cons_self)
    · exact stepW_sm hc hw (fun z hz => ht z (List.mem_cons_of_mem _ hz)) (fun z hz => hr z (List.mem_cons_of_mem _ hz)) m hm
theorem addsW_sm : ∀ {rs : List RowT} {ws t : List Int} {c : Nat}, 128 ≤ c → SmRs 64 rs → SmL 64 ws → SmL c t → SmL (c + rs.length) (addsW rs ws t)
  | [], _, t, c, _, _, _, ht => by simpa [addsW] using ht
  | _ :: _, [], t, c, _, _, _, ht => by
    simp only [addsW]
    exact fun m hm => (ht m hm).mono (by omega)
  | r :: rs, w :: ws, t, c, hc, hr, hw, ht => by
    simp only [addsW, List.length_cons]
    have := addsW_sm (c := c + 1) (rs := rs) (ws := ws) (by omega) (fun z hz => hr z (List.mem_cons_of_mem _ hz)) (fun z hz => hw z (List.mem_cons_of_mem _ hz)) (stepW_sm hc (hw w List.mem_cons_self) ht (hr r List.mem_cons_self).1)
    exact fun m hm => (this m hm).mono (by omega)
theorem addsB_sm : ∀ {rs : List RowT} {ws : List Int} {b : Int} {c : Nat}, 128 ≤ c → SmRs 64 rs → SmL 64 ws → Sm c b → Sm (c + rs.length) (addsB rs ws b)
  | [], _, b, c, _, _, _, hb => by simpa [addsB] using hb
  | _ :: _, [], b, c, _, _, _, hb => by
    simp only [addsB]
    exact hb.mono (by omega)
  | r :: rs, w :: ws, b, c, hc, hr, hw, hb => by
    simp only [addsB, List.length_cons]
    have := addsB_sm (c := c + 1) (rs := rs) (ws := ws) (by omega) (fun z hz => hr z (List.mem_cons_of_mem _ hz)) (fun z hz => hw z (List.mem_cons_of_mem _ hz)) (Sm.addmul hc hb (hw w List.mem_cons_self) (hr r List.mem_cons_self).2)
    exact this.mono (by omega)
theorem RowsN.sm {n : Nat} {far : Int} {rs : List RowT} (hr : RowsN n far rs) (hf : far < 2 ^ 60) : SmRs 64 rs := fun r hr' => ⟨(hr r hr').2.1.sm hf (by decide), by
  have := (hr r hr').2.2
  exact Sm.small (by omega) (by decide)⟩
theorem add_sm {n : Nat} {far f2 : Int} {rs : List RowT} {ws : List Int} (hr : RowsN n far rs) (hf : far < 2 ^ 60) (hw : Near f2 ws) (hf2 : f2 < 2 ^ 60) (hl : rs.length ≤ 10000) : SmL 20000 (addW rs ws) ∧ Sm 20000 (addB rs ws) := by
  have s1 := hr.sm hf
  have s2 : SmL 64 ws := hw.sm hf2 (by decide)
  refine ⟨fun m hm => ?_, ?_⟩
  · have := addsW_sm (c := 128) (t := List.replicate (cntOf rs) 0) (by decide) s1 s2 (fun z hz => by rw [(List.mem_replicate.mp hz).2]; exact Sm.small (by decide) (by decide))
    exact (this m hm).mono (by omega)
  · exact (addsB_sm (c := 128) (b := 0) (by decide) s1 s2 (Sm.small (by decide) (by decide))).mono (by omega)
end SL
/-! F12: values of rows at states. -/
namespace SL
open PySem PySem.Spec L2
def pairsV (ps : List (Int × Int)) : List SV := ps.map fun p => pair p.1 p.2
theorem pairsV_len {ps : List (Int × Int)} : (pairsV ps).length = ps.length := by simp [pairsV]
def StOk (ps : List (Int × Int)) : Prop := ps.length ≤ 20 ∧ ∀ p ∈ ps, 0 < p.2 ∧ Sm 80 p.1 ∧ Sm 80 p.2
def valA : Rat → List Int → List (Int × Int) → Rat
  | a, w :: ws, p :: ps => valA (a + Rat.divInt (w * p.1) p.2) ws ps
  | a, _, _ => a
def valQ (ws : List Int) (ps : List (Int × Int)) : Rat := valA 0 ws ps
theorem SmR.plus2 {n m : Nat} {a b : Rat} (ha : SmR n a) (hb : SmR m b) : SmR (n + m + 1) (a + b) := by
  have e : a + b = Rat.divInt (a.num * b.den + b.num * a.den) (a.den * b.den) := by
    rw [← Rat.divInt_add_divInt _ _ (by have := den_pos a; omega) (by have := den_pos b; omega), rat_self, rat_self]
  rw [e]
  exact SmR.of (Int.mul_pos (den_pos a) (den_pos b)) ((ha.1.mul hb.2).add ((hb.1.mul ha.2).mono (by omega))) ((ha.2.mul hb.2).mono (by omega))
theorem valA_sm : ∀ {ws : List Int} {ps : List (Int × Int)} {a : Rat} {c : Nat}, SmL 64 ws → (∀ p ∈ ps, 0 < p.2 ∧ Sm 80 p.1 ∧ Sm 80 p.2) → SmR (1 + 145 * c) a → SmR (1 + 145 * (c + ps.length)) (valA a ws ps)
  | [], ps, a, c, _, _, h => h.mono (by omega)
  | w :: ws, [], a, c, _, _, h => h
  | w :: ws, p :: ps, a, c, h1, h2, h => by
    have hp := h2 p List.mem_cons_self
    have t : SmR 144 (Rat.divInt (w * p.1) p.2) := SmR.of hp.1 (((h1 w List.mem_cons_self).mul hp.2.1).mono (by decide)) (hp.2.2.mono (by decide))
    have q := valA_sm (ws := ws) (ps := ps) (c := c + 1) (fun m hm => h1 m (List.mem_cons_of_mem _ hm)) (fun p hp => h2 p (List.mem_cons_of_mem _ hp)) ((h.plus2 t).mono (by omega))
    simp only [valA, List.length_cons]
    exact q.mono (by omega)
theorem zero_sm : SmR 1 0 := ⟨(by decide : (0 : Int).natAbs < 2 ^ 1), (by decide : (1 : Int).natAbs < 2 ^ 1)⟩
theorem zero_frac : frac 0 = .tup [.int 0, .int 1] := rfl
section
variable {G : Gm} {lv k : Nat} {args : List SV} {h : SHp} {R : SV → SHp → Prop} {X : SX → SHp → Prop}
def spValue (lv k : Nat) : SSp := fun args h R X => lv ≤ k ∧ ∃ ws ps, args = [.tup (intsV ws), .tup (pairsV ps)] ∧ SmL 64 ws ∧ StOk ps ∧ R (frac (valQ ws ps)) h
def b_value : List SS := [.asg (.nm 2) (.tup [(.cst (.int 0)), (.cst (.int 1))]), .for (.tup [(.nm 3), (.nm 4)]) (.zip [(.var 0), (.var 1)]) [.ife (.cmp .NotEq (.var 3) (.cst (.int 0))) [.asg (.nm 2) (.call "plus" [(.var 2), (.call "lowest" [(.bin .Mult (.var 3) (.ix (.var 4) (.cst (.int 0)))), (.ix (.var 4) (.cst (.int 1)))])])] []], .ret (.var 2)]
def b_lvalue : List SS := [.asg (.nm 2) (.tup [(.cst (.int 0)), (.cst (.int 1))]), .for (.tup [(.nm 3), (.nm 4)]) (.zip [(.var 0), (.var 1)]) [.asg (.nm 2) (.call "_law_sum" [(.var 2), (.tup [(.bin .Mult (.var 3) (.ix (.var 4) (.cst (.int 0)))), (.ix (.var 4) (.cst (.int 1)))])])], .ret (.var 2)]
theorem value_ok {l1 l2 : Nat} (c1 : G.call "plus" = spFr2 (· + ·) l1 k) (c2 : G.call "lowest" = spLow l2 k) (hl1 : l1 < lv) (hl2 : l2 < lv) (q : spValue lv (k + 1) args h R X) : args.length = 2 ∧ wpSs G b_value (st0 5 args) h (endsOf R) := by
  obtain ⟨h0, ws, ps, rfl, sw, sp, q⟩ := q
  refine ⟨rfl, ?_⟩
  unfold b_value
  simp only [q_ecall, sx0, sx1, sx2, sx3, sx4, sx5, sx6, sx7, sx8, sx9, sx10, sx11, sx12, Nat.reduceAdd, Nat.reduceSub, Nat.reduceLT, Nat.reduceEqDiff, st0, endsOf]
  rw [q_for]
  simp only [q_izip, q_ecall, sx0, sx1, sx2, sx3, sx4, sx5, sx6, sx7, sx8, sx9, sx10, sx11, sx12, Nat.reduceAdd, Nat.reduceSub, Nat.reduceLT, Nat.reduceEqDiff, st0, endsOf]
  refine zip_go (xs := intsV ws) (ys := pairsV ps) rfl rfl ?_
  refine for_rule (fun done todo δ h' => h' = h ∧ ∃ (ws' : List Int) (ps' : List (Int × Int)) (a : Rat) (c : Nat) (o3 o4 : Option SV), todo = zipS (intsV ws') (pairsV ps') ∧ (∀ m ∈ ws', m ∈ ws) ∧ (∀ m ∈ ps', m ∈ ps) ∧ SmR (1 + 145 * c) a ∧ c + ps'.length ≤ 20 ∧ δ = [some (.tup (intsV ws)), some (.tup (pairsV ps)), some (frac a), o3, o4] ∧ valA a ws' ps' = valQ ws ps)
    ⟨rfl, ws, ps, 0, 0, none, none, rfl, fun _ h => h, fun _ h => h, zero_sm, by have := sp.1; omega, rfl, rfl⟩ ?_ ?_
  · rintro done z todo _ h' K ⟨rfl, ws', ps', a, c, o3, o4, e, h1, h2, sa, hc, rfl, hv⟩ hK
    cases ws' with
    | nil => simp [zipS, intsV] at e
    | cons m ws' =>
      cases ps' with
      | nil => simp [zipS, pairsV, intsV] at e
      | cons p ps' =>
        simp only [pairsV, intsV, List.map_cons, zipS, List.cons.injEq] at e
        obtain ⟨rfl, rfl⟩ := e
        have sm := sw m (h1 m List.mem_cons_self)
        have hp := sp.2 p (h2 p List.mem_cons_self)
        have t : SmR 144 (Rat.divInt (m * p.1) p.2) := SmR.of hp.1 ((sm.mul hp.2.1).mono (by decide)) (hp.2.2.mono (by decide))
        simp only [List.length_cons] at hc
        refine ⟨⟨rfl, rfl⟩, ?_⟩
        have nx : ∀ o3 o4, K [some (.tup (intsV ws)), some (.tup (pairsV ps)), some (frac (a + Rat.divInt (m * p.1) p.2)), o3, o4] h' := fun o3 o4 => hK _ _ ⟨rfl, ws', ps', _, c + 1, o3, o4, rfl, fun z hz => h1 z (List.mem_cons_of_mem _ hz), fun z hz => h2 z (List.mem_cons_of_mem _ hz), (sa.plus2 t).mono (by omega), by omega, rfl, hv⟩
        simp only [q_ecall, sx0, sx1, sx2, sx3, sx4, sx5, sx6, sx7, sx8, sx9, sx10, sx11, sx12, Nat.reduceAdd, Nat.reduceSub, Nat.reduceLT, Nat.reduceEqDiff, st0, endsOf, pair]
        rw [q_ife]
        simp only [q_ecall, sx0, sx1, sx2, sx3, sx4, sx5, sx6, sx7, sx8, sx9, sx10, sx11, sx12, Nat.reduceAdd, Nat.reduceSub, Nat.reduceLT, Nat.reduceEqDiff, st0, endsOf]
        refine cond_split (fun e => ?_) fun e => ?_
        · simp only [q_ecall, sx0, sx1, sx2, sx3, sx4, sx5, sx6, sx7, sx8, sx9, sx10, sx11, sx12, Nat.reduceAdd, Nat.reduceSub, Nat.reduceLT, Nat.reduceEqDiff, st0, endsOf, c2, frac]
          refine ⟨sm.mulOk hp.2.1 (by decide), by omega, _, _, rfl, hp.1, hp.2.2.mono (by decide), ?_⟩
          simp only [q_ecall, sx0, sx1, sx2, sx3, sx4, sx5, sx6, sx7, sx8, sx9, sx10, sx11, sx12, Nat.reduceAdd, Nat.reduceSub, Nat.reduceLT, Nat.reduceEqDiff, st0, endsOf, c1, frac]
          refine fr2_go (by omega) (sa.mono (by omega)) (t.mono (by decide)) ?_
          simp only [q_ecall, sx0, sx1, sx2, sx3, sx4, sx5, sx6, sx7, sx8, sx9, sx10, sx11, sx12, Nat.reduceAdd, Nat.reduceSub, Nat.reduceLT, Nat.reduceEqDiff, st0, endsOf, frac]
          exact nx _ _
        · have e0 : m = 0 := by simpa using e
          subst e0
          have e1 : a + Rat.divInt (0 * p.1) p.2 = a := by rw [Int.zero_mul, Rat.zero_divInt, Rat.add_zero]
          have := nx (some (.int 0)) (some (.tup [.int p.1, .int p.2]))
          rw [e1] at this
          exact this
  · rintro _ h' ⟨rfl, ws', ps', a, c, o3, o4, e, h1, h2, sa, hc, rfl, hv⟩
    have fin : valA a ws' ps' = a := by
      cases ws' with
      | nil => rfl
      | cons r rs' =>
        cases ps' with
        | nil => rfl
        | cons m ws' => simp [zipS, pairsV, intsV] at e
    rw [fin] at hv
    subst hv
    refine ⟨⟨rfl, rfl⟩, ?_⟩
    simp only [q_ecall, sx0, sx1, sx2, sx3, sx4, sx5, sx6, sx7, sx8, sx9, sx10, sx11, sx12, Nat.reduceAdd, Nat.reduceSub, Nat.reduceLT, Nat.reduceEqDiff, st0, endsOf, frac]
    exact q
theorem lvalue_ok {l1 : Nat} (c1 : G.call "_law_sum" = spFr2 (· + ·) l1 k) (hl1 : l1 < lv) (q : spValue lv (k + 1) args h R X) : args.length = 2 ∧ wpSs G b_lvalue (st0 5 args) h (endsOf R) := by
  obtain ⟨h0, ws, ps, rfl, sw, sp, q⟩ := q
  refine ⟨rfl, ?_⟩
  unfold b_lvalue
  simp only [q_ecall, sx0, sx1, sx2, sx3, sx4, sx5, sx6, sx7, sx8, sx9, sx10, sx11, sx12, Nat.reduceAdd, Nat.reduceSub, Nat.reduceLT, Nat.reduceEqDiff, st0, endsOf]
  rw [q_for]
  simp only [q_izip, q_ecall, sx0, sx1, sx2, sx3, sx4, sx5, sx6, sx7, sx8, sx9, sx10, sx11, sx12, Nat.reduceAdd, Nat.reduceSub, Nat.reduceLT, Nat.reduceEqDiff, st0, endsOf]
  refine zip_go (xs := intsV ws) (ys := pairsV ps) rfl rfl ?_
  refine for_rule (fun done todo δ h' => h' = h ∧ ∃ (ws' : List Int) (ps' : List (Int × Int)) (a : Rat) (c : Nat) (o3 o4 : Option SV), todo = zipS (intsV ws') (pairsV ps') ∧ (∀ m ∈ ws', m ∈ ws) ∧ (∀ m ∈ ps', m ∈ ps) ∧ SmR (1 + 145 * c) a ∧ c + ps'.length ≤ 20 ∧ δ = [some (.tup (intsV ws)), some (.tup (pairsV ps)), some (frac a), o3, o4] ∧ valA a ws' ps' = valQ ws ps)
    ⟨rfl, ws, ps, 0, 0, none, none, rfl, fun _ h => h, fun _ h => h, zero_sm, by have := sp.1; omega, rfl, rfl⟩ ?_ ?_
  · rintro done z todo _ h' K ⟨rfl, ws', ps', a, c, o3, o4, e, h1, h2, sa, hc, rfl, hv⟩ hK
    cases ws' with
    | nil => simp [zipS, intsV] at e
    | cons m ws' =>
      cases ps' with
      | nil => simp [zipS, pairsV, intsV] at e
      | cons p ps' =>
        simp only [pairsV, intsV, List.map_cons, zipS, List.cons.injEq] at e
        obtain ⟨rfl, rfl⟩ := e
        have sm := sw m (h1 m List.mem_cons_self)
        have hp := sp.2 p (h2 p List.mem_cons_self)
        have t : SmR 144 (Rat.divInt (m * p.1) p.2) := SmR.of hp.1 ((sm.mul hp.2.1).mono (by decide)) (hp.2.2.mono (by decide))
        simp only [List.length_cons] at hc
        refine ⟨⟨rfl, rfl⟩, ?_⟩
        have nx : ∀ o3 o4, K [some (.tup (intsV ws)), some (.tup (pairsV ps)), some (frac (a + Rat.divInt (m * p.1) p.2)), o3, o4] h' := fun o3 o4 => hK _ _ ⟨rfl, ws', ps', _, c + 1, o3, o4, rfl, fun z hz => h1 z (List.mem_cons_of_mem _ hz), fun z hz => h2 z (List.mem_cons_of_mem _ hz), (sa.plus2 t).mono (by omega), by omega, rfl, hv⟩
        simp only [q_ecall, sx0, sx1, sx2, sx3, sx4, sx5, sx6, sx7, sx8, sx9, sx10, sx11, sx12, Nat.reduceAdd, Nat.reduceSub, Nat.reduceLT, Nat.reduceEqDiff, st0, endsOf, pair]
        simp only [q_ecall, sx0, sx1, sx2, sx3, sx4, sx5, sx6, sx7, sx8, sx9, sx10, sx11, sx12, Nat.reduceAdd, Nat.reduceSub, Nat.reduceLT, Nat.reduceEqDiff, st0, endsOf, c1, frac]
        refine ⟨sm.mulOk hp.2.1 (by decide), by omega, _, _, _, _, rfl, den_pos a, hp.1, (sa.1).mono (by omega), (sa.2).mono (by omega), (sm.mul hp.2.1).mono (by decide), hp.2.2.mono (by decide), ?_⟩
        rw [rat_self]
        simp only [q_ecall, sx0, sx1, sx2, sx3, sx4, sx5, sx6, sx7, sx8, sx9, sx10, sx11, sx12, Nat.reduceAdd, Nat.reduceSub, Nat.reduceLT, Nat.reduceEqDiff, st0, endsOf, frac]
        exact nx _ _
  · rintro _ h' ⟨rfl, ws', ps', a, c, o3, o4, e, h1, h2, sa, hc, rfl, hv⟩
    have fin : valA a ws' ps' = a := by
      cases ws' with
      | nil => rfl
      | cons r rs' =>
        cases ps' with
        | nil => rfl
        | cons m ws' => simp [zipS, pairsV, intsV] at e
    rw [fin] at hv
    subst hv
    refine ⟨⟨rfl, rfl⟩, ?_⟩
    simp only [q_ecall, sx0, sx1, sx2, sx3, sx4, sx5, sx6, sx7, sx8, sx9, sx10, sx11, sx12, Nat.reduceAdd, Nat.reduceSub, Nat.reduceLT, Nat.reduceEqDiff, st0, endsOf, frac]
    exact q
/-- does a row keep a state -/
def keepB (ws : List Int) (b : Int) (ps : List (Int × Int)) : Bool := decide ((valQ ws ps).num ≤ b * (valQ ws ps).den)
theorem valQ_sm {ws : List Int} {ps : List (Int × Int)} (h1 : SmL 64 ws) (h2 : StOk ps) : SmR 3000 (valQ ws ps) := (valA_sm (c := 0) h1 h2.2 zero_sm).mono (by have := h2.1; omega)
def spKeeps (lv k : Nat) : SSp := fun args h R X => lv ≤ k ∧ ∃ ws b ps, args = [rowS ws b, .tup (pairsV ps)] ∧ SmL 64 ws ∧ Sm 4000 b ∧ StOk ps ∧ R (.bl (keepB ws b ps)) h
def b_keeps : List SS := [.asg (.nm 2) (.call "value_of" [(.ix (.var 0) (.cst (.int 0))), (.var 1)]), .ret (.cmp .LtE (.ix (.var 2) (.cst (.int 0))) (.bin .Mult (.ix (.var 0) (.cst (.int 1))) (.ix (.var 2) (.cst (.int 1)))))]
theorem keeps_ok {l1 : Nat} (c1 : G.call "value_of" = spValue l1 k) (hl1 : l1 < lv) (q : spKeeps lv (k + 1) args h R X) : args.length = 2 ∧ wpSs G b_keeps (st0 3 args) h (endsOf R) := by
  obtain ⟨h0, ws, b, ps, rfl, sw, sb, sp, q⟩ := q
  refine ⟨rfl, ?_⟩
  unfold b_keeps
  simp only [q_ecall, sx0, sx1, sx2, sx3, sx4, sx5, sx6, sx7, sx8, sx9, sx10, sx11, sx12, Nat.reduceAdd, Nat.reduceSub, Nat.reduceLT, Nat.reduceEqDiff, st0, endsOf, rowS, c1]
  refine ⟨by omega, ws, ps, rfl, sw, sp, ?_⟩
  simp only [q_ecall, sx0, sx1, sx2, sx3, sx4, sx5, sx6, sx7, sx8, sx9, sx10, sx11, sx12, Nat.reduceAdd, Nat.reduceSub, Nat.reduceLT, Nat.reduceEqDiff, st0, endsOf, frac]
  exact ⟨sb.mulOk (valQ_sm sw sp).2 (by decide), q⟩
/-- a row's state, or the refusal -/
def spHolds (lv k : Nat) : SSp := fun args h R X => lv ≤ k ∧ ∃ ws b ps, args = [rowS ws b, .tup (pairsV ps)] ∧ SmL 64 ws ∧ Sm 4000 b ∧ StOk ps ∧ ws.length ≤ 1000 ∧ (if ws.length = ps.length then R (.bl (keepB ws b ps)) h else X ⟨"BadState", [("called", .str "BadState")]⟩ h)
def b_holds : List SS := [.ife (.cmp .NotEq (.bi .len [(.ix (.var 0) (.cst (.int 0)))]) (.bi .len [(.var 1)])) [.rais "BadState" none] [], .ret (.call "keeps" [(.var 0), (.var 1)])]
theorem holds_ok {l1 : Nat} (c1 : G.call "keeps" = spKeeps l1 k) (hx : G.xp = fun x _ h => X x h) (hl1 : l1 < lv) (q : spHolds lv (k + 1) args h R X) : args.length = 2 ∧ wpSs G b_holds (st0 2 args) h (endsOf R) := by
  obtain ⟨h0, ws, b, ps, rfl, sw, sb, sp, hl, q⟩ := q
  refine ⟨rfl, ?_⟩
  unfold b_holds
  simp only [q_ecall, sx0, sx1, sx2, sx3, sx4, sx5, sx6, sx7, sx8, sx9, sx10, sx11, sx12, Nat.reduceAdd, Nat.reduceSub, Nat.reduceLT, Nat.reduceEqDiff, st0, endsOf, rowS]
  rw [q_ife]
  simp only [q_ecall, sx0, sx1, sx2, sx3, sx4, sx5, sx6, sx7, sx8, sx9, sx10, sx11, sx12, Nat.reduceAdd, Nat.reduceSub, Nat.reduceLT, Nat.reduceEqDiff, st0, endsOf, intsV_len, pairsV_len]
  refine cond_split (fun e => ?_) fun e => ?_
  · have e' : ¬ ((ws.length : Int) = ps.length) := by simpa using e
    rw [if_neg (by omega)] at q
    simp only [q_ecall, sx0, sx1, sx2, sx3, sx4, sx5, sx6, sx7, sx8, sx9, sx10, sx11, sx12, Nat.reduceAdd, Nat.reduceSub, Nat.reduceLT, Nat.reduceEqDiff, st0, endsOf, hx]
    exact q
  · have e' : (ws.length : Int) = ps.length := by simpa using e
    rw [if_pos (by omega)] at q
    simp only [q_ecall, sx0, sx1, sx2, sx3, sx4, sx5, sx6, sx7, sx8, sx9, sx10, sx11, sx12, Nat.reduceAdd, Nat.reduceSub, Nat.reduceLT, Nat.reduceEqDiff, st0, endsOf, c1]
    exact ⟨by omega, ws, b, ps, rfl, sw, sb, sp, q⟩
def spHeld (lv k : Nat) : SSp := fun args h R X => lv ≤ k ∧ ∃ ws b ps, args = [rowS ws b, .tup (pairsV ps)] ∧ SmL 64 ws ∧ Sm 4000 b ∧ StOk ps ∧ ws.length ≤ 1000 ∧ R (if ws.length = ps.length then .bl (keepB ws b ps) else .str "bad") h
def b_held : List SS := [.try [.ret (.call "holds" [(.var 0), (.var 1)])] [⟨"BadState", some 2, .ret (.isi "SlopeError" "ValueError" (.str "bad") (.str "odd"))⟩]]
theorem held_ok {l1 : Nat} (c1 : G.call "holds" = spHolds l1 k) (hl1 : l1 < lv) (q : spHeld lv (k + 1) args h R X) : args.length = 2 ∧ wpSs G b_held (st0 3 args) h (endsOf R) := by
  obtain ⟨h0, ws, b, ps, rfl, sw, sb, sp, hl, q⟩ := q
  refine ⟨rfl, ?_⟩
  unfold b_held
  simp only [q_ecall, sx0, sx1, sx2, sx3, sx4, sx5, sx6, sx7, sx8, sx9, sx10, sx11, sx12, Nat.reduceAdd, Nat.reduceSub, Nat.reduceLT, Nat.reduceEqDiff, st0, endsOf, rowS]
  rw [q_try]
  simp only [q_ecall, sx0, sx1, sx2, sx3, sx4, sx5, sx6, sx7, sx8, sx9, sx10, sx11, sx12, Nat.reduceAdd, Nat.reduceSub, Nat.reduceLT, Nat.reduceEqDiff, st0, endsOf, c1]
  refine ⟨by omega, ws, b, ps, rfl, sw, sb, sp, hl, ?_⟩
  by_cases e : ws.length = ps.length
  · rw [if_pos e] at q ⊢
    simp only [q_ecall, sx0, sx1, sx2, sx3, sx4, sx5, sx6, sx7, sx8, sx9, sx10, sx11, sx12, Nat.reduceAdd, Nat.reduceSub, Nat.reduceLT, Nat.reduceEqDiff, st0, endsOf]
    exact q
  · rw [if_neg e] at q ⊢
    simp only [q_ecall, sx0, sx1, sx2, sx3, sx4, sx5, sx6, sx7, sx8, sx9, sx10, sx11, sx12, Nat.reduceAdd, Nat.reduceSub, Nat.reduceLT, Nat.reduceEqDiff, st0, endsOf]
    exact ⟨.str "bad", rfl, q⟩
end
end SL
/-! F13: rows and states drawn. -/
namespace SL
open PySem PySem.Spec L2
section
variable {G : Gm} {lv k : Nat} {args : List SV} {h : SHp} {R : SV → SHp → Prop} {X : SX → SHp → Prop}
def spLKeeps (lv k : Nat) : SSp := fun args h R X => lv ≤ k ∧ ∃ x t rs ps, args = [x, .tup (pairsV ps)] ∧ x.plain = true ∧ vw h x = some (t, rowsV rs) ∧ (∀ r ∈ rs, SmL 64 r.1 ∧ Sm 4000 r.2) ∧ StOk ps ∧ R (.bl (rs.all fun r => keepB r.1 r.2 ps)) h
def b_lkeeps : List SS := [.for (.tup [(.nm 2), (.nm 3)]) (.of (.var 0)) [.asg (.nm 4) (.call "_law_value" [(.var 2), (.var 1)]), .ife (.cmp .Gt (.ix (.var 4) (.cst (.int 0))) (.bin .Mult (.var 3) (.ix (.var 4) (.cst (.int 1))))) [.ret (.cst (.bl false))] []], .ret (.cst (.bl true))]
theorem lkeeps_ok {l1 : Nat} (c1 : G.call "_law_value" = spValue l1 k) (hl1 : l1 < lv) (q : spLKeeps lv (k + 1) args h R X) : args.length = 2 ∧ wpSs G b_lkeeps (st0 5 args) h (endsOf R) := by
  obtain ⟨h0, x, t, rs, ps, rfl, px, vx, sr, sp, q⟩ := q
  refine ⟨rfl, ?_⟩
  unfold b_lkeeps
  simp only [q_ecall, sx0, sx1, sx2, sx3, sx4, sx5, sx6, sx7, sx8, sx9, sx10, sx11, sx12, Nat.reduceAdd, Nat.reduceSub, Nat.reduceLT, Nat.reduceEqDiff, st0, endsOf]
  rw [q_for]
  simp only [q_ecall, sx0, sx1, sx2, sx3, sx4, sx5, sx6, sx7, sx8, sx9, sx10, sx11, sx12, Nat.reduceAdd, Nat.reduceSub, Nat.reduceLT, Nat.reduceEqDiff, st0, endsOf, varQ_pd (plain_isOwn px), stow_pd px]
  refine ⟨t, rowsV rs, vx, ?_⟩
  refine for_rule (fun done todo δ h' => h' = h ∧ ∃ (rs' : List RowT) (o2 o3 o4 : Option SV), todo = rowsV rs' ∧ (∀ r ∈ rs', r ∈ rs) ∧ δ = [some x, some (.tup (pairsV ps)), o2, o3, o4] ∧ (rs'.all fun r => keepB r.1 r.2 ps) = rs.all fun r => keepB r.1 r.2 ps)
    ⟨rfl, rs, none, none, none, rfl, fun _ h => h, rfl, rfl⟩ ?_ ?_
  · rintro done z todo _ h' K ⟨rfl, rs', o2, o3, o4, e, h1, rfl, hv⟩ hK
    cases rs' with
    | nil => simp [rowsV] at e
    | cons r rs' =>
      simp only [rowsV, List.map_cons, List.cons.injEq] at e
      obtain ⟨rfl, rfl⟩ := e
      have s := sr r (h1 r List.mem_cons_self)
      refine ⟨vx, ?_⟩
      simp only [q_ecall, sx0, sx1, sx2, sx3, sx4, sx5, sx6, sx7, sx8, sx9, sx10, sx11, sx12, Nat.reduceAdd, Nat.reduceSub, Nat.reduceLT, Nat.reduceEqDiff, st0, endsOf, rowS, c1]
      refine ⟨by omega, r.1, ps, rfl, s.1, sp, ?_⟩
      simp only [q_ecall, sx0, sx1, sx2, sx3, sx4, sx5, sx6, sx7, sx8, sx9, sx10, sx11, sx12, Nat.reduceAdd, Nat.reduceSub, Nat.reduceLT, Nat.reduceEqDiff, st0, endsOf, frac]
      rw [q_ife]
      simp only [q_ecall, sx0, sx1, sx2, sx3, sx4, sx5, sx6, sx7, sx8, sx9, sx10, sx11, sx12, Nat.reduceAdd, Nat.reduceSub, Nat.reduceLT, Nat.reduceEqDiff, st0, endsOf]
      refine ⟨s.2.mulOk (valQ_sm s.1 sp).2 (by decide), ?_⟩
      rw [List.all_cons] at hv
      refine cond_split (fun e => ?_) fun e => ?_
      · have kf : keepB r.1 r.2 ps = false := by
          unfold keepB
          have : r.2 * ((valQ r.1 ps).den : Int) < (valQ r.1 ps).num := by simpa using e
          exact decide_eq_false (by omega)
        rw [kf, Bool.false_and] at hv
        rw [← hv] at q
        exact q
      · have kt : keepB r.1 r.2 ps = true := by
          unfold keepB
          have : ¬ r.2 * ((valQ r.1 ps).den : Int) < (valQ r.1 ps).num := by simpa using e
          exact decide_eq_true (by omega)
        rw [kt, Bool.true_and] at hv
        exact hK _ _ ⟨rfl, rs', _, _, _, rfl, fun z hz => h1 z (List.mem_cons_of_mem _ hz), rfl, hv⟩
  · rintro _ h' ⟨rfl, rs', o2, o3, o4, e, h1, rfl, hv⟩
    have : rs' = [] := by
      cases rs' with
      | nil => rfl
      | cons r rs' => simp [rowsV] at e
    subst this
    rw [← hv] at q
    refine ⟨vx, ?_⟩
    simp only [q_ecall, sx0, sx1, sx2, sx3, sx4, sx5, sx6, sx7, sx8, sx9, sx10, sx11, sx12, Nat.reduceAdd, Nat.reduceSub, Nat.reduceLT, Nat.reduceEqDiff, st0, endsOf]
    exact q
theorem fracs_of : ∀ {acc : List SV}, (∀ e ∈ acc, ∃ r, e = frac r ∧ SmR 64 r) → ∃ rs : List Rat, acc = rs.map frac ∧ ∀ r ∈ rs, SmR 64 r
  | [], _ => ⟨[], rfl, fun r hr => nomatch hr⟩
  | e :: acc, h => by
    obtain ⟨r, e1, s⟩ := h e List.mem_cons_self
    obtain ⟨rs, e2, s2⟩ := fracs_of (acc := acc) fun e he => h e (List.mem_cons_of_mem _ he)
    subst e1 e2
    exact ⟨r :: rs, rfl, fun z hz => by
      rcases List.mem_cons.mp hz with z | z
      · subst z; exact s
      · exact s2 _ z⟩
def spState (lv k : Nat) : SSp := fun args h R X => lv ≤ k ∧ ∃ (p : Addr) (b : List SV) (c far : Int), args = [.ref p, .int c, .int far] ∧ h p = some (.lst b) ∧ Drawn b ∧ 0 ≤ c ∧ c ≤ 1000 ∧ 0 ≤ far ∧ far < 2 ^ 60 ∧ ∀ (rs : List Rat) (b' : List SV), (rs.length : Int) = c → (∀ r ∈ rs, SmR 64 r) → Drawn b' → R (.tup (rs.map frac)) (h.set p (.lst b'))
def b_state : List SS := [.ret (.bi .tuple [(.lc [("_law_k", 3)] (.nm 3) (.rng (.var 1)) [] (.call "_law_part" [(.var 0), (.var 2)]))])]
theorem state_ok {l1 : Nat} (c1 : G.call "_law_part" = spDrawnPart l1 k) (hl1 : l1 < lv) (q : spState lv (k + 1) args h R X) : args.length = 3 ∧ wpSs G b_state (st0 4 args) h (endsOf R) := by
  obtain ⟨h0, p, b, c, far, rfl, hp, hb, c0, c2, f0, f1, q⟩ := q
  have d1 : G.nox.call "_law_part" = spDrawnPart l1 k := c1
  have hz : (10000 : Nat) < sizeLine := by decide
  refine ⟨rfl, ?_⟩
  unfold b_state
  simp only [q_ecall, sx0, sx1, sx2, sx3, sx4, sx5, sx6, sx7, sx8, sx9, sx10, sx11, sx12, Nat.reduceAdd, Nat.reduceSub, Nat.reduceLT, Nat.reduceEqDiff, st0, endsOf]
  rw [q_lc]
  simp only [wipeS, q_ecall, sx0, sx1, sx2, sx3, sx4, sx5, sx6, sx7, sx8, sx9, sx10, sx11, sx12, Nat.reduceAdd, Nat.reduceSub, Nat.reduceLT, Nat.reduceEqDiff, st0, endsOf]
  refine ⟨by omega, by omega, ?_⟩
  rw [← set_id hp]
  refine lc_box (fun e => ∃ r, e = frac r ∧ SmR 64 r) hb (by rw [rangeS_length]; omega) (fun _ => trivial) (fun y hy b hb acc K3 ha hK3 => ?_) fun acc b3 hl3 ha hb3 => ?_
  · simp only [wipeS, q_ecall, sx0, sx1, sx2, sx3, sx4, sx5, sx6, sx7, sx8, sx9, sx10, sx11, sx12, Nat.reduceAdd, Nat.reduceSub, Nat.reduceLT, Nat.reduceEqDiff, st0, endsOf, d1]
    refine ⟨by omega, p, b, far, rfl, SHp.set_same, hb, f0, f1, fun r b' s hb' => ?_⟩
    simp only [frac, wipeS, q_ecall, sx0, sx1, sx2, sx3, sx4, sx5, sx6, sx7, sx8, sx9, sx10, sx11, sx12, Nat.reduceAdd, Nat.reduceSub, Nat.reduceLT, Nat.reduceEqDiff, st0, endsOf]
    refine ⟨ha, ?_⟩
    exact hK3 _ _ ⟨r, rfl, s⟩ hb'
  · obtain ⟨rs, rfl, s⟩ := fracs_of ha
    rw [rangeS_length, List.length_map] at hl3
    exact q rs b3 (by omega) s hb3
def spRowAt (lv k : Nat) : SSp := fun args h R X => lv ≤ k ∧ ∃ (p : Addr) (b : List SV) (ps : List (Int × Int)) (far : Int), args = [.ref p, .tup (pairsV ps), .int far] ∧ h p = some (.lst b) ∧ Drawn b ∧ ps ≠ [] ∧ StOk ps ∧ 1 ≤ far ∧ far < 2 ^ 60 ∧
  ∀ (ws : List Int) (m : Int) (b' : List SV), ws.length = ps.length → Near far ws → Sm 3003 m → keepB ws m ps = true → Drawn b' → R (rowS ws m) (h.set p (.lst b'))
def b_rowAt : List SS := [.asg (.nm 3) (.call "_law_weights" [(.var 0), (.bi .len [(.var 1)]), (.var 2)]), .asg (.tup [(.nm 4), (.nm 5)]) (.call "_law_value" [(.var 3), (.var 1)]), .ret (.tup [(.var 3), (.bin .Add (.bin .Sub (.cst (.int 0)) (.bin .FloorDiv (.bin .Sub (.cst (.int 0)) (.var 4)) (.var 5))) (.ix (.lst [(.cst (.int 0)), (.cst (.int 0)), (.cst (.int 1)), (.call "_law_take" [(.var 0), (.cst (.int 12))])]) (.call "_law_take" [(.var 0), (.cst (.int 4))])))])]
theorem row_at_ok {l1 l2 l3 : Nat} (c1 : G.call "_law_weights" = spWeights l1 k) (c2 : G.call "_law_value" = spValue l2 k) (c3 : G.call "_law_take" = spTake l3 k) (hl1 : l1 < lv) (hl2 : l2 < lv) (hl3 : l3 < lv) (q : spRowAt lv (k + 1) args h R X) : args.length = 3 ∧ wpSs G b_rowAt (st0 6 args) h (endsOf R) := by
  obtain ⟨h0, p, b, ps, far, rfl, hp, hb, ne, sp, f0, f1, q⟩ := q
  have pl : 0 < ps.length := by
    cases ps with
    | nil => exact absurd rfl ne
    | cons a b => simp
  have pl2 := sp.1
  refine ⟨rfl, ?_⟩
  unfold b_rowAt
  simp only [q_ecall, sx0, sx1, sx2, sx3, sx4, sx5, sx6, sx7, sx8, sx9, sx10, sx11, sx12, Nat.reduceAdd, Nat.reduceSub, Nat.reduceLT, Nat.reduceEqDiff, st0, endsOf, c1, pairsV_len]
  rw [← set_id hp]
  refine ⟨by omega, p, b, ps.length, far, rfl, SHp.set_same, hb, by omega, by omega, f0, f1, fun ws b1 e1 nr hb1 => ?_⟩
  simp only [q_ecall, sx0, sx1, sx2, sx3, sx4, sx5, sx6, sx7, sx8, sx9, sx10, sx11, sx12, Nat.reduceAdd, Nat.reduceSub, Nat.reduceLT, Nat.reduceEqDiff, st0, endsOf, c2]
  refine ⟨by omega, ws, ps, rfl, nr.sm f1 (by decide), sp, ?_⟩
  have sv := valQ_sm (nr.sm f1 (by decide)) sp
  have hd := den_pos (valQ ws ps)
  simp only [q_ecall, sx0, sx1, sx2, sx3, sx4, sx5, sx6, sx7, sx8, sx9, sx10, sx11, sx12, Nat.reduceAdd, Nat.reduceSub, Nat.reduceLT, Nat.reduceEqDiff, st0, endsOf, frac, c3]
  refine ⟨sv.2.divOk (by decide) hd, ?_⟩
  refine take_go (by omega) hb1 (by decide) (by decide) fun r1 b2 g1 g2 hb2 => ?_
  simp only [q_ecall, sx0, sx1, sx2, sx3, sx4, sx5, sx6, sx7, sx8, sx9, sx10, sx11, sx12, Nat.reduceAdd, Nat.reduceSub, Nat.reduceLT, Nat.reduceEqDiff, st0, endsOf, c3]
  refine take_go (by omega) hb2 (by decide) (by decide) fun r2 b3 g3 g4 hb3 => ?_
  obtain ⟨d, ed, hd1, hd2⟩ : ∃ d : Int, atI [SV.int 0, .int 0, .int 1, .int r1] r2 = some (.int d) ∧ 0 ≤ d ∧ d ≤ 12 := by
    have : r2 = 0 ∨ r2 = 1 ∨ r2 = 2 ∨ r2 = 3 := by omega
    rcases this with rfl | rfl | rfl | rfl
    · exact ⟨0, rfl, by omega, by omega⟩
    · exact ⟨0, rfl, by omega, by omega⟩
    · exact ⟨1, rfl, by omega, by omega⟩
    · exact ⟨r1, rfl, by omega, by omega⟩
  simp only [q_ecall, sx0, sx1, sx2, sx3, sx4, sx5, sx6, sx7, sx8, sx9, sx10, sx11, sx12, Nat.reduceAdd, Nat.reduceSub, Nat.reduceLT, Nat.reduceEqDiff, st0, endsOf, ed]
  refine q ws _ b3 (by omega) nr ?s ?kp hb3
  case kp =>
    unfold keepB
    refine decide_eq_true ?_
    have h1 := Int.ediv_mul_le (0 - (valQ ws ps).num) (b := ((valQ ws ps).den : Int)) (by omega)
    have h2 : 0 ≤ d * ((valQ ws ps).den : Int) := Int.mul_nonneg hd1 (by omega)
    rw [Int.add_mul, Int.sub_mul]
    omega
  have z0 : Sm 3000 0 := Sm.small (by decide) (by decide)
  have a1 : Sm 3001 (0 - (valQ ws ps).num) := z0.sub sv.1
  have a2 : Sm 3001 ((0 - (valQ ws ps).num) / ((valQ ws ps).den : Int)) := a1.div
  exact ((z0.mono (by decide)).sub a2).add (Sm.small (by omega) (by decide))
end
end SL
/-! F14: lots: rows each once, counts, states of a lot. -/
namespace SL
open PySem PySem.Spec L2
/-! ### plain rows keep the same states -/
theorem keepB_rat {ws : List Int} {b : Int} {ps : List (Int × Int)} : keepB ws b ps = decide (valQ ws ps ≤ (b : Rat)) := by
  unfold keepB
  rw [decide_eq_decide, Rat.le_iff]
  simp
theorem valA_scale {d : Int} (hd : d ≠ 0) : ∀ {ws : List Int} {ps : List (Int × Int)} {a : Rat}, (∀ w ∈ ws, d ∣ w) → valA a (ws.map (· / d)) ps * (d : Rat) = valA (a * d) ws ps
  | [], ps, a, _ => by simp [valA]
  | w :: ws, [], a, _ => by simp [valA]
  | w :: ws, p :: ps, a, h => by
    simp only [List.map_cons, valA]
    rw [valA_scale hd fun z hz => h z (List.mem_cons_of_mem _ hz)]
    have ed : (d : Rat) = Rat.divInt d 1 := by
      have := rat_self (d : Rat)
      simpa using this.symm
    have e : (a + Rat.divInt (w / d * p.1) p.2) * (d : Rat) = a * d + Rat.divInt (w * p.1) p.2 := by
      obtain ⟨c, rfl⟩ := h w List.mem_cons_self
      rw [Int.mul_ediv_cancel_left _ hd, Rat.add_mul, ed, Rat.divInt_mul_divInt, Int.mul_one]
      congr 2
      rw [Int.mul_comm, ← Int.mul_assoc]
    rw [e]
def plainR (r : RowT) : RowT := (plainW r.1 r.2, plainB r.1 r.2)
theorem keep_plain {ws : List Int} {b : Int} {ps : List (Int × Int)} : keepB (plainW ws b) (plainB ws b) ps = keepB ws b ps := by
  by_cases e : byOf ws b = 0
  · obtain ⟨h1, h2⟩ := byOf_zero e
    rw [h1, h2]
  · have hh := gcdL_dvd (ns := ws) (g := b.natAbs)
    have h1 : ((byOf ws b : Nat) : Int) ∣ b := Int.ofNat_dvd_left.mpr hh.1
    have h2 : ∀ n ∈ ws, ((byOf ws b : Nat) : Int) ∣ n := hh.2
    have hd : (0 : Int) < (byOf ws b : Int) := by omega
    rw [keepB_rat, keepB_rat, decide_eq_decide]
    unfold plainW plainB
    generalize ((byOf ws b : Nat) : Int) = d at *
    have e1 : valQ (ws.map (· / d)) ps * (d : Rat) = valQ ws ps := by
      unfold valQ
      rw [valA_scale (by omega) h2, Rat.zero_mul]
    have e2 : ((b / d : Int) : Rat) * (d : Rat) = (b : Rat) := by
      rw [← Rat.intCast_mul, Int.ediv_mul_cancel h1]
    have hg : (0 : Rat) < (d : Rat) := by
      have := Rat.intCast_lt_intCast.mpr hd
      simpa using this
    rw [← e1, ← e2]
    exact ⟨fun h => Rat.mul_le_mul_of_nonneg_right h (Rat.le_of_lt hg), fun h => Rat.le_of_mul_le_mul_right h hg⟩
/-! ### each once -/
def onceR (seen : List RowT) : List RowT → List RowT
  | [] => []
  | r :: rs => if r ∈ seen then onceR seen rs else r :: onceR (seen ++ [r]) rs
def rk (r : RowT) : NestedKey := .tup [.tup (r.1.map .num), .num r.2]
theorem nks_ints : ∀ ns : List Int, nks (intsV ns) = some (ns.map .num)
  | [] => rfl
  | n :: ns => by
    have := nks_ints ns
    unfold intsV at this ⊢
    simp only [List.map_cons, nks, nk, this]
theorem nk_row {r : RowT} : nk (rowS r.1 r.2) = some (rk r) := by
  unfold rowS
  simp only [nk, nks, nks_ints, rk]
theorem num_inj : ∀ {xs ys : List Int}, xs.map NestedKey.num = ys.map NestedKey.num → xs = ys
  | [], [], _ => rfl
  | [], _ :: _, h => by simp at h
  | _ :: _, [], h => by simp at h
  | x :: xs, y :: ys, h => by
    simp only [List.map_cons, List.cons.injEq, NestedKey.num.injEq] at h
    rw [h.1, num_inj h.2]
theorem rk_inj {r q : RowT} (h : rk r = rk q) : r = q := by
  unfold rk at h
  simp only [NestedKey.tup.injEq, List.cons.injEq, NestedKey.num.injEq, and_true] at h
  exact Prod.ext (num_inj h.1) h.2
theorem rk_mem {r : RowT} {seen : List RowT} : rk r ∈ seen.map rk ↔ r ∈ seen := by
  constructor
  · intro h
    obtain ⟨q, hq, e⟩ := List.mem_map.mp h
    rw [← rk_inj e]
    exact hq
  · exact fun h => List.mem_map_of_mem h
theorem once_rows : ∀ {rs seen : List RowT}, onceL (seen.map rk) (rowsV rs) = rowsV (onceR seen rs)
  | [], _ => rfl
  | r :: rs, seen => by
    have e : rowsV (r :: rs) = rowS r.1 r.2 :: rowsV rs := rfl
    rw [e]
    simp only [onceL, nk_row, onceR]
    by_cases h : r ∈ seen
    · rw [if_pos (rk_mem.mpr h), if_pos h]
      exact once_rows
    · rw [if_neg fun z => h (rk_mem.mp z), if_neg h]
      have e2 : rowsV (r :: onceR (seen ++ [r]) rs) = rowS r.1 r.2 :: rowsV (onceR (seen ++ [r]) rs) := rfl
      rw [e2, ← once_rows, List.map_append]
      rfl
theorem depth_ints : ∀ ns : List Int, NestedKey.depthAll (ns.map .num) = 0
  | [] => rfl
  | n :: ns => by
    simp only [List.map_cons, NestedKey.depthAll, NestedKey.depth, depth_ints ns]
    rfl
theorem rows_once {rs : List RowT} : ∀ y ∈ rowsV rs, onceOk y = true := by
  intro y hy
  obtain ⟨r, hr, rfl⟩ := List.mem_map.mp hy
  have e : onceOk (rowS r.1 r.2) = decide ((rk r).depth ≤ 8) := by
    have := nk_row (r := r)
    unfold rowS at this ⊢
    simp only [onceOk, this]
  rw [e]
  refine decide_eq_true ?_
  unfold rk
  simp only [NestedKey.depth, NestedKey.depthAll, depth_ints]
  decide
theorem mem_once : ∀ {rs seen : List RowT} {r : RowT}, (r ∈ onceR seen rs → r ∈ rs) ∧ (r ∈ rs → r ∈ seen ∨ r ∈ onceR seen rs)
  | [], seen, r => ⟨fun h => by simp [onceR] at h, fun h => by simp at h⟩
  | q :: rs, seen, r => by
    simp only [onceR]
    by_cases hq : q ∈ seen
    · rw [if_pos hq]
      obtain ⟨h1, h2⟩ := mem_once (rs := rs) (seen := seen) (r := r)
      refine ⟨fun h => List.mem_cons_of_mem _ (h1 h), fun h => ?_⟩
      rcases List.mem_cons.mp h with rfl | h
      · exact .inl hq
      · exact h2 h
    · rw [if_neg hq]
      obtain ⟨h1, h2⟩ := mem_once (rs := rs) (seen := seen ++ [q]) (r := r)
      refine ⟨fun h => ?_, fun h => ?_⟩
      · rcases List.mem_cons.mp h with rfl | h
        · exact List.mem_cons_self
        · exact List.mem_cons_of_mem _ (h1 h)
      · rcases List.mem_cons.mp h with rfl | h
        · exact .inr List.mem_cons_self
        · rcases h2 h with h | h
          · rcases List.mem_append.mp h with h | h
            · exact .inl h
            · rw [List.mem_singleton] at h
              exact .inr (by rw [h]; exact List.mem_cons_self)
          · exact .inr (List.mem_cons_of_mem _ h)
theorem mem_once0 {rs : List RowT} {r : RowT} : r ∈ onceR [] rs ↔ r ∈ rs :=
  ⟨mem_once.1, fun h => by
    rcases mem_once (seen := []).2 h with h | h
    · cases h
    · exact h⟩
/-- what a lot keeps of rows -/
def keptR (rs : List RowT) : List RowT := onceR [] (rs.map plainR)
theorem kept_all {rs : List RowT} {ps : List (Int × Int)} : ((keptR rs).all fun r => keepB r.1 r.2 ps) = rs.all fun r => keepB r.1 r.2 ps := by
  rw [Bool.eq_iff_iff, List.all_eq_true, List.all_eq_true]
  constructor
  · intro h r hr
    have := h (plainR r) (mem_once0.mpr (List.mem_map_of_mem hr))
    unfold plainR at this
    rw [← keep_plain]
    exact this
  · intro h r hr
    obtain ⟨q, hq, rfl⟩ := List.mem_map.mp (mem_once0.mp hr)
    unfold plainR
    rw [keep_plain]
    exact h q hq
theorem SmL.plain {n : Nat} {ws : List Int} {b : Int} (h : SmL n ws) : SmL n (plainW ws b) := fun m hm => by
  unfold plainW at hm
  obtain ⟨w, hw, rfl⟩ := List.mem_map.mp hm
  exact (h w hw).div
theorem plain_len {ws : List Int} {b : Int} : (plainW ws b).length = ws.length := by simp [plainW]
theorem kept_sm {n m : Nat} {rs : List RowT} (h : ∀ r ∈ rs, SmL n r.1 ∧ Sm m r.2) : ∀ r ∈ keptR rs, SmL n r.1 ∧ Sm m r.2 := fun r hr => by
  obtain ⟨q, hq, rfl⟩ := List.mem_map.mp (mem_once0.mp hr)
  exact ⟨(h q hq).1.plain, (h q hq).2.div⟩
theorem once_len : ∀ {rs seen : List RowT}, (onceR seen rs).length ≤ rs.length
  | [], _ => Nat.le_refl _
  | r :: rs, seen => by
    simp only [onceR]
    split
    · have := once_len (rs := rs) (seen := seen)
      simp only [List.length_cons]
      omega
    · have := once_len (rs := rs) (seen := seen ++ [r])
      simp only [List.length_cons]
      omega
theorem kept_len {rs : List RowT} : (keptR rs).length ≤ rs.length := by
  have := once_len (rs := rs.map plainR) (seen := [])
  rw [List.length_map] at this
  exact this
/-- a comprehension over told values that computes, and nothing else -/
theorem lc_of {α : Type} {gd : Gd} {vs : List Nat} {tg : SV → SSt → SHp → (SSt → SHp → Prop) → Prop} {test : SSt → SHp → (Bool → SSt → SHp → Prop) → Prop} {elt : SSt → SHp → Post → Prop} {Q : List SV → SSt → SHp → Prop} {δ : SSt} {h : SHp} {enc : α → SV} {zs : List α}
    (f : α → SV) (hz : zs.length ≤ sizeLine) (hg : gd h)
    (step : ∀ x ∈ zs, ∀ acc (K : List SV → SSt → SHp → Prop), acc.length < sizeLine → K (acc ++ [f x]) δ h → tg (enc x) δ h fun δ1 h1 => test δ1 h1 fun c δ2 h2 => match c with
      | true => elt δ2 h2 fun d δ3 h3 => stow d δ3 h3 fun e δ4 h4 => acc.length < sizeLine ∧ K (acc ++ [e]) (wipeS δ4 vs) h4
      | false => K acc (wipeS δ2 vs) h2)
    (fin : Q (zs.map f) δ h) : lcLoop gd vs tg test elt (zs.map enc) [] δ h Q := by
  refine lc_rule (fun done todo acc δ' h' => δ' = δ ∧ h' = h ∧ ∃ z1 z2, z1 ++ z2 = zs ∧ todo = z2.map enc ∧ acc = z1.map f) ⟨rfl, rfl, [], zs, rfl, rfl, rfl⟩ ?_ ?_
  · rintro done x todo acc _ _ K ⟨rfl, rfl, z1, z2, e, e2, rfl⟩ hK
    cases z2 with
    | nil => simp at e2
    | cons z z2 =>
      simp only [List.map_cons, List.cons.injEq] at e2
      obtain ⟨rfl, rfl⟩ := e2
      have hlen : z1.length + z2.length + 1 = zs.length := by rw [← e]; simp; omega
      exact ⟨hg, step z (by rw [← e]; simp) _ K (by rw [List.length_map]; omega) (hK _ _ _ ⟨rfl, rfl, z1 ++ [z], z2, by rw [← e]; simp, rfl, by simp⟩)⟩
  · rintro acc _ _ ⟨rfl, rfl, z1, z2, e, e2, rfl⟩
    have : z2 = [] := by
      cases z2 with
      | nil => rfl
      | cons z z2 => simp at e2
    subst this
    rw [List.append_nil] at e
    subst e
    exact ⟨hg, fin⟩
theorem cmulL {i j : Int} (h1 : -(2 ^ 64) < i) (h2 : i < 2 ^ 64) : IntMulOk i j := CMul.ok (.inl ⟨h1, h2⟩)
theorem fracs_pairs (rs : List Rat) : rs.map frac = pairsV (rs.map fun r => (r.num, (r.den : Int))) := by
  simp [pairsV, frac, pair, List.map_map, Function.comp_def]
theorem fracs_st {rs : List Rat} (h : ∀ r ∈ rs, SmR 64 r) (hl : rs.length ≤ 8) : StOk (rs.map fun r => (r.num, (r.den : Int))) := by
  refine ⟨by simp; omega, fun p hp => ?_⟩
  obtain ⟨r, hr, rfl⟩ := List.mem_map.mp hp
  exact ⟨den_pos r, (h r hr).1.mono (by decide), (h r hr).2.mono (by decide)⟩
theorem pairs_map (f : SV → SV) (g : Int × Int → Int × Int) (hf : ∀ a b, f (.tup [.int a, .int b]) = pair (g (a, b)).1 (g (a, b)).2) : ∀ ps : List (Int × Int), (pairsV ps).map f = pairsV (ps.map g)
  | [] => rfl
  | (a, b) :: ps => by
    have e : (pairsV ps).map f = pairsV (ps.map g) := pairs_map f g hf ps
    simp only [pairsV, List.map_cons, List.cons.injEq] at e ⊢
    exact ⟨hf a b, e⟩
theorem cut_sub {α : Type} {xs : List α} {lo hi : Option Int} {x : α} (h : x ∈ cut xs lo hi) : x ∈ xs := List.mem_of_mem_drop (List.mem_of_mem_take h)
end SL
/-! FT1: numbers and rows as texts, plainly. -/
namespace SL
open PySem PySem.Spec L2
section
open TL NumText
theorem str_eq {x y : Str} : x = y ↔ tl x = tl y := ⟨fun e => by rw [e], ext_tl⟩
/-- a text of one sign ahead -/
theorem starts_one {z y : Str} {c : Nat} (hy : tl y = [c]) : Txt.startswith z y = decide ((tl z).head? = some c) := by
  have e : Txt.startswith z y = (decide (y.length ≤ z.length) && (z.cps.extract 0 (0 + y.length) == y.cps)) := by
    simp only [Txt.startswith, Nat.zero_add, Builtin.Str.subAt]
  have ly : y.length = 1 := by rw [len_tl, hy]; rfl
  have cy : y.cps = #[c] := by
    apply Array.toList_inj.mp
    exact hy
  rw [e, ly]
  have lz := len_tl z
  obtain ⟨a⟩ := z
  obtain ⟨l⟩ := a
  rw [cy]
  cases l with
  | nil =>
    have h1 : ¬ (1 : Nat) ≤ (Str.length ⟨⟨[]⟩⟩) := by simp [Str.length]
    rw [decide_eq_false h1, Bool.false_and]
    exact (decide_eq_false (by show ¬ ([] : List Nat).head? = some c; simp)).symm
  | cons x l =>
    have : (1 : Nat) ≤ (Str.length ⟨⟨x :: l⟩⟩) := by simp [Str.length]
    rw [decide_eq_true this, Bool.true_and]
    have e2 : ((⟨x :: l⟩ : Array Nat).extract 0 (0 + 1)) = #[x] := by simp
    show (((⟨x :: l⟩ : Array Nat).extract 0 (0 + 1)) == #[c]) = decide ((x :: l).head? = some c)
    rw [e2]
    by_cases q : x = c
    · subst q
      simp
    · simp [q]
theorem digits_mem (c : Nat) : c ∈ (("0123456789" : String) : Str).cps.toList ↔ 48 ≤ c ∧ c ≤ 57 := by
  have e : (("0123456789" : String) : Str).cps.toList = [48, 49, 50, 51, 52, 53, 54, 55, 56, 57] := by decide
  rw [e]
  simp
  omega
/-- the figures of a word -/
def figL (l : List Nat) : List Nat := if l.head? = some 45 then l.tail else l
def numB (l : List Nat) : Bool := (decide (1 ≤ (figL l).length) && decide ((figL l).length ≤ 20)) && ((figL l).all (fun c => decide (48 ≤ c) && decide (c ≤ 57)) && !(decide ((figL l).head? = some 48) && !decide (l = [48])))
def numV (l : List Nat) : Int := if l.head? = some 45 then -((digitsVal l.tail : Nat) : Int) else ((digitsVal l : Nat) : Int)
/-- the number that a word writes plainly -/
def numIn (z : Str) : Option Int := if numB (tl z) = true then some (numV (tl z)) else none
theorem numB_int {z : Str} (h : numB (tl z) = true) : PySem.intText? z = some (numV (tl z)) ∧ z.length ≤ 21 := by
  unfold numB at h
  simp only [Bool.and_eq_true, decide_eq_true_eq] at h
  obtain ⟨⟨h1, h2⟩, h3, _⟩ := h
  have ad : AllDigits (figL (tl z)) := by
    intro c hc
    have := List.all_eq_true.mp h3 c hc
    simp only [Bool.and_eq_true, decide_eq_true_eq] at this
    exact this
  have ne : figL (tl z) ≠ [] := by
    intro e
    rw [e] at h1
    simp at h1
  have lz := len_tl z
  unfold figL at ad ne h1 h2
  unfold numV
  split
  · rename_i e
    rw [if_pos e] at ad ne h1 h2
    obtain ⟨cs, ec⟩ : ∃ cs, tl z = 45 :: cs := by
      cases q : tl z with
      | nil => rw [q] at e; cases e
      | cons x l =>
        rw [q] at e
        simp at e
        exact ⟨l, by rw [e]⟩
    rw [ec] at ad ne h1 h2 ⊢
    simp only [List.tail_cons] at ad ne h1 h2 ⊢
    rw [ec] at lz
    simp only [List.length_cons] at lz
    exact ⟨intText_neg ec ad ne (by omega), by omega⟩
  · rename_i e
    rw [if_neg e] at ad ne h1 h2
    exact ⟨intText_digits ad ne (by omega), by omega⟩
/-- a number's own text -/
def itoa (i : Int) : Str := ((toString i : String) : Str)
theorem tl_itoa (i : Int) : tl (itoa i) = if i < 0 then 45 :: numL i.natAbs else numL i.natAbs := by
  unfold itoa
  cases i with
  | ofNat n =>
    rw [if_neg (by have := Int.natCast_nonneg n; show ¬ ((n : Nat) : Int) < 0; omega)]
    exact tl_num n
  | negSucc n =>
    rw [if_pos (Int.negSucc_lt_zero n)]
    show tl (Str.ofString ("-" ++ toString (n + 1))) = _
    rw [tl_ofString, String.toList_append, List.map_append]
    have e := tl_num (n + 1)
    rw [tl_ofString] at e
    have e2 : (toString (((n + 1 : Nat)) : Int) : String) = toString (n + 1) := rfl
    rw [e2] at e
    rw [e]
    rfl
theorem numL_head {n : Nat} (h : (numL n).head? = some 48) : n = 0 := by
  induction n using Nat.strongRecOn with
  | _ n ih =>
    by_cases hn : n < 10
    · rw [numL_lt hn] at h
      simp at h
      exact h
    · rw [numL_step (by omega)] at h
      cases e : numL (n / 10) with
      | nil => exact absurd e (numL_ne _)
      | cons x l =>
        rw [e] at h
        have : (numL (n / 10)).head? = some 48 := by rw [e]; simpa using h
        have := ih (n / 10) (by omega) this
        omega
theorem numIn_itoa {i : Int} (h : i.natAbs < 10 ^ 20) : numIn (itoa i) = some i := by
  have len : (numL i.natAbs).length ≤ 20 := numL_len (by decide) h
  have pos : 1 ≤ (numL i.natAbs).length := by
    cases e : numL i.natAbs with
    | nil => exact absurd e (numL_ne _)
    | cons _ _ => simp
  have dig : (numL i.natAbs).all (fun c => decide (48 ≤ c) && decide (c ≤ 57)) = true := List.all_eq_true.mpr fun c hc => by
    have := numL_digits i.natAbs c hc
    simp only [Bool.and_eq_true, decide_eq_true_eq]
    exact this
  have hd : (numL i.natAbs).head? ≠ some 45 := by
    intro e
    have : 45 ∈ numL i.natAbs := List.mem_of_mem_head? (by rw [e]; rfl)
    exact numL_free (.inl (by decide)) this
  unfold numIn
  by_cases neg : i < 0
  · have t := tl_itoa i
    rw [if_pos neg] at t
    have f : figL (tl (itoa i)) = numL i.natAbs := by rw [t]; simp [figL]
    have nz : (numL i.natAbs).head? ≠ some 48 := fun e => by
      have := numL_head e
      omega
    rw [if_pos (by
      unfold numB
      rw [f]
      simp [len, pos, dig, nz])]
    rw [t]
    unfold numV
    simp only [List.head?_cons, if_pos, List.tail_cons]
    rw [numL_val]
    congr 1
    omega
  · have t := tl_itoa i
    rw [if_neg neg] at t
    have f : figL (tl (itoa i)) = numL i.natAbs := by rw [t]; simp [figL, hd]
    have z : (numL i.natAbs).head? = some 48 → numL i.natAbs = [48] := fun e => by
      have := numL_head e
      rw [this]
      rw [numL_lt (by decide)]
    rw [if_pos (by
      unfold numB
      rw [f, t]
      by_cases e : (numL i.natAbs).head? = some 48
      · have := z e
        simp [len, pos, dig, e, this] 
      · simp [len, pos, dig, e])]
    rw [t]
    unfold numV
    rw [if_neg hd, numL_val]
    congr 1
    omega
theorem itoa_free {i : Int} {s : Nat} (h : (s < 48 ∨ 57 < s) ∧ s ≠ 45) : s ∉ tl (itoa i) := by
  rw [tl_itoa]
  split
  · intro m
    rcases List.mem_cons.mp m with e | m
    · exact h.2 e
    · exact numL_free h.1 m
  · exact numL_free h.1
theorem itoa_len {i : Int} {k : Nat} (hk : 0 < k) (h : i.natAbs < 10 ^ k) : (itoa i).length ≤ k + 1 := by
  have := numL_len hk h
  rw [len_tl, tl_itoa]
  split <;> simp <;> omega
/-- a row as a text -/
def rowText (ws : List Int) (b : Int) : Str := Txt.join ((" " : String) : Str) (ws.map itoa ++ [(("<=" : String) : Str), itoa b])
def allSome : List (Option Int) → Option (List Int)
  | [] => some []
  | none :: _ => none
  | some i :: r => (allSome r).map (i :: ·)
/-- the row of so many weights that a text writes -/
def rowIn (z : Str) (n : Nat) : Option (List Int × Int) :=
  if (Txt.split z ((" " : String) : Str)).length = n + 2 ∧ (Txt.split z ((" " : String) : Str))[n]? = some (("<=" : String) : Str) then
    (match allSome (((Txt.split z ((" " : String) : Str)).take n).map numIn), ((Txt.split z ((" " : String) : Str))[n + 1]?).bind numIn with
    | some ws, some b => some (ws, b)
    | _, _ => none)
  else none
theorem allSome_map {is : List Int} (h : ∀ i ∈ is, i.natAbs < 10 ^ 20) : allSome ((is.map itoa).map numIn) = some is := by
  induction is with
  | nil => rfl
  | cons i is ih =>
    simp only [List.map_cons, numIn_itoa (h i List.mem_cons_self), allSome]
    rw [ih fun j hj => h j (List.mem_cons_of_mem _ hj)]
    rfl
theorem rowIn_text {ws : List Int} {b : Int} (h : ∀ i ∈ ws, i.natAbs < 10 ^ 20) (hb : b.natAbs < 10 ^ 20) : rowIn (rowText ws b) ws.length = some (ws, b) := by
  have sp : Txt.split (rowText ws b) ((" " : String) : Str) = ws.map itoa ++ [(("<=" : String) : Str), itoa b] := by
    refine split_join (s := 32) (S := []) (by decide) (by decide +kernel) (by simp) fun p hp => ?_
    rcases List.mem_append.mp hp with hp | hp
    · obtain ⟨i, _, rfl⟩ := List.mem_map.mp hp
      exact itoa_free ⟨.inl (by decide), by decide⟩
    · simp only [List.mem_cons, List.mem_nil_iff, or_false] at hp
      rcases hp with rfl | rfl
      · decide
      · exact itoa_free ⟨.inl (by decide), by decide⟩
  unfold rowIn
  rw [sp]
  have l : (ws.map itoa).length = ws.length := List.length_map _
  rw [if_pos ⟨by simp, by rw [List.getElem?_append_right (by omega), l, Nat.sub_self]; rfl⟩]
  have e1 : (ws.map itoa ++ [(("<=" : String) : Str), itoa b]).take ws.length = ws.map itoa := by
    rw [← l, List.take_left]
  have e2 : (ws.map itoa ++ [(("<=" : String) : Str), itoa b])[ws.length + 1]? = some (itoa b) := by
    rw [List.getElem?_append_right (by omega), l, show ws.length + 1 - ws.length = 1 by omega]
    rfl
  rw [e1, e2, allSome_map h]
  simp only [Option.bind_some, numIn_itoa hb]
end
end SL
/-! F43: numbers and rows as texts: the walks. -/
namespace SL
open PySem PySem.Spec L2
open TL (tl len_tl tl_append ext_tl)
/-- a text of so many plain signs -/
structure TxOk (n : Nat) (z : Str) : Prop where
  len : z.length ≤ n
  asc : ∀ c ∈ tl z, c < 128
theorem TxOk.mono {n m : Nat} {z : Str} (t : TxOk n z) (h : n ≤ m) : TxOk m z := ⟨Nat.le_trans t.len h, t.asc⟩
theorem TxOk.ok {n : Nat} {z : Str} (t : TxOk n z) : PyData.strOk z = true := by
  unfold PyData.strOk
  rw [Array.all_eq_true']
  intro c hc
  have := t.asc c (by show c ∈ z.cps.toList; simpa using hc)
  simp
  omega
theorem TxOk.app {n m : Nat} {x y : Str} (a : TxOk n x) (b : TxOk m y) : TxOk (n + m) (x ++ y) := by
  have e := tl_append x y
  refine ⟨?_, fun c hc => ?_⟩
  · rw [len_tl, e, List.length_append, ← len_tl, ← len_tl]
    have := a.len
    have := b.len
    omega
  · rw [e] at hc
    rcases List.mem_append.mp hc with h | h
    · exact a.asc c h
    · exact b.asc c h
theorem tl_cut (z : Str) (lo hi : Option Int) : tl (cutS z lo hi) = ((tl z).drop (HT.sIx z.length 0 lo)).take (HT.sIx z.length z.length hi - HT.sIx z.length 0 lo) := by
  unfold cutS
  simp [tl]
theorem TxOk.cut {n : Nat} {z : Str} (t : TxOk n z) (lo hi : Option Int) : TxOk n (cutS z lo hi) := by
  refine ⟨?_, fun c hc => ?_⟩
  · have h1 := cutS_length z lo hi
    have h2 := t.len
    omega
  · rw [tl_cut] at hc
    exact t.asc c (List.mem_of_mem_drop (List.mem_of_mem_take hc))
theorem spl_mem {S : List Nat} : ∀ {l acc p : List Nat} {k : Nat}, p ∈ TL.spl S k acc l → ∀ c ∈ p, c ∈ acc ∨ c ∈ l
  | [], acc, p, k, h, c, hc => by
    rw [TL.spl_nil] at h
    rw [List.mem_singleton.mp h] at hc
    exact .inl hc
  | x :: l, acc, p, k, h, c, hc => by
    rw [TL.spl_pass] at h
    cases k with
    | zero =>
      rw [List.drop_zero] at h
      cases e : TL.pre S (x :: l) with
      | true =>
        rw [TL.spl_hit e] at h
        rcases List.mem_cons.mp h with rfl | h
        · exact .inl hc
        · rcases spl_mem h c hc with z | z
          · cases z
          · exact .inr (List.mem_cons_of_mem _ z)
      | false =>
        rw [TL.spl_miss e] at h
        rcases spl_mem h c hc with z | z
        · rcases List.mem_append.mp z with z | z
          · exact .inl z
          · rw [List.mem_singleton.mp z]
            exact .inr List.mem_cons_self
        · exact .inr (List.mem_cons_of_mem _ z)
    | succ k =>
      rw [List.drop_succ_cons, ← TL.spl_pass] at h
      rcases spl_mem h c hc with z | z
      · exact .inl z
      · exact .inr (List.mem_cons_of_mem _ z)
theorem spl_len {S : List Nat} : ∀ {l acc : List Nat} {k : Nat}, ((TL.spl S k acc l).map List.length).sum ≤ acc.length + l.length ∧ (TL.spl S k acc l).length ≤ l.length + 1 ∧ 1 ≤ (TL.spl S k acc l).length
  | [], acc, k => by
    rw [TL.spl_nil]
    simp
  | x :: l, acc, k => by
    rw [TL.spl_pass]
    cases k with
    | zero =>
      rw [List.drop_zero]
      cases e : TL.pre S (x :: l) with
      | true =>
        rw [TL.spl_hit e]
        have ih := spl_len (S := S) (l := l) (acc := []) (k := S.length - 1)
        simp only [List.map_cons, List.sum_cons, List.length_cons, List.length_nil] at ih ⊢
        omega
      | false =>
        rw [TL.spl_miss e]
        have ih := spl_len (S := S) (l := l) (acc := acc ++ [x]) (k := 0)
        simp only [List.length_append, List.length_cons, List.length_nil] at ih ⊢
        omega
    | succ k =>
      rw [List.drop_succ_cons, ← TL.spl_pass]
      have ih := spl_len (S := S) (l := l) (acc := acc) (k := k)
      simp only [List.length_cons]
      omega
theorem split_tl {z y : Str} {s : Nat} {S : List Nat} (ey : tl y = s :: S) (hk : y.cps.all (· < 256) = true) : (Txt.split z y).map tl = TL.spl (s :: S) 0 [] (tl z) := by
  rw [TL.split_spl _ y (by rw [ey]; simp) (TL.kind_ok hk), ey]
theorem le_sum : ∀ {l : List Nat} {x : Nat}, x ∈ l → x ≤ l.sum
  | a :: l, x, h => by
    rw [List.sum_cons]
    rcases List.mem_cons.mp h with rfl | h
    · omega
    · have := le_sum h
      omega
theorem TxOk.split {n : Nat} {z y : Str} {s : Nat} {S : List Nat} (ey : tl y = s :: S) (hk : y.cps.all (· < 256) = true) (t : TxOk n z) : (∀ p ∈ Txt.split z y, TxOk n p) ∧ (Txt.split z y).length ≤ n + 1 ∧ 1 ≤ (Txt.split z y).length ∧ ((Txt.split z y).map (·.length)).sum ≤ n := by
  have e := split_tl (z := z) ey hk
  have l := spl_len (S := s :: S) (l := tl z) (acc := []) (k := 0)
  rw [← e] at l
  have lz := len_tl z
  have tn := t.len
  simp only [List.length_nil, List.length_map, List.map_map] at l
  have e2 : (Txt.split z y).map (List.length ∘ tl) = (Txt.split z y).map (·.length) := List.map_congr_left fun p _ => (len_tl p).symm
  rw [e2] at l
  refine ⟨fun p hp => ⟨?_, fun c hc => ?_⟩, by omega, by omega, by omega⟩
  · have : p.length ≤ ((Txt.split z y).map (·.length)).sum := le_sum (List.mem_map_of_mem (f := fun p : Str => p.length) hp)
    omega
  · have hm : tl p ∈ TL.spl (s :: S) 0 [] (tl z) := by rw [← e]; exact List.mem_map_of_mem hp
    rcases spl_mem hm c hc with h | h
    · cases h
    · exact t.asc c h
theorem joinL_mem {S : List Nat} : ∀ {ps : List (List Nat)} {c : Nat}, c ∈ TL.joinL S ps → c ∈ S ∨ ∃ p ∈ ps, c ∈ p
  | [], c, h => by cases h
  | [p], c, h => .inr ⟨p, List.mem_cons_self, h⟩
  | p :: q :: r, c, h => by
    have h : c ∈ p ++ (S ++ TL.joinL S (q :: r)) := h
    rcases List.mem_append.mp h with h | h
    · exact .inr ⟨p, List.mem_cons_self, h⟩
    · rcases List.mem_append.mp h with h | h
      · exact .inl h
      · rcases joinL_mem h with z | ⟨p', m, z⟩
        · exact .inl z
        · exact .inr ⟨p', List.mem_cons_of_mem _ m, z⟩
theorem joinL_len {S : List Nat} : ∀ {ps : List (List Nat)}, (TL.joinL S ps).length ≤ (ps.map List.length).sum + ps.length * S.length
  | [] => by simp [TL.joinL]
  | [p] => by
    show p.length ≤ _
    simp
  | p :: q :: r => by
    show (p ++ (S ++ TL.joinL S (q :: r))).length ≤ _
    have ih := joinL_len (S := S) (ps := q :: r)
    simp only [List.length_append, List.map_cons, List.sum_cons, List.length_cons, Nat.succ_mul] at ih ⊢
    omega
theorem TxOk.join {n m : Nat} {y : Str} {ps : List Str} (ty : ∀ c ∈ tl y, c < 128) (tp : ∀ p ∈ ps, ∀ c ∈ tl p, c < 128) (l : (ps.map (·.length)).sum + ps.length * y.length ≤ m) : TxOk m (Txt.join y ps) := by
  have e : tl (Txt.join y ps) = TL.joinL (tl y) (ps.map tl) := by rw [TL.join_eq, TL.tl_join]
  refine ⟨?_, fun c hc => ?_⟩
  · rw [len_tl, e]
    have := joinL_len (S := tl y) (ps := ps.map tl)
    have e2 : (ps.map tl).map List.length = ps.map (·.length) := by
      rw [List.map_map]
      exact List.map_congr_left fun p _ => (len_tl p).symm
    rw [e2, List.length_map, ← len_tl] at this
    omega
  · rw [e] at hc
    rcases joinL_mem hc with h | ⟨p, hp, h⟩
    · exact ty c h
    · obtain ⟨p', m', rfl⟩ := List.mem_map.mp hp
      exact tp p' m' c h
theorem itoa_tx {i : Int} (h : i.natAbs < 10 ^ 20) : TxOk 21 (itoa i) := by
  refine ⟨itoa_len (k := 20) (by decide) h, fun c hc => ?_⟩
  rw [tl_itoa] at hc
  have d : ∀ c ∈ TL.numL i.natAbs, c < 128 := fun c hc => by
    have := TL.numL_digits i.natAbs c hc
    omega
  split at hc
  · rcases List.mem_cons.mp hc with rfl | hc
    · decide
    · exact d c hc
  · exact d c hc
def optI : Option Int → SV
  | none => .non
  | some i => .int i
theorem log_small {i : Int} (h : i.natAbs < 10 ^ 20) : i.natAbs.log2 < 1920 := by
  by_cases z : i.natAbs = 0
  · rw [z]; decide
  · rw [Nat.log2_lt z]
    exact Nat.lt_of_lt_of_le h (Nat.le_trans (by decide : 10 ^ 20 ≤ 2 ^ 67) (Nat.pow_le_pow_right (by decide) (by decide)))
end SL
/-! F44: numbers and rows read: the walks. -/
namespace SL
open PySem PySem.Spec L2
open TL (tl len_tl tl_append ext_tl)
section
variable {G : Gm} {lv k : Nat} {args : List SV} {h : SHp} {R : SV → SHp → Prop} {X : SX → SHp → Prop}
def spNumIn (lv k : Nat) : SSp := fun args h R X => lv ≤ k ∧ ∃ z, args = [.str z] ∧ TxOk 100000 z ∧ R (optI (numIn z)) h
theorem fig_len {z fg : Str} (ef : tl fg = figL (tl z)) : fg.length = (figL (tl z)).length := by rw [len_tl, ef]
theorem tz_zero : (("0" : String) : Str) = ("0" : Str) := rfl
theorem tl_is {z : Str} {s : String} {l : List Nat} (e : tl (s : Str) = l) : z = (s : Str) ↔ tl z = l := by rw [str_eq, e]
theorem all_digits {z fg : Str} (ef : tl fg = figL (tl z)) : ((tl fg).all fun c => decide (c ∈ (("0123456789" : String) : Str).cps.toList)) = ((figL (tl z)).all fun c => decide (48 ≤ c) && decide (c ≤ 57)) := by
  rw [ef]
  refine congrArg (fun p => (figL (tl z)).all p) (funext fun c => ?_)
  rw [← Bool.decide_and, decide_eq_decide]
  exact digits_mem c
theorem numIn_no {z : Str} (h : numB (tl z) = false) : numIn z = none := by
  unfold numIn
  rw [if_neg (by rw [h]; decide)]
theorem numIn_yes {z : Str} (h : numB (tl z) = true) : numIn z = some (numV (tl z)) := by
  unfold numIn
  rw [if_pos h]
/-- the text without its sign -/
theorem fig_cut {z : Str} (h : (tl z).head? = some 45) : tl (cutS z (some 1) none) = figL (tl z) := by
  rw [tl_cut]
  have e : HT.sIx z.length 0 (some 1) = min 1 z.length := HT.sIx_nat z.length 0 1
  rw [e]
  show ((tl z).drop (min 1 z.length)).take (z.length - min 1 z.length) = _
  have lz := len_tl z
  cases q : tl z with
  | nil => rw [q] at h; cases h
  | cons x l =>
    rw [q] at lz h
    simp only [List.length_cons] at lz
    rw [lz]
    have : min 1 (l.length + 1) = 1 := by omega
    rw [this]
    simp only [figL, h, if_pos, List.tail_cons, List.drop_succ_cons, List.drop_zero]
    exact List.take_of_length_le (by omega)
theorem fig_same {z : Str} (h : ¬ (tl z).head? = some 45) : tl z = figL (tl z) := by
  unfold figL
  rw [if_neg h]
def b_numIn : List SS := [.asg (.nm 1) (.ife (.tm .starts (.var 0) (.cst (.str "-"))) (.sslc (.var 0) (some (.cst (.int 1))) none) (.var 0)), .ife (.bool false [(.not (.cmp2 .LtE .LtE (.cst (.int 1)) (.bi .len [(.var 1)]) (.glob "MOST_FIGURES" (.i (20))))), (.not (.bi .all [(.lc [("sign", 2)] (.nm 2) (.txt (.var 1)) [] (.t2 .inn (.var 2) (.glob "FIGURES" (.s "0123456789"))))]))]) [.ret (.cst .non)] [], .ife (.bool true [(.tm .starts (.var 1) (.cst (.str "0"))), (.cmp .NotEq (.var 0) (.cst (.str "0")))]) [.ret (.cst .non)] [], .ret (.bi .int [(.var 0)])]
theorem num_in_ok (q : spNumIn lv (k + 1) args h R X) : args.length = 1 ∧ wpSs G b_numIn (st0 3 args) h (endsOf R) := by
  obtain ⟨h0, z, rfl, tz, q⟩ := q
  have hz : (10000000 : Nat) < sizeLine := by decide
  have key : ∀ fg : Str, tl fg = figL (tl z) → fg.length ≤ 100000 → wpSs G [.ife (.bool false [(.not (.cmp2 .LtE .LtE (.cst (.int 1)) (.bi .len [(.var 1)]) (.glob "MOST_FIGURES" (.i (20))))), (.not (.bi .all [(.lc [("sign", 2)] (.nm 2) (.txt (.var 1)) [] (.t2 .inn (.var 2) (.glob "FIGURES" (.s "0123456789"))))]))]) [.ret (.cst .non)] [], .ife (.bool true [(.tm .starts (.var 1) (.cst (.str "0"))), (.cmp .NotEq (.var 0) (.cst (.str "0")))]) [.ret (.cst .non)] [], .ret (.bi .int [(.var 0)])] [some (.str z), some (.str fg), none] h (endsOf R) := by
    intro fg ef lf
    have el := fig_len ef
    have nb : numB (tl z) = ((decide (1 ≤ fg.length) && decide (fg.length ≤ 20)) && ((tl fg).all (fun c => decide (c ∈ (("0123456789" : String) : Str).cps.toList)) && !(decide ((tl fg).head? = some 48) && !decide (z = (("0" : String) : Str))))) := by
      unfold numB
      rw [all_digits ef, el, ef]
      have ez : decide (tl z = [48]) = decide (z = (("0" : String) : Str)) := decide_eq_decide.mpr (tl_is (s := "0") (l := [48]) (by decide)).symm
      rw [ez]
    have qn : numB (tl z) = false → R .non h := fun e => by rw [numIn_no e] at q; exact q
    simp only [q_ecall, sx0, sx1, sx2, sx3, sx4, sx5, sx6, sx7, sx8, sx9, sx10, sx11, sx12, Nat.reduceAdd, Nat.reduceSub, Nat.reduceLT, Nat.reduceEqDiff, st0, endsOf]
    rw [q_ife]
    simp only [q_ecall, sx0, sx1, sx2, sx3, sx4, sx5, sx6, sx7, sx8, sx9, sx10, sx11, sx12, Nat.reduceAdd, Nat.reduceSub, Nat.reduceLT, Nat.reduceEqDiff, st0, endsOf]
    refine ⟨by omega, ?_⟩
    refine cond_split (fun e1 => ?_) fun e1 => qn (by rw [nb]; simp at e1 ⊢; omega)
    refine cond_split (fun e2 => qn (by rw [nb]; simp at e2 ⊢; omega)) fun e2 => ?_
    have e1' : decide (1 ≤ fg.length) = true := by simp at e1 ⊢; omega
    have e2' : decide (fg.length ≤ 20) = true := by simp at e2 ⊢; omega
    rw [e1', e2', Bool.and_self, Bool.true_and] at nb
    rw [q_lc]
    simp only [q_itxt, wipeS, q_ecall, sx0, sx1, sx2, sx3, sx4, sx5, sx6, sx7, sx8, sx9, sx10, sx11, sx12, Nat.reduceAdd, Nat.reduceSub, Nat.reduceLT, Nat.reduceEqDiff, st0, endsOf]
    refine lc_of (enc := fun c : Nat => SV.str ⟨#[c]⟩) (zs := tl fg) (fun c => .bl (decide (c ∈ (("0123456789" : String) : Str).cps.toList))) (by rw [← len_tl]; omega) trivial (fun c hc acc K ha hK => ?_) ?_
    · simp only [wipeS, q_ecall, sx0, sx1, sx2, sx3, sx4, sx5, sx6, sx7, sx8, sx9, sx10, sx11, sx12, Nat.reduceAdd, Nat.reduceSub, Nat.reduceLT, Nat.reduceEqDiff, st0, endsOf]
      exact ⟨ha, hK⟩
    simp only [backS, SV.plain, q_ecall, sx0, sx1, sx2, sx3, sx4, sx5, sx6, sx7, sx8, sx9, sx10, sx11, sx12, Nat.reduceAdd, Nat.reduceSub, Nat.reduceLT, Nat.reduceEqDiff, st0, endsOf]
    refine bi_all (p := fun c => decide (c ∈ (("0123456789" : String) : Str).cps.toList)) ?_
    simp only [q_ecall, sx0, sx1, sx2, sx3, sx4, sx5, sx6, sx7, sx8, sx9, sx10, sx11, sx12, Nat.reduceAdd, Nat.reduceSub, Nat.reduceLT, Nat.reduceEqDiff, st0, endsOf]
    refine cond_split (fun e3 => qn (by rw [nb]; simp only [Bool.not_eq_true'] at e3; rw [e3]; rfl)) fun e3 => ?_
    simp only [Bool.not_eq_false'] at e3
    rw [e3, Bool.true_and] at nb
    rw [q_ife]
    simp only [q_ecall, sx0, sx1, sx2, sx3, sx4, sx5, sx6, sx7, sx8, sx9, sx10, sx11, sx12, Nat.reduceAdd, Nat.reduceSub, Nat.reduceLT, Nat.reduceEqDiff, st0, endsOf, starts_one (z := fg) (y := (("0" : String) : Str)) (c := 48) (by decide)]
    have fin : numB (tl z) = true → wpS G (.ret (.bi .int [.var 0])) [some (.str z), some (.str fg), none] h (endsOf R) := fun e => by
      obtain ⟨i1, i2⟩ := numB_int e
      rw [numIn_yes e] at q
      simp only [q_ecall, sx0, sx1, sx2, sx3, sx4, sx5, sx6, sx7, sx8, sx9, sx10, sx11, sx12, Nat.reduceAdd, Nat.reduceSub, Nat.reduceLT, Nat.reduceEqDiff, st0, endsOf]
      exact ⟨by omega, intT_go i1 q⟩
    simp only [q_ecall, sx0, sx1, sx2, sx3, sx4, sx5, sx6, sx7, sx8, sx9, sx10, sx11, sx12, Nat.reduceAdd, Nat.reduceSub, Nat.reduceLT, Nat.reduceEqDiff, st0, endsOf] at fin
    refine cond_split (fun e4 => ?_) fun e4 => ?_
    · refine ⟨tz.ok, by decide +kernel, ?_⟩
      refine cond_split (fun e5 => qn (by rw [nb, e4, e5]; rfl)) fun e5 => fin (by rw [nb, e4, e5]; rfl)
    · exact fin (by rw [nb, e4]; rfl)
  refine ⟨rfl, ?_⟩
  unfold b_numIn
  simp only [q_ecall, sx0, sx1, sx2, sx3, sx4, sx5, sx6, sx7, sx8, sx9, sx10, sx11, sx12, Nat.reduceAdd, Nat.reduceSub, Nat.reduceLT, Nat.reduceEqDiff, st0, endsOf] at key
  simp only [q_ecall, sx0, sx1, sx2, sx3, sx4, sx5, sx6, sx7, sx8, sx9, sx10, sx11, sx12, Nat.reduceAdd, Nat.reduceSub, Nat.reduceLT, Nat.reduceEqDiff, st0, endsOf, starts_one (z := z) (y := (("-" : String) : Str)) (c := 45) (by decide)]
  have lz := tz.len
  refine cond_split (fun e => ?_) fun e => ?_
  · have e := of_decide_eq_true e
    refine ⟨by omega, key _ (fig_cut e) ?_⟩
    have := cutS_length z (some 1) none
    omega
  · exact key _ (fig_same (of_decide_eq_false e)) (by omega)
def b_lnumIn : List SS := [.asg (.nm 1) (.ife (.cmp .Eq (.sslc (.var 0) none (some (.cst (.int 1)))) (.cst (.str "-"))) (.sslc (.var 0) (some (.cst (.int 1))) none) (.var 0)), .ife (.bool false [(.not (.cmp2 .LtE .LtE (.cst (.int 1)) (.bi .len [(.var 1)]) (.cst (.int 20)))), (.not (.bi .all [(.lc [("_law_sign", 2)] (.nm 2) (.txt (.var 1)) [] (.t2 .inn (.var 2) (.cst (.str "0123456789"))))]))]) [.ret (.cst .non)] [], .ret (.ife (.bool true [(.cmp .Eq (.t2 .ix (.var 1) (.cst (.int 0))) (.cst (.str "0"))), (.cmp .NotEq (.var 0) (.cst (.str "0")))]) (.cst .non) (.bi .int [(.var 0)]))]
theorem cut1 {z : Str} : cutS z none (some 1) = (("-" : String) : Str) ↔ (tl z).head? = some 45 := by
  rw [tl_is (s := "-") (l := [45]) (by decide), tl_cut]
  have e : HT.sIx z.length z.length (some 1) = min 1 z.length := HT.sIx_nat z.length z.length 1
  rw [e]
  show ((tl z).drop 0).take (min 1 z.length - 0) = _ ↔ _
  have lz := len_tl z
  cases q : tl z with
  | nil => simp
  | cons x l =>
    rw [q] at lz
    simp only [List.length_cons] at lz
    have : min 1 z.length = 1 := by omega
    rw [this]
    simp
theorem sign0 {fg : Str} {l : List Nat} {x : Nat} (e : tl fg = x :: l) : atI fg.cps.toList 0 = some x := by
  have e : fg.cps.toList = x :: l := e
  rw [e]
  exact atI_lit 0 (by simp) rfl
theorem one_is {x : Nat} : (⟨#[x]⟩ : Str) = (("0" : String) : Str) ↔ x = 48 := by
  rw [tl_is (s := "0") (l := [48]) (by decide)]
  simp [tl]
theorem one_ok {x : Nat} (h : x < 128) : PyData.strOk (⟨#[x]⟩ : Str) = true := by
  unfold PyData.strOk
  simp
  omega
theorem lnum_in_ok (q : spNumIn lv (k + 1) args h R X) : args.length = 1 ∧ wpSs G b_lnumIn (st0 3 args) h (endsOf R) := by
  obtain ⟨h0, z, rfl, tz, q⟩ := q
  have hz : (10000000 : Nat) < sizeLine := by decide
  have key : ∀ fg : Str, tl fg = figL (tl z) → fg.length ≤ 100000 → wpSs G [.ife (.bool false [(.not (.cmp2 .LtE .LtE (.cst (.int 1)) (.bi .len [(.var 1)]) (.cst (.int 20)))), (.not (.bi .all [(.lc [("_law_sign", 2)] (.nm 2) (.txt (.var 1)) [] (.t2 .inn (.var 2) (.cst (.str "0123456789"))))]))]) [.ret (.cst .non)] [], .ret (.ife (.bool true [(.cmp .Eq (.t2 .ix (.var 1) (.cst (.int 0))) (.cst (.str "0"))), (.cmp .NotEq (.var 0) (.cst (.str "0")))]) (.cst .non) (.bi .int [(.var 0)]))] [some (.str z), some (.str fg), none] h (endsOf R) := by
    intro fg ef lf
    have el := fig_len ef
    have nb : numB (tl z) = ((decide (1 ≤ fg.length) && decide (fg.length ≤ 20)) && ((tl fg).all (fun c => decide (c ∈ (("0123456789" : String) : Str).cps.toList)) && !(decide ((tl fg).head? = some 48) && !decide (z = (("0" : String) : Str))))) := by
      unfold numB
      rw [all_digits ef, el, ef]
      have ez : decide (tl z = [48]) = decide (z = (("0" : String) : Str)) := decide_eq_decide.mpr (tl_is (s := "0") (l := [48]) (by decide)).symm
      rw [ez]
    have qn : numB (tl z) = false → R .non h := fun e => by rw [numIn_no e] at q; exact q
    simp only [q_ecall, sx0, sx1, sx2, sx3, sx4, sx5, sx6, sx7, sx8, sx9, sx10, sx11, sx12, Nat.reduceAdd, Nat.reduceSub, Nat.reduceLT, Nat.reduceEqDiff, st0, endsOf]
    rw [q_ife]
    simp only [q_ecall, sx0, sx1, sx2, sx3, sx4, sx5, sx6, sx7, sx8, sx9, sx10, sx11, sx12, Nat.reduceAdd, Nat.reduceSub, Nat.reduceLT, Nat.reduceEqDiff, st0, endsOf]
    refine ⟨by omega, ?_⟩
    refine cond_split (fun e1 => ?_) fun e1 => qn (by rw [nb]; simp at e1 ⊢; omega)
    refine cond_split (fun e2 => qn (by rw [nb]; simp at e2 ⊢; omega)) fun e2 => ?_
    have e1' : decide (1 ≤ fg.length) = true := by simp at e1 ⊢; omega
    have e2' : decide (fg.length ≤ 20) = true := by simp at e2 ⊢; omega
    rw [e1', e2', Bool.and_self, Bool.true_and] at nb
    rw [q_lc]
    simp only [q_itxt, wipeS, q_ecall, sx0, sx1, sx2, sx3, sx4, sx5, sx6, sx7, sx8, sx9, sx10, sx11, sx12, Nat.reduceAdd, Nat.reduceSub, Nat.reduceLT, Nat.reduceEqDiff, st0, endsOf]
    refine lc_of (enc := fun c : Nat => SV.str ⟨#[c]⟩) (zs := tl fg) (fun c => .bl (decide (c ∈ (("0123456789" : String) : Str).cps.toList))) (by rw [← len_tl]; omega) trivial (fun c hc acc K ha hK => ?_) ?_
    · simp only [wipeS, q_ecall, sx0, sx1, sx2, sx3, sx4, sx5, sx6, sx7, sx8, sx9, sx10, sx11, sx12, Nat.reduceAdd, Nat.reduceSub, Nat.reduceLT, Nat.reduceEqDiff, st0, endsOf]
      exact ⟨ha, hK⟩
    simp only [backS, SV.plain, q_ecall, sx0, sx1, sx2, sx3, sx4, sx5, sx6, sx7, sx8, sx9, sx10, sx11, sx12, Nat.reduceAdd, Nat.reduceSub, Nat.reduceLT, Nat.reduceEqDiff, st0, endsOf]
    refine bi_all (p := fun c => decide (c ∈ (("0123456789" : String) : Str).cps.toList)) ?_
    simp only [q_ecall, sx0, sx1, sx2, sx3, sx4, sx5, sx6, sx7, sx8, sx9, sx10, sx11, sx12, Nat.reduceAdd, Nat.reduceSub, Nat.reduceLT, Nat.reduceEqDiff, st0, endsOf]
    refine cond_split (fun e3 => qn (by rw [nb]; simp only [Bool.not_eq_true'] at e3; rw [e3]; rfl)) fun e3 => ?_
    simp only [Bool.not_eq_false'] at e3
    have dig := e3
    rw [e3, Bool.true_and] at nb
    obtain ⟨x, l, exl⟩ : ∃ x l, tl fg = x :: l := by
      cases e : tl fg with
      | nil =>
        have := len_tl fg
        rw [e] at this
        simp at this e1'
        omega
      | cons x l => exact ⟨x, l, rfl⟩
    have x128 : x < 128 := by
      have := List.all_eq_true.mp dig x (by rw [exl]; exact List.mem_cons_self)
      have := (digits_mem x).mp (of_decide_eq_true this)
      omega
    have nb : numB (tl z) = !(decide ((⟨#[x]⟩ : Str) = (("0" : String) : Str)) && !decide (z = (("0" : String) : Str))) := by
      rw [nb, exl]
      have : decide ((x :: l).head? = some 48) = decide ((⟨#[x]⟩ : Str) = (("0" : String) : Str)) := decide_eq_decide.mpr (by rw [one_is]; simp)
      rw [this]
    have fin : numB (tl z) = true → wpS G (.ret (.bi .int [.var 0])) [some (.str z), some (.str fg), none] h (endsOf R) := fun e => by
      obtain ⟨i1, i2⟩ := numB_int e
      rw [numIn_yes e] at q
      simp only [q_ecall, sx0, sx1, sx2, sx3, sx4, sx5, sx6, sx7, sx8, sx9, sx10, sx11, sx12, Nat.reduceAdd, Nat.reduceSub, Nat.reduceLT, Nat.reduceEqDiff, st0, endsOf]
      exact ⟨by omega, intT_go i1 q⟩
    simp only [q_ecall, sx0, sx1, sx2, sx3, sx4, sx5, sx6, sx7, sx8, sx9, sx10, sx11, sx12, Nat.reduceAdd, Nat.reduceSub, Nat.reduceLT, Nat.reduceEqDiff, st0, endsOf] at fin ⊢
    refine ⟨by omega, six_go (sign0 exl) ?_⟩
    simp only [q_ecall, sx0, sx1, sx2, sx3, sx4, sx5, sx6, sx7, sx8, sx9, sx10, sx11, sx12, Nat.reduceAdd, Nat.reduceSub, Nat.reduceLT, Nat.reduceEqDiff, st0, endsOf]
    refine ⟨one_ok x128, by decide +kernel, ?_⟩
    refine cond_split (fun e4 => ?_) fun e4 => ?_
    · refine ⟨tz.ok, by decide +kernel, ?_⟩
      refine cond_split (fun e5 => qn (by rw [nb, e4, e5]; rfl)) fun e5 => fin (by rw [nb, e4, e5]; rfl)
    · exact fin (by rw [nb, e4]; rfl)
  refine ⟨rfl, ?_⟩
  unfold b_lnumIn
  simp only [q_ecall, sx0, sx1, sx2, sx3, sx4, sx5, sx6, sx7, sx8, sx9, sx10, sx11, sx12, Nat.reduceAdd, Nat.reduceSub, Nat.reduceLT, Nat.reduceEqDiff, st0, endsOf] at key
  simp only [q_ecall, sx0, sx1, sx2, sx3, sx4, sx5, sx6, sx7, sx8, sx9, sx10, sx11, sx12, Nat.reduceAdd, Nat.reduceSub, Nat.reduceLT, Nat.reduceEqDiff, st0, endsOf]
  have lz := tz.len
  refine ⟨by omega, (tz.cut _ _).ok, by decide +kernel, ?_⟩
  refine cond_split (fun e => ?_) fun e => ?_
  · have e := cut1.mp (of_decide_eq_true e)
    refine ⟨by omega, key _ (fig_cut e) ?_⟩
    have := cutS_length z (some 1) none
    omega
  · exact key _ (fig_same fun q => of_decide_eq_false e (cut1.mpr q)) (by omega)
end
end SL
/-! F45: rows written and read: the walks. -/
namespace SL
open PySem PySem.Spec L2
open TL (tl len_tl tl_append ext_tl)
section
variable {G : Gm} {lv k : Nat} {args : List SV} {h : SHp} {R : SV → SHp → Prop} {X : SX → SHp → Prop}
/-- numbers of at most twenty figures -/
def Fig20 (ns : List Int) : Prop := ∀ i ∈ ns, i.natAbs < 10 ^ 20
def numsT (ns : List Int) : Str := Txt.join ((" " : String) : Str) (ns.map itoa)
theorem asStrs_map : ∀ ns : List Int, asStrs (ns.map fun i => SV.str (itoa i)) = some (ns.map itoa)
  | [] => rfl
  | n :: ns => by
    simp only [List.map_cons, asStrs, asStrs_map ns]
    rfl
theorem sum_itoa {ns : List Int} (f : Fig20 ns) : ((ns.map itoa).map (·.length)).sum ≤ 21 * ns.length := by
  induction ns with
  | nil => simp
  | cons n ns ih =>
    have := (itoa_tx (f n List.mem_cons_self)).len
    have := ih fun i hi => f i (List.mem_cons_of_mem _ hi)
    simp only [List.map_cons, List.sum_cons, List.length_cons]
    omega
theorem asc_itoa {ns : List Int} (f : Fig20 ns) : ∀ p ∈ ns.map itoa, ∀ c ∈ tl p, c < 128 := fun p hp => by
  obtain ⟨i, hi, rfl⟩ := List.mem_map.mp hp
  exact (itoa_tx (f i hi)).asc
theorem one_len : (((" " : String) : Str)).length = 1 := by decide
theorem numsT_tx {ns : List Int} (f : Fig20 ns) : TxOk (22 * ns.length) (numsT ns) := by
  have := sum_itoa f
  refine TxOk.join (n := 0) (by decide) (asc_itoa f) ?_
  rw [one_len, List.length_map]
  omega
def spNumsText (lv k : Nat) : SSp := fun args h R X => lv ≤ k ∧ ∃ (ns : List Int), args = [.tup (intsV ns)] ∧ Fig20 ns ∧ ns.length ≤ 1000 ∧ R (.str (numsT ns)) h
def b_numsText : List SS := [.ret (.tm .join (.cst (.str " ")) (.lc [("number", 1)] (.nm 1) (.of (.var 0)) [] (.bi .str [(.var 1)])))]
theorem intsV_eq (ns : List Int) : intsV ns = ns.map SV.int := rfl
theorem lc_nums {gd : Gd} {n : Nat} {nm : Str} {δ : SSt} {Q : List SV → SSt → SHp → Prop} {ns : List Int} (f : Fig20 ns) (hl : ns.length ≤ 1000) (hg : gd h) (hn : n < δ.length) (hd : ∀ i, (δ.set n (some (.int i))).set n none = δ) (q : Q (ns.map fun i => SV.str (itoa i)) δ h) :
    lcLoop gd [n] (tgS (.nm n)) (fun δ h R => wpIf G.nox [] δ h R) (fun δ h R => wpE G.nox (.bi .str [.var n]) δ h R) (ns.map SV.int) [] δ h Q := by
  have hz : (10000000 : Nat) < sizeLine := by decide
  refine lc_of (enc := SV.int) (zs := ns) (fun i => .str (itoa i)) (by omega) hg (fun i hi acc K ha hK => ?_) q
  simp only [wipeS, q_ecall, sx0, sx1, sx2, sx3, sx4, sx5, sx6, sx7, sx8, sx9, sx10, sx11, sx12, Nat.reduceAdd, Nat.reduceSub, Nat.reduceLT, Nat.reduceEqDiff, st0, endsOf]
  refine ⟨hn, ?_⟩
  rw [List.getElem?_set_self hn]
  simp only [wipeS, q_ecall, sx0, sx1, sx2, sx3, sx4, sx5, sx6, sx7, sx8, sx9, sx10, sx11, sx12, Nat.reduceAdd, Nat.reduceSub, Nat.reduceLT, Nat.reduceEqDiff, st0, endsOf]
  refine ⟨log_small (f i hi), ha, ?_⟩
  rw [hd]
  exact hK
theorem nums_text_ok (q : spNumsText lv (k + 1) args h R X) : args.length = 1 ∧ wpSs G b_numsText (st0 2 args) h (endsOf R) := by
  obtain ⟨h0, ns, rfl, f, hl, q⟩ := q
  refine ⟨rfl, ?_⟩
  unfold b_numsText
  simp only [q_ecall, sx0, sx1, sx2, sx3, sx4, sx5, sx6, sx7, sx8, sx9, sx10, sx11, sx12, Nat.reduceAdd, Nat.reduceSub, Nat.reduceLT, Nat.reduceEqDiff, st0, endsOf]
  rw [q_lc]
  simp only [q_iof, wipeS, q_ecall, sx0, sx1, sx2, sx3, sx4, sx5, sx6, sx7, sx8, sx9, sx10, sx11, sx12, Nat.reduceAdd, Nat.reduceSub, Nat.reduceLT, Nat.reduceEqDiff, st0, endsOf]
  refine it_go (kk := true) (xs := intsV ns) rfl ?_
  refine lc_nums (G := G) (nm := "") f hl rfl (by simp) (fun _ => rfl) ?_
  simp only [backS, SV.plain, q_ecall, sx0, sx1, sx2, sx3, sx4, sx5, sx6, sx7, sx8, sx9, sx10, sx11, sx12, Nat.reduceAdd, Nat.reduceSub, Nat.reduceLT, Nat.reduceEqDiff, st0, endsOf]
  have := sum_itoa f
  refine join_go (asStrs_map ns) (by rw [one_len, List.length_map]; omega) ?_
  simp only [q_ecall, sx0, sx1, sx2, sx3, sx4, sx5, sx6, sx7, sx8, sx9, sx10, sx11, sx12, Nat.reduceAdd, Nat.reduceSub, Nat.reduceLT, Nat.reduceEqDiff, st0, endsOf]
  exact q
/-- a row's text: with the sign and the bound -/
theorem rowText_eq {ws : List Int} {b : Int} (hne : ws ≠ []) : (numsT ws ++ ((" <= " : String) : Str)) ++ itoa b = rowText ws b := by
  apply ext_tl
  unfold rowText numsT
  rw [tl_append, tl_append, TL.join_eq, TL.join_eq, TL.tl_join, TL.tl_join, List.map_append]
  have key : ∀ (ps : List (List Nat)) (a b : List Nat), ps ≠ [] → TL.joinL [32] (ps ++ [a, b]) = TL.joinL [32] ps ++ ([32] ++ a ++ [32]) ++ b := by
    intro ps a b
    induction ps with
    | nil => intro z; exact absurd rfl z
    | cons p ps ih =>
      intro _
      cases ps with
      | nil =>
        show p ++ ([32] ++ (a ++ ([32] ++ b))) = p ++ ([32] ++ a ++ [32]) ++ b
        simp
      | cons p2 ps =>
        have := ih (by simp)
        show p ++ ([32] ++ TL.joinL [32] (p2 :: ps ++ [a, b])) = (p ++ ([32] ++ TL.joinL [32] (p2 :: ps))) ++ ([32] ++ a ++ [32]) ++ b
        rw [this]
        simp
  have e1 : tl ((" " : String) : Str) = [32] := by decide
  rw [e1]
  show _ = TL.joinL [32] ((ws.map itoa).map tl ++ [tl (("<=" : String) : Str), tl (itoa b)])
  rw [key _ _ _ (by simpa using hne)]
  have e2 : tl ((" <= " : String) : Str) = [32] ++ tl (("<=" : String) : Str) ++ [32] := by decide
  rw [e2]
theorem rowText_eq2 {ws : List Int} {b : Int} (hne : ws ≠ []) : ((((Str.empty ++ numsT ws) ++ ((" " : String) : Str)) ++ (("<=" : String) : Str)) ++ ((" " : String) : Str)) ++ itoa b = rowText ws b := by
  rw [← rowText_eq hne]
  apply ext_tl
  rw [tl_append, tl_append, tl_append, tl_append, tl_append, tl_append, tl_append]
  have e2 : tl ((" <= " : String) : Str) = tl ((" " : String) : Str) ++ (tl (("<=" : String) : Str) ++ tl ((" " : String) : Str)) := by decide
  rw [e2]
  show ((((([] ++ tl (numsT ws)) ++ _) ++ _) ++ _) ++ _) = _
  simp
theorem rowText_tx {ws : List Int} {b : Int} (f : Fig20 ws) (hb : b.natAbs < 10 ^ 20) (hne : ws ≠ []) : TxOk (22 * ws.length + 4 + 21) (rowText ws b) := by
  rw [← rowText_eq hne]
  exact ((numsT_tx f).app ⟨by decide, by decide⟩).app (itoa_tx hb)
def spRowText (lv k : Nat) : SSp := fun args h R X => lv ≤ k ∧ ∃ (ws : List Int) (b : Int), args = [rowS ws b] ∧ Fig20 ws ∧ b.natAbs < 10 ^ 20 ∧ ws ≠ [] ∧ ws.length ≤ 1000 ∧ R (.str (rowText ws b)) h
def b_rowText : List SS := [.ret (.fs [(.fmt (.call "numbers_text" [(.ix (.var 0) (.cst (.int 0)))])), (.cst (.str " ")), (.fmt (.glob "MARK" (.s "<="))), (.cst (.str " ")), (.fmt (.ix (.var 0) (.cst (.int 1))))])]
theorem row_text_ok {l1 : Nat} (c1 : G.call "numbers_text" = spNumsText l1 k) (hl1 : l1 < lv) (q : spRowText lv (k + 1) args h R X) : args.length = 1 ∧ wpSs G b_rowText (st0 1 args) h (endsOf R) := by
  obtain ⟨h0, ws, b, rfl, f, hb, hne, hl, q⟩ := q
  have hz : (10000000 : Nat) < sizeLine := by decide
  have t := numsT_tx f
  have tb := itoa_tx hb
  have l0 := t.len
  have l1 := tb.len
  refine ⟨rfl, ?_⟩
  unfold b_rowText
  simp only [rowS, q_ecall, sx0, sx1, sx2, sx3, sx4, sx5, sx6, sx7, sx8, sx9, sx10, sx11, sx12, Nat.reduceAdd, Nat.reduceSub, Nat.reduceLT, Nat.reduceEqDiff, st0, endsOf, c1]
  refine ⟨by omega, ws, rfl, f, hl, ?_⟩
  have ap : ∀ x y : Str, (x ++ y).length = x.length + y.length := fun x y => by rw [len_tl, tl_append, List.length_append, ← len_tl, ← len_tl]
  have e0 : Str.empty.length = 0 := rfl
  have e2 : ((("<=" : String) : Str)).length = 2 := by decide
  have e4 : (toString b : String) = (toString b : String) := rfl
  have lb : ((toString b : String) : Str).length ≤ 21 := l1
  simp only [q_ecall, sx0, sx1, sx2, sx3, sx4, sx5, sx6, sx7, sx8, sx9, sx10, sx11, sx12, Nat.reduceAdd, Nat.reduceSub, Nat.reduceLT, Nat.reduceEqDiff, st0, endsOf, ap, e0, e2, one_len]
  refine ⟨by omega, by omega, by omega, by omega, by omega, by omega, log_small hb, by omega, ?_⟩
  have e := rowText_eq2 (ws := ws) (b := b) hne
  unfold itoa at e
  rw [e]
  exact q
def b_lrowText : List SS := [.ret (.bin .Add (.bin .Add (.tm .join (.cst (.str " ")) (.lc [("_law_weight", 1)] (.nm 1) (.of (.ix (.var 0) (.cst (.int 0)))) [] (.bi .str [(.var 1)]))) (.cst (.str " <= "))) (.bi .str [(.ix (.var 0) (.cst (.int 1)))]))]
theorem lrow_text_ok (q : spRowText lv (k + 1) args h R X) : args.length = 1 ∧ wpSs G b_lrowText (st0 2 args) h (endsOf R) := by
  obtain ⟨h0, ws, b, rfl, f, hb, hne, hl, q⟩ := q
  have hz : (10000000 : Nat) < sizeLine := by decide
  have t := numsT_tx f
  have tb := itoa_tx hb
  have l0 := t.len
  have l1 := tb.len
  refine ⟨rfl, ?_⟩
  unfold b_lrowText
  simp only [rowS, q_ecall, sx0, sx1, sx2, sx3, sx4, sx5, sx6, sx7, sx8, sx9, sx10, sx11, sx12, Nat.reduceAdd, Nat.reduceSub, Nat.reduceLT, Nat.reduceEqDiff, st0, endsOf]
  rw [q_lc]
  simp only [q_iof, wipeS, q_ecall, sx0, sx1, sx2, sx3, sx4, sx5, sx6, sx7, sx8, sx9, sx10, sx11, sx12, Nat.reduceAdd, Nat.reduceSub, Nat.reduceLT, Nat.reduceEqDiff, st0, endsOf]
  refine it_go (kk := true) (xs := intsV ws) rfl ?_
  refine lc_nums (G := G) (nm := "") f hl rfl (by simp) (fun _ => rfl) ?_
  simp only [backS, SV.plain, q_ecall, sx0, sx1, sx2, sx3, sx4, sx5, sx6, sx7, sx8, sx9, sx10, sx11, sx12, Nat.reduceAdd, Nat.reduceSub, Nat.reduceLT, Nat.reduceEqDiff, st0, endsOf]
  have sm := sum_itoa f
  refine join_go (asStrs_map ws) (by rw [one_len, List.length_map]; omega) ?_
  have ap : ∀ x y : Str, (x ++ y).length = x.length + y.length := fun x y => by rw [len_tl, tl_append, List.length_append, ← len_tl, ← len_tl]
  have e4 : (((" <= " : String) : Str)).length = 4 := by decide
  have lb : ((toString b : String) : Str).length ≤ 21 := l1
  have lt : (Txt.join ((" " : String) : Str) (ws.map itoa)).length ≤ 22 * ws.length := l0
  simp only [q_ecall, sx0, sx1, sx2, sx3, sx4, sx5, sx6, sx7, sx8, sx9, sx10, sx11, sx12, Nat.reduceAdd, Nat.reduceSub, Nat.reduceLT, Nat.reduceEqDiff, st0, endsOf, ap, e4]
  refine ⟨by omega, log_small hb, by omega, ?_⟩
  have e : (Txt.join ((" " : String) : Str) (ws.map itoa) ++ ((" <= " : String) : Str)) ++ ((toString b : String) : Str) = rowText ws b := rowText_eq hne
  rw [e]
  exact q
end
end SL
/-! F46: rows read: the walks. -/
namespace SL
open PySem PySem.Spec L2
open TL (tl len_tl tl_append ext_tl)
def xText : SX := ⟨"BadText", [("row", .int 0), ("called", .str "BadText")]⟩
def optRow : Option (List Int × Int) → SV
  | none => .non
  | some (ws, b) => rowS ws b
theorem atI_end {α : Type} {ys : List α} {x y : α} {zs : List α} (e : ys = zs ++ [x, y]) : atI ys (-2) = some x ∧ atI ys (-1) = some y := by
  subst e
  have l : (zs ++ [x, y]).length = zs.length + 2 := by simp
  unfold atI ixN
  rw [l]
  refine ⟨?_, ?_⟩
  · rw [if_neg (by decide)]
    split
    · rename_i h
      have e : ((zs.length + 2 : Nat) : Int) + -2 = (zs.length : Int) := by omega
      show (zs ++ [x, y])[(-2 + ((zs.length + 2 : Nat) : Int)).toNat]? = some x
      rw [show (-2 + ((zs.length + 2 : Nat) : Int)).toNat = zs.length by omega, List.getElem?_append_right (Nat.le_refl _)]
      simp
    · rename_i h
      omega
  · rw [if_neg (by decide)]
    split
    · rename_i h
      show (zs ++ [x, y])[(-1 + ((zs.length + 2 : Nat) : Int)).toNat]? = some y
      rw [show (-1 + ((zs.length + 2 : Nat) : Int)).toNat = zs.length + 1 by omega, List.getElem?_append_right (by omega)]
      simp
    · rename_i h
      omega
theorem end2 {α : Type} {l : List α} {n : Nat} (h : l.length = n + 2) : ∃ hs x y, l = hs ++ [x, y] ∧ hs.length = n := by
  refine ⟨l.take n, l[n]'(by omega), l[n + 1]'(by omega), ?_, by rw [List.length_take]; omega⟩
  have e : l.drop n = [l[n]'(by omega), l[n + 1]'(by omega)] := by
    rw [List.drop_eq_getElem_cons (by omega), List.drop_eq_getElem_cons (by omega), List.drop_eq_nil_of_le (by omega)]
  rw [← e, List.take_append_drop]
theorem none_in {os : List (Option Int)} {δ : SSt} {h : SHp} {F : Bool → Prop} {v : SV} (ev : pdV δ h v = some (.list (os.map fun o => match o with | none => PyData.none | some i => PyData.int i))) (hl : os.length < 10000) (q : F (os.any (·.isNone))) : cmpS .In .non v δ h F := by
  refine .inl ⟨.none, _, false, rfl, ev, rfl, ?_, ?_⟩
  · have ok : okD 1 (.list (os.map fun o => match o with | none => PyData.none | some i => PyData.int i)) := by
      have hz : (10000000 : Nat) < sizeLine := by decide
      simp only [okD]
      refine ⟨by rw [List.length_map]; omega, fun x hx => ?_⟩
      obtain ⟨o, _, rfl⟩ := List.mem_map.mp hx
      cases o <;> trivial
    exact okD_shaped ok (by decide)
  · have : ((os.map fun o => match o with | none => PyData.none | some i => PyData.int i).any fun e => PyData.eqv e .none) = os.any (·.isNone) := by
      rw [List.any_map]
      refine congrArg (fun p => os.any p) (funext fun o => ?_)
      cases o <;> rfl
    rw [this]
    exact q
def optD : Option Int → PyData
  | none => .none
  | some i => .int i
theorem optD_eq : (fun o : Option Int => match o with | none => PyData.none | some i => PyData.int i) = optD := by
  funext o
  cases o <;> rfl
theorem pds_opt : ∀ os : List (Option Int), pds (os.map optI) = some (os.map optD)
  | [] => rfl
  | o :: os => by
    simp only [List.map_cons, pds, pds_opt os]
    cases o <;> rfl
theorem none_in2 {os : List (Option Int)} {δ : SSt} {h : SHp} {F : Bool → Prop} {v : SV} (ev : view δ h v = some (false, os.map optI)) (hl : os.length < 10000) (q : F (os.any (·.isNone))) : cmpS .In .non v δ h F := by
  refine none_in ?_ hl q
  unfold pdV
  rw [ev, optD_eq]
  simp [pds_opt]
theorem allSome_none : ∀ {os : List (Option Int)}, os.any (·.isNone) = true → allSome os = none
  | none :: os, _ => rfl
  | some i :: os, h => by
    simp only [List.any_cons, Option.isNone_some, Bool.false_or] at h
    simp only [allSome, allSome_none h]
    rfl
theorem allSome_some : ∀ {os : List (Option Int)}, os.any (·.isNone) = false → ∃ is, allSome os = some is ∧ os = is.map some
  | [], _ => ⟨[], rfl, rfl⟩
  | none :: os, h => by simp at h
  | some i :: os, h => by
    simp only [List.any_cons, Option.isNone_some, Bool.false_or] at h
    obtain ⟨is, e1, e2⟩ := allSome_some h
    exact ⟨i :: is, by simp only [allSome, e1]; rfl, by rw [e2]; rfl⟩
theorem opt_ints (is : List Int) : (is.map some).map optI = intsV is := by
  rw [List.map_map]
  rfl
section
variable {G : Gm} {lv k : Nat} {args : List SV} {h : SHp} {R : SV → SHp → Prop} {X : SX → SHp → Prop}
abbrev spc : Str := ((" " : String) : Str)
abbrev mrk : Str := (("<=" : String) : Str)
def spReadRow (lv k : Nat) : SSp := fun args h R X => lv ≤ k ∧ ∃ (z : Str) (n : Nat), args = [.str z, .int n] ∧ TxOk 10000 z ∧ n ≤ 100 ∧ (match rowIn z n with
  | some (ws, b) => R (rowS ws b) h
  | none => X xText h)
def spLRowIn (lv k : Nat) : SSp := fun args h R X => lv ≤ k ∧ ∃ (z : Str) (n : Nat), args = [.str z, .int n] ∧ TxOk 10000 z ∧ n ≤ 100 ∧ R (optRow (rowIn z n)) h
theorem spc_tl : tl spc = [32] := by decide
theorem spc_k : spc.cps.all (· < 256) = true := by decide +kernel
theorem rowIn_len {z : Str} {n : Nat} (e : ¬ (Txt.split z spc).length = n + 2) : rowIn z n = none := by
  unfold rowIn
  rw [if_neg fun q => e q.1]
theorem rowIn_at {z : Str} {n : Nat} {hs : List Str} {m la : Str} (es : Txt.split z spc = hs ++ [m, la]) (hn : hs.length = n) : rowIn z n = if m = mrk then (match allSome (hs.map numIn), numIn la with
    | some ws, some b => some (ws, b)
    | _, _ => none) else none := by
  unfold rowIn
  have e1 : (hs ++ [m, la])[n]? = some m := by rw [← hn, List.getElem?_append_right (Nat.le_refl _)]; simp
  have e2 : (hs ++ [m, la])[n + 1]? = some la := by rw [← hn, List.getElem?_append_right (by omega)]; simp
  have e3 : (hs ++ [m, la]).take n = hs := by rw [← hn, List.take_left]
  rw [es, e1, e2, e3]
  by_cases e : m = mrk
  · rw [if_pos ⟨by simp [hn], by rw [e]⟩, if_pos e]
    rfl
  · rw [if_neg fun q => e (Option.some.inj q.2), if_neg e]
def b_readRow : List SS := [.asg (.nm 2) (.tm .split (.var 0) (.cst (.str " "))), .ife (.bool false [(.cmp .NotEq (.bi .len [(.var 2)]) (.bin .Add (.var 1) (.cst (.int 2)))), (.cmp .NotEq (.ix (.var 2) (.neg (.cst (.int 2)))) (.glob "MARK" (.s "<=")))]) [.rais "BadText" (some ("row", (.cst (.int 0))))] [], .ust [7, 5, 6] 0 (.var 2), .asg (.nm 3) (.lc [("word", 8)] (.nm 8) (.of (.var 7)) [] (.call "number_in" [(.var 8)])), .asg (.nm 4) (.call "number_in" [(.fz (.var 6))]), .ife (.bool false [(.cmp .Is (.var 4) (.cst .non)), (.cmp .In (.cst .non) (.var 3))]) [.rais "BadText" (some ("row", (.cst (.int 0))))] [], .ret (.tup [(.bi .tuple [(.var 3)]), (.var 4)])]
theorem read_row_ok {l1 : Nat} (hx : G.xp = fun x _ h => X x h) (c1 : G.call "number_in" = spNumIn l1 k) (hl1 : l1 < lv) (q : spReadRow lv (k + 1) args h R X) : args.length = 2 ∧ wpSs G b_readRow (st0 9 args) h (endsOf R) := by
  obtain ⟨h0, z, n, rfl, tz, hn, q⟩ := q
  have hz : (10000000 : Nat) < sizeLine := by decide
  have d1 : G.nox.call "number_in" = spNumIn l1 k := c1
  have lz := tz.len
  obtain ⟨ps, pl, p1, psum⟩ := tz.split spc_tl spc_k
  refine ⟨rfl, ?_⟩
  unfold b_readRow
  simp only [q_ecall, sx0, sx1, sx2, sx3, sx4, sx5, sx6, sx7, sx8, sx9, sx10, sx11, sx12, Nat.reduceAdd, Nat.reduceSub, Nat.reduceLT, Nat.reduceEqDiff, st0, endsOf]
  refine ⟨by decide, by omega, ?_⟩
  rw [q_ife]
  simp only [q_ecall, sx0, sx1, sx2, sx3, sx4, sx5, sx6, sx7, sx8, sx9, sx10, sx11, sx12, Nat.reduceAdd, Nat.reduceSub, Nat.reduceLT, Nat.reduceEqDiff, st0, endsOf, List.length_map]
  refine cond_split (fun e => ?_) fun e => ?_
  · have e : ¬ (Txt.split z spc).length = n + 2 := fun q => of_decide_eq_true e (by show (((Txt.split z spc).length : Nat) : Int) = _; omega)
    rw [rowIn_len e] at q
    rw [hx]
    exact q
  have el : (Txt.split z spc).length = n + 2 := by
    have := of_decide_eq_false e
    simp at this
    show (Txt.split z (Str.ofString " ")).length = n + 2
    omega
  obtain ⟨hs, m, la, es, hnl⟩ := end2 el
  have tm : TxOk 10000 m := ps m (by rw [es]; simp)
  have tla : TxOk 10000 la := ps la (by rw [es]; simp)
  have ths : ∀ p ∈ hs, TxOk 10000 p := fun p hp => ps p (by rw [es]; simp [hp])
  rw [rowIn_at es hnl] at q
  have em : (Txt.split z spc).map SV.str = hs.map SV.str ++ [.str m, .str la] := by rw [es]; simp
  rw [em]
  have at2 := (atI_end (ys := hs.map SV.str ++ [.str m, .str la]) rfl).1
  simp only [q_ecall, sx0, sx1, sx2, sx3, sx4, sx5, sx6, sx7, sx8, sx9, sx10, sx11, sx12, Nat.reduceAdd, Nat.reduceSub, Nat.reduceLT, Nat.reduceEqDiff, st0, endsOf, at2]
  refine ⟨tm.ok, by decide +kernel, ?_⟩
  refine cond_split (fun e => ?_) fun e => ?_
  · have e : ¬ m = mrk := by simpa using e
    rw [if_neg e] at q
    rw [hx]
    exact q
  have e : m = mrk := by simpa using e
  rw [if_pos e] at q
  refine stow_loc rfl ?_
  have l3 : (hs.map SV.str ++ [SV.str m, .str la]).length = n + 2 := by simp [hnl]
  refine ust_go (xs := hs.map SV.str ++ [.str m, .str la]) rfl (by decide) (by rw [l3]; simp) (by omega) ?_
  have e4 : (hs.map SV.str ++ [SV.str m, .str la]).length + 1 - [7, 5, 6].length = (hs.map SV.str).length := by rw [l3]; simp [hnl]
  rw [e4]
  simp only [List.take_zero, List.drop_zero, List.take_left, List.drop_left, List.nil_append]
  simp only [q_ecall, sx0, sx1, sx2, sx3, sx4, sx5, sx6, sx7, sx8, sx9, sx10, sx11, sx12, Nat.reduceAdd, Nat.reduceSub, Nat.reduceLT, Nat.reduceEqDiff, st0, endsOf, List.set]
  rw [q_lc]
  simp only [q_iof, wipeS, q_ecall, sx0, sx1, sx2, sx3, sx4, sx5, sx6, sx7, sx8, sx9, sx10, sx11, sx12, Nat.reduceAdd, Nat.reduceSub, Nat.reduceLT, Nat.reduceEqDiff, st0, endsOf]
  refine it_go (kk := false) (xs := hs.map SV.str) rfl ?_
  refine lc_of (enc := SV.str) (zs := hs) (fun z => optI (numIn z)) (by omega) rfl (fun z hz' acc K ha hK => ?_) ?_
  · simp only [wipeS, q_ecall, sx0, sx1, sx2, sx3, sx4, sx5, sx6, sx7, sx8, sx9, sx10, sx11, sx12, Nat.reduceAdd, Nat.reduceSub, Nat.reduceLT, Nat.reduceEqDiff, st0, endsOf, d1]
    refine ⟨by omega, z, rfl, (ths z hz').mono (by decide), ?_⟩
    cases e : numIn z with
    | none =>
      rw [e] at hK
      simp only [optI] at hK ⊢
      simp only [wipeS, q_ecall, sx0, sx1, sx2, sx3, sx4, sx5, sx6, sx7, sx8, sx9, sx10, sx11, sx12, Nat.reduceAdd, Nat.reduceSub, Nat.reduceLT, Nat.reduceEqDiff, st0, endsOf]
      exact ⟨ha, hK⟩
    | some i =>
      rw [e] at hK
      simp only [optI] at hK ⊢
      simp only [wipeS, q_ecall, sx0, sx1, sx2, sx3, sx4, sx5, sx6, sx7, sx8, sx9, sx10, sx11, sx12, Nat.reduceAdd, Nat.reduceSub, Nat.reduceLT, Nat.reduceEqDiff, st0, endsOf]
      exact ⟨ha, hK⟩
  have em2 : hs.map (fun z => optI (numIn z)) = (hs.map numIn).map optI := by rw [List.map_map]; rfl
  rw [em2]
  simp only [backS, SV.plain, q_ecall, sx0, sx1, sx2, sx3, sx4, sx5, sx6, sx7, sx8, sx9, sx10, sx11, sx12, Nat.reduceAdd, Nat.reduceSub, Nat.reduceLT, Nat.reduceEqDiff, st0, endsOf, c1]
  refine ⟨by omega, la, rfl, tla.mono (by decide), ?_⟩
  cases eb : numIn la with
  | none =>
    rw [eb] at q
    simp only [optI, q_ecall, sx0, sx1, sx2, sx3, sx4, sx5, sx6, sx7, sx8, sx9, sx10, sx11, sx12, Nat.reduceAdd, Nat.reduceSub, Nat.reduceLT, Nat.reduceEqDiff, st0, endsOf]
    rw [q_ife]
    simp only [q_ecall, sx0, sx1, sx2, sx3, sx4, sx5, sx6, sx7, sx8, sx9, sx10, sx11, sx12, Nat.reduceAdd, Nat.reduceSub, Nat.reduceLT, Nat.reduceEqDiff, st0, endsOf]
    rw [hx]
    cases ea : allSome (hs.map numIn) with
    | none => rw [ea] at q; exact q
    | some ws => rw [ea] at q; exact q
  | some b =>
    rw [eb] at q
    simp only [optI, q_ecall, sx0, sx1, sx2, sx3, sx4, sx5, sx6, sx7, sx8, sx9, sx10, sx11, sx12, Nat.reduceAdd, Nat.reduceSub, Nat.reduceLT, Nat.reduceEqDiff, st0, endsOf]
    rw [q_ife]
    simp only [q_ecall, sx0, sx1, sx2, sx3, sx4, sx5, sx6, sx7, sx8, sx9, sx10, sx11, sx12, Nat.reduceAdd, Nat.reduceSub, Nat.reduceLT, Nat.reduceEqDiff, st0, endsOf]
    refine none_in2 (os := hs.map numIn) rfl (by rw [List.length_map]; omega) ?_
    refine cond_split (fun e => ?_) fun e => ?_
    · rw [allSome_none e] at q
      rw [hx]
      exact q
    · obtain ⟨is, e1, e2⟩ := allSome_some e
      rw [e1] at q
      rw [e2, opt_ints]
      exact q
def b_lrowIn : List SS := [.asg (.nm 2) (.tm .split (.var 0) (.cst (.str " "))), .ife (.bool false [(.cmp .NotEq (.bi .len [(.var 2)]) (.bin .Add (.var 1) (.cst (.int 2)))), (.cmp .NotEq (.ix (.var 2) (.neg (.cst (.int 2)))) (.cst (.str "<=")))]) [.ret (.cst .non)] [], .asg (.nm 3) (.lc [("_law_word", 4)] (.nm 4) (.of (.bin .Add (.slc (.var 2) none (some (.neg (.cst (.int 2))))) (.slc (.var 2) (some (.neg (.cst (.int 1)))) none))) [] (.call "_law_number_in" [(.var 4)])), .ret (.ife (.cmp .In (.cst .non) (.var 3)) (.cst .non) (.tup [(.bi .tuple [(.slc (.var 3) none (some (.neg (.cst (.int 1)))))]), (.ix (.var 3) (.neg (.cst (.int 1))))]))]
theorem cut_neg {α : Type} {zs : List α} {x y : α} : cut (zs ++ [x, y]) none (some (-2)) = zs ∧ cut (zs ++ [x, y]) (some (-1)) none = [y] := by
  have l : (zs ++ [x, y]).length = zs.length + 2 := by simp
  unfold cut
  rw [l]
  refine ⟨?_, ?_⟩
  · have e1 : HT.sIx (zs.length + 2) (zs.length + 2) (some (-2)) = zs.length := by
      unfold HT.sIx
      simp only
      rw [if_pos (by decide)]
      omega
    rw [e1]
    show ((zs ++ [x, y]).drop 0).take (zs.length - 0) = zs
    simp
  · have e1 : HT.sIx (zs.length + 2) 0 (some (-1)) = zs.length + 1 := by
      unfold HT.sIx
      simp only
      rw [if_pos (by decide)]
      omega
    rw [e1]
    show ((zs ++ [x, y]).drop (zs.length + 1)).take (zs.length + 2 - (zs.length + 1)) = [y]
    rw [List.drop_append, List.drop_eq_nil_of_le (by omega), show zs.length + 1 - zs.length = 1 by omega, show zs.length + 2 - (zs.length + 1) = 1 by omega]
    rfl
theorem cut_last {α : Type} {zs : List α} {y : α} : cut (zs ++ [y]) none (some (-1)) = zs ∧ atI (zs ++ [y]) (-1) = some y := by
  have l : (zs ++ [y]).length = zs.length + 1 := by simp
  refine ⟨?_, ?_⟩
  · unfold cut
    rw [l]
    have e1 : HT.sIx (zs.length + 1) (zs.length + 1) (some (-1)) = zs.length := by
      unfold HT.sIx
      simp only
      rw [if_pos (by decide)]
      omega
    rw [e1]
    show ((zs ++ [y]).drop 0).take (zs.length - 0) = zs
    simp
  · unfold atI ixN
    rw [l, if_neg (by decide)]
    split
    · show (zs ++ [y])[(-1 + ((zs.length + 1 : Nat) : Int)).toNat]? = some y
      rw [show (-1 + ((zs.length + 1 : Nat) : Int)).toNat = zs.length by omega, List.getElem?_append_right (Nat.le_refl _)]
      simp
    · rename_i h
      omega
theorem lrow_in_ok {l1 : Nat} (c1 : G.call "_law_number_in" = spNumIn l1 k) (hl1 : l1 < lv) (q : spLRowIn lv (k + 1) args h R X) : args.length = 2 ∧ wpSs G b_lrowIn (st0 5 args) h (endsOf R) := by
  obtain ⟨h0, z, n, rfl, tz, hn, q⟩ := q
  have hz : (10000000 : Nat) < sizeLine := by decide
  have d1 : G.nox.call "_law_number_in" = spNumIn l1 k := c1
  have lz := tz.len
  obtain ⟨ps, pl, p1, psum⟩ := tz.split spc_tl spc_k
  refine ⟨rfl, ?_⟩
  unfold b_lrowIn
  simp only [q_ecall, sx0, sx1, sx2, sx3, sx4, sx5, sx6, sx7, sx8, sx9, sx10, sx11, sx12, Nat.reduceAdd, Nat.reduceSub, Nat.reduceLT, Nat.reduceEqDiff, st0, endsOf]
  refine ⟨by decide, by omega, ?_⟩
  rw [q_ife]
  simp only [q_ecall, sx0, sx1, sx2, sx3, sx4, sx5, sx6, sx7, sx8, sx9, sx10, sx11, sx12, Nat.reduceAdd, Nat.reduceSub, Nat.reduceLT, Nat.reduceEqDiff, st0, endsOf, List.length_map]
  refine cond_split (fun e => ?_) fun e => ?_
  · have e : ¬ (Txt.split z spc).length = n + 2 := fun q => of_decide_eq_true e (by show (((Txt.split z spc).length : Nat) : Int) = _; omega)
    rw [rowIn_len e] at q
    exact q
  have el : (Txt.split z spc).length = n + 2 := by
    have := of_decide_eq_false e
    simp at this
    show (Txt.split z (Str.ofString " ")).length = n + 2
    omega
  obtain ⟨hs, m, la, es, hnl⟩ := end2 el
  have tm : TxOk 10000 m := ps m (by rw [es]; simp)
  have tla : TxOk 10000 la := ps la (by rw [es]; simp)
  have ths : ∀ p ∈ hs, TxOk 10000 p := fun p hp => ps p (by rw [es]; simp [hp])
  rw [rowIn_at es hnl] at q
  have em : (Txt.split z spc).map SV.str = hs.map SV.str ++ [.str m, .str la] := by rw [es]; simp
  rw [em]
  have at2 := (atI_end (ys := hs.map SV.str ++ [.str m, .str la]) rfl).1
  simp only [q_ecall, sx0, sx1, sx2, sx3, sx4, sx5, sx6, sx7, sx8, sx9, sx10, sx11, sx12, Nat.reduceAdd, Nat.reduceSub, Nat.reduceLT, Nat.reduceEqDiff, st0, endsOf, at2]
  refine ⟨tm.ok, by decide +kernel, ?_⟩
  refine cond_split (fun e => ?_) fun e => ?_
  · have e : ¬ m = mrk := by simpa using e
    rw [if_neg e] at q
    exact q
  have e : m = mrk := by simpa using e
  rw [if_pos e] at q
  have c1' := cut_neg (zs := hs.map SV.str) (x := SV.str m) (y := SV.str la)
  rw [q_lc]
  simp only [q_iof, wipeS, q_ecall, sx0, sx1, sx2, sx3, sx4, sx5, sx6, sx7, sx8, sx9, sx10, sx11, sx12, Nat.reduceAdd, Nat.reduceSub, Nat.reduceLT, Nat.reduceEqDiff, st0, endsOf, c1'.1, c1'.2]
  refine ⟨false, hs.map SV.str, [.str la], rfl, rfl, rfl, rfl, by simp; omega, ?_⟩
  have em3 : hs.map SV.str ++ [SV.str la] = (hs ++ [la]).map SV.str := by simp
  rw [em3]
  simp only [q_ecall, sx0, sx1, sx2, sx3, sx4, sx5, sx6, sx7, sx8, sx9, sx10, sx11, sx12, Nat.reduceAdd, Nat.reduceSub, Nat.reduceLT, Nat.reduceEqDiff, st0, endsOf]
  refine it_go (kk := false) (xs := (hs ++ [la]).map SV.str) rfl ?_
  refine lc_of (enc := SV.str) (zs := hs ++ [la]) (fun z => optI (numIn z)) (by simp; omega) rfl (fun z hz' acc K ha hK => ?_) ?_
  · have tzz : TxOk 10000 z := by
      rcases List.mem_append.mp hz' with hm | hm
      · exact ths z hm
      · rw [List.mem_singleton.mp hm]; exact tla
    simp only [wipeS, q_ecall, sx0, sx1, sx2, sx3, sx4, sx5, sx6, sx7, sx8, sx9, sx10, sx11, sx12, Nat.reduceAdd, Nat.reduceSub, Nat.reduceLT, Nat.reduceEqDiff, st0, endsOf, d1]
    refine ⟨by omega, z, rfl, tzz.mono (by decide), ?_⟩
    cases e : numIn z with
    | none =>
      rw [e] at hK
      simp only [optI] at hK ⊢
      simp only [wipeS, q_ecall, sx0, sx1, sx2, sx3, sx4, sx5, sx6, sx7, sx8, sx9, sx10, sx11, sx12, Nat.reduceAdd, Nat.reduceSub, Nat.reduceLT, Nat.reduceEqDiff, st0, endsOf]
      exact ⟨ha, hK⟩
    | some i =>
      rw [e] at hK
      simp only [optI] at hK ⊢
      simp only [wipeS, q_ecall, sx0, sx1, sx2, sx3, sx4, sx5, sx6, sx7, sx8, sx9, sx10, sx11, sx12, Nat.reduceAdd, Nat.reduceSub, Nat.reduceLT, Nat.reduceEqDiff, st0, endsOf]
      exact ⟨ha, hK⟩
  have em2 : (hs ++ [la]).map (fun z => optI (numIn z)) = (hs.map numIn ++ [numIn la]).map optI := by simp [Function.comp_def]
  rw [em2]
  simp only [backS, SV.plain, q_ecall, sx0, sx1, sx2, sx3, sx4, sx5, sx6, sx7, sx8, sx9, sx10, sx11, sx12, Nat.reduceAdd, Nat.reduceSub, Nat.reduceLT, Nat.reduceEqDiff, st0, endsOf]
  refine none_in2 (os := hs.map numIn ++ [numIn la]) rfl (by simp; omega) ?_
  rw [List.any_append]
  refine cond_split (fun e => ?_) fun e => ?_
  · cases ea : (hs.map numIn).any (·.isNone) with
    | true =>
      rw [allSome_none ea] at q
      exact q
    | false =>
      rw [ea] at e
      cases eb : numIn la with
      | some b => rw [eb] at e; simp at e
      | none =>
        rw [eb] at q
        obtain ⟨is, e1, e2⟩ := allSome_some ea
        rw [e1] at q
        exact q
  · rw [Bool.or_eq_false_iff] at e
    obtain ⟨is, e1, e2⟩ := allSome_some e.1
    cases eb : numIn la with
    | none => rw [eb] at e; simp at e
    | some b =>
      rw [e1, eb] at q
      rw [e2]
      have em4 : ((is.map some) ++ [some b]).map optI = intsV is ++ [SV.int b] := by
        rw [List.map_append, opt_ints]
        rfl
      rw [em4]
      have cl := cut_last (zs := intsV is) (y := SV.int b)
      simp only [q_ecall, sx0, sx1, sx2, sx3, sx4, sx5, sx6, sx7, sx8, sx9, sx10, sx11, sx12, Nat.reduceAdd, Nat.reduceSub, Nat.reduceLT, Nat.reduceEqDiff, st0, endsOf, cl.1, cl.2]
      exact q
def b_lread : List SS := [.try [.ret (.tup [(.callP "read_row/1/count" ["count"] [(.var 0)] [(.fz (.var 1))]), (.cst .non)])] [⟨"BadText", some 2, .ret (.pair (.cst .non) (.fld "row"))⟩]]
def spLRead (lv k : Nat) : SSp := fun args h R X => lv ≤ k ∧ ∃ (z : Str) (n : Nat), args = [.str z, .int n] ∧ TxOk 10000 z ∧ n ≤ 100 ∧ R (.tup [optRow (rowIn z n), if (rowIn z n).isSome then .non else .int 0]) h
theorem lread_ok {l1 : Nat} (c1 : G.call "read_row/1/count" = fun args h R X => spReadRow l1 k (asmG .non [.arg 0, .arg 1] args []) h R X) (hl1 : l1 < lv) (q : spLRead lv (k + 1) args h R X) : args.length = 2 ∧ wpSs G b_lread (st0 3 args) h (endsOf R) := by
  obtain ⟨h0, z, n, rfl, tz, hn, q⟩ := q
  refine ⟨rfl, ?_⟩
  unfold b_lread
  simp only [q_ecall, sx0, sx1, sx2, sx3, sx4, sx5, sx6, sx7, sx8, sx9, sx10, sx11, sx12, Nat.reduceAdd, Nat.reduceSub, Nat.reduceLT, Nat.reduceEqDiff, st0, endsOf]
  rw [q_try]
  simp only [q_ecall, sx0, sx1, sx2, sx3, sx4, sx5, sx6, sx7, sx8, sx9, sx10, sx11, sx12, Nat.reduceAdd, Nat.reduceSub, Nat.reduceLT, Nat.reduceEqDiff, st0, endsOf, c1]
  refine ⟨by omega, z, n, rfl, tz, hn, ?_⟩
  cases e : rowIn z n with
  | none =>
    rw [e] at q
    have e1 : subX (("BadText" : String) : Str) (("BadText" : String) : Str) = true := by decide +kernel
    have e2 : hv xText (.pair (.cst .non) (.fld (("row" : String) : Str))) = some (.tup [.non, .int 0]) := by
      have e3 : List.lookup (("row" : String) : Str) xText.fs = some (.int 0) := by
        simp [xText, List.lookup]
      simp only [hv, e3]
    have e3 : subX xText.cls (("BadText" : String) : Str) = true := e1
    simp only [catchS, e3]
    exact ⟨_, e2, q⟩
  | some wb =>
    obtain ⟨ws, b⟩ := wb
    rw [e] at q
    simp only [rowS, q_ecall, sx0, sx1, sx2, sx3, sx4, sx5, sx6, sx7, sx8, sx9, sx10, sx11, sx12, Nat.reduceAdd, Nat.reduceSub, Nat.reduceLT, Nat.reduceEqDiff, st0, endsOf]
    exact q
def b_bent : List SS := [.asg (.nm 2) (.call "_law_take" [(.var 0), (.fz (.bin .Add (.bi .len [(.var 1)]) (.cst (.int 1))))]), .asg (.nm 3) (.t2 .ix (.cst (.str " -0123456789<=;+a")) (.call "_law_take" [(.var 0), (.cst (.int 17))])), .asg (.nm 4) (.tm .split (.var 1) (.cst (.str " "))), .asg (.nm 5) (.call "_law_take" [(.var 0), (.bi .len [(.var 4)])]), .asg (.nm 6) (.ix (.lst [(.cst (.str "")), (.cst (.str "-")), (.cst (.str "0")), (.cst (.str "-0")), (.cst (.str "01")), (.cst (.str "<=")), (.cst (.str "<")), (.t2 .mul (.cst (.str "1")) (.cst (.int 20))), (.t2 .mul (.cst (.str "9")) (.cst (.int 21))), (.cst (.str "-5"))]) (.call "_law_take" [(.var 0), (.cst (.int 10))])), .asg (.nm 7) (.call "_law_take" [(.var 0), (.cst (.int 7))]), .ife (.cmp .Eq (.var 7) (.cst (.int 0))) [.ret (.bin .Add (.bin .Add (.sslc (.var 1) none (some (.var 2))) (.var 3)) (.sslc (.var 1) (some (.var 2)) none))] [], .ife (.cmp .Eq (.var 7) (.cst (.int 1))) [.ret (.bin .Add (.sslc (.var 1) none (some (.var 2))) (.sslc (.var 1) (some (.bin .Add (.var 2) (.cst (.int 1)))) none))] [], .ife (.cmp .Eq (.var 7) (.cst (.int 2))) [.ret (.bin .Add (.bin .Add (.sslc (.var 1) none (some (.var 2))) (.var 3)) (.sslc (.var 1) (some (.bin .Add (.var 2) (.cst (.int 1)))) none))] [], .ife (.cmp .Eq (.var 7) (.cst (.int 3))) [.ret (.tm .join (.cst (.str " ")) (.bin .Add (.slc (.var 4) none (some (.var 5))) (.slc (.var 4) (some (.bin .Add (.var 5) (.cst (.int 1)))) none)))] [], .ife (.cmp .Eq (.var 7) (.cst (.int 4))) [.ret (.tm .join (.cst (.str " ")) (.bin .Add (.bin .Add (.slc (.var 4) none (some (.var 5))) (.lst [(.var 6)])) (.slc (.var 4) (some (.var 5)) none)))] [], .ret (.ife (.cmp .Eq (.var 7) (.cst (.int 5))) (.tm .join (.cst (.str " ")) (.bin .Add (.bin .Add (.slc (.var 4) none (some (.var 5))) (.lst [(.var 6)])) (.slc (.var 4) (some (.bin .Add (.var 5) (.cst (.int 1)))) none))) (.var 1))]
def spBent (lv k : Nat) : SSp := fun args h R X => lv ≤ k ∧ ∃ (p : Addr) (b : List SV) (z : Str), args = [.ref p, .str z] ∧ h p = some (.lst b) ∧ Drawn b ∧ TxOk 2000 z ∧ ∀ (z' : Str) (b' : List SV), TxOk 9000 z' → Drawn b' → R (.str z') (h.set p (.lst b'))
theorem oddL : ∀ p ∈ [(("" : String) : Str), (("-" : String) : Str), (("0" : String) : Str), (("-0" : String) : Str), (("01" : String) : Str), (("<=" : String) : Str), (("<" : String) : Str), repS 20 (("1" : String) : Str), repS 21 (("9" : String) : Str), (("-5" : String) : Str)], TxOk 21 p := by
  intro p hp
  simp only [List.mem_cons, List.mem_nil_iff, or_false] at hp
  rcases hp with rfl | rfl | rfl | rfl | rfl | rfl | rfl | rfl | rfl | rfl
  all_goals exact ⟨by decide +kernel, by decide +kernel⟩
theorem atI_of {α : Type} {xs : List α} {i : Int} (h0 : 0 ≤ i) (h1 : i < xs.length) : ∃ x, atI xs i = some x ∧ x ∈ xs := by
  have e := Int.toNat_of_nonneg h0
  have hn : i.toNat < xs.length := by omega
  refine ⟨xs[i.toNat], ?_, List.getElem_mem hn⟩
  have z := atI_lit i.toNat hn (List.getElem?_eq_getElem hn)
  rw [e] at z
  exact z
theorem atI_map' {α β : Type} {f : α → β} {xs : List α} {i : Int} : atI (xs.map f) i = (atI xs i).map f := by
  unfold atI
  rw [List.length_map]
  cases ixN xs.length i with
  | none => rfl
  | some j => simp
theorem len10 {P : Prop} {x0 x1 x2 x3 x4 x5 x6 x7 x8 x9 : SV} : lenQ [x0, x1, x2, x3, x4, x5, x6, x7, x8, x9] P = P := by simp [lenQ, sizeLine]
theorem asStrs_strs : ∀ zs : List Str, asStrs (zs.map SV.str) = some zs
  | [] => rfl
  | z :: zs => by
    simp only [List.map_cons, asStrs, asStrs_strs zs]
    rfl
theorem cut_sum {L : List Str} {lo hi : Option Int} : ((cut L lo hi).map (·.length)).sum ≤ (L.map (·.length)).sum ∧ (cut L lo hi).length ≤ L.length ∧ ∀ x ∈ cut L lo hi, x ∈ L := by
  have sub : ∀ (l : List Str) n, ((l.drop n).map (·.length)).sum ≤ (l.map (·.length)).sum ∧ ((l.take n).map (·.length)).sum ≤ (l.map (·.length)).sum := fun l n => by
    have e : ((l.take n ++ l.drop n).map (·.length)).sum = (l.map (·.length)).sum := by rw [List.take_append_drop]
    rw [List.map_append, List.sum_append] at e
    omega
  unfold cut
  refine ⟨Nat.le_trans (sub _ _).2 (sub _ _).1, by rw [List.length_take, List.length_drop]; omega, fun x hx => List.mem_of_mem_drop (List.mem_of_mem_take hx)⟩
theorem join_tx {ps : List Str} {n : Nat} (tp : ∀ p ∈ ps, TxOk 2000 p) (h1 : (ps.map (·.length)).sum ≤ 4100) (h2 : ps.length ≤ 4500) : TxOk 9000 (Txt.join spc ps) := TxOk.join (n := 0) (by decide) (fun p hp => (tp p hp).asc) (by rw [one_len]; omega)
theorem bent_ok {l1 : Nat} (c1 : G.call "_law_take" = spTake l1 k) (hl1 : l1 < lv) (q : spBent lv (k + 1) args h R X) : args.length = 2 ∧ wpSs G b_bent (st0 8 args) h (endsOf R) := by
  obtain ⟨h0, p, b, z, rfl, hp, hb, tz, q⟩ := q
  have hz : (10000000 : Nat) < sizeLine := by decide
  have lz := tz.len
  rw [← set_id hp]
  refine ⟨rfl, ?_⟩
  unfold b_bent
  simp only [q_ecall, sx0, sx1, sx2, sx3, sx4, sx5, sx6, sx7, sx8, sx9, sx10, sx11, sx12, Nat.reduceAdd, Nat.reduceSub, Nat.reduceLT, Nat.reduceEqDiff, st0, endsOf, c1]
  refine ⟨by omega, ?_⟩
  refine take_go (by omega) hb (by omega) (by omega) fun at_ b1 g1 g2 hb1 => ?_
  simp only [q_ecall, sx0, sx1, sx2, sx3, sx4, sx5, sx6, sx7, sx8, sx9, sx10, sx11, sx12, Nat.reduceAdd, Nat.reduceSub, Nat.reduceLT, Nat.reduceEqDiff, st0, endsOf, c1]
  refine take_go (by omega) hb1 (by decide) (by decide) fun r2 b2 g3 g4 hb2 => ?_
  obtain ⟨sg, esg, sgm⟩ := atI_of (xs := (((" -0123456789<=;+a" : String) : Str)).cps.toList) g3 (by rw [show (((" -0123456789<=;+a" : String) : Str)).cps.toList.length = 17 by decide]; omega)
  have tsg : TxOk 1 (⟨#[sg]⟩ : Str) := ⟨by simp [Str.length], fun c hc => by
    have : c = sg := by simpa [tl] using hc
    subst this
    exact (show ∀ c ∈ (((" -0123456789<=;+a" : String) : Str)).cps.toList, c < 128 by decide) c sgm⟩
  obtain ⟨ps, pl, p1, psum⟩ := tz.split spc_tl spc_k
  simp only [q_ecall, sx0, sx1, sx2, sx3, sx4, sx5, sx6, sx7, sx8, sx9, sx10, sx11, sx12, Nat.reduceAdd, Nat.reduceSub, Nat.reduceLT, Nat.reduceEqDiff, st0, endsOf]
  refine ⟨by decide, six_go esg ?_⟩
  simp only [q_ecall, sx0, sx1, sx2, sx3, sx4, sx5, sx6, sx7, sx8, sx9, sx10, sx11, sx12, Nat.reduceAdd, Nat.reduceSub, Nat.reduceLT, Nat.reduceEqDiff, st0, endsOf]
  refine ⟨by decide, by omega, ?_⟩
  generalize hL : Txt.split z (Str.ofString " ") = L at ps pl p1 psum ⊢
  simp only [q_ecall, sx0, sx1, sx2, sx3, sx4, sx5, sx6, sx7, sx8, sx9, sx10, sx11, sx12, Nat.reduceAdd, Nat.reduceSub, Nat.reduceLT, Nat.reduceEqDiff, st0, endsOf, List.length_map, c1]
  refine take_go (by omega) hb2 (by omega) (by omega) fun to b3 g5 g6 hb3 => ?_
  simp only [q_ecall, sx0, sx1, sx2, sx3, sx4, sx5, sx6, sx7, sx8, sx9, sx10, sx11, sx12, Nat.reduceAdd, Nat.reduceSub, Nat.reduceLT, Nat.reduceEqDiff, st0, endsOf, len10]
  refine ⟨by decide, by decide, by decide, by decide, by decide, by decide, by decide, by decide, ?_⟩
  simp only [q_ecall, sx0, sx1, sx2, sx3, sx4, sx5, sx6, sx7, sx8, sx9, sx10, sx11, sx12, Nat.reduceAdd, Nat.reduceSub, Nat.reduceLT, Nat.reduceEqDiff, st0, endsOf, len10, c1]
  refine take_go (by omega) hb3 (by decide) (by decide) fun r4 b4 g7 g8 hb4 => ?_
  have od := atI_of (xs := [(("" : String) : Str), (("-" : String) : Str), (("0" : String) : Str), (("-0" : String) : Str), (("01" : String) : Str), (("<=" : String) : Str), (("<" : String) : Str), repS 20 (("1" : String) : Str), repS 21 (("9" : String) : Str), (("-5" : String) : Str)]) g7 (by simp; omega)
  obtain ⟨odd, eo, om⟩ := od
  have todd := (oddL odd om).mono (show 21 ≤ 2000 by decide)
  have lodd := (oddL odd om).len
  have eo2 : atI ([(("" : String) : Str), (("-" : String) : Str), (("0" : String) : Str), (("-0" : String) : Str), (("01" : String) : Str), (("<=" : String) : Str), (("<" : String) : Str), repS 20 (("1" : String) : Str), repS 21 (("9" : String) : Str), (("-5" : String) : Str)].map SV.str) r4 = some (.str odd) := by
    rw [atI_map', eo]
    rfl
  refine ⟨false, _, r4, .str odd, rfl, rfl, eo2, ?_⟩
  simp only [q_ecall, sx0, sx1, sx2, sx3, sx4, sx5, sx6, sx7, sx8, sx9, sx10, sx11, sx12, Nat.reduceAdd, Nat.reduceSub, Nat.reduceLT, Nat.reduceEqDiff, st0, endsOf, c1]
  refine take_go (by omega) hb4 (by decide) (by decide) fun way b5 g9 g10 hb5 => ?_
  have ap : ∀ x y : Str, (x ++ y).length = x.length + y.length := fun x y => by rw [len_tl, tl_append, List.length_append, ← len_tl, ← len_tl]
  have ct : ∀ lo hi, TxOk 2000 (cutS z lo hi) := fun lo hi => tz.cut lo hi
  have fin : ∀ (ps' : List Str), (∀ p ∈ ps', TxOk 2000 p) → (ps'.map (·.length)).sum ≤ 4100 → ps'.length ≤ 4500 → R (.str (Txt.join spc ps')) (h.set p (.lst b5)) := fun ps' h1 h2 h3 => q _ _ (join_tx (n := 0) h1 h2 h3) hb5
  have cutm : ∀ lo hi, cut (L.map SV.str) lo hi = (cut L lo hi).map SV.str := fun lo hi => cut_map _ _ _ _
  have cs : ∀ lo hi, ((cut L lo hi).map (·.length)).sum ≤ 2000 ∧ (cut L lo hi).length ≤ 2001 ∧ ∀ x ∈ cut L lo hi, TxOk 2000 x := fun lo hi => by
    obtain ⟨e1, e2, e3⟩ := cut_sum (L := L) (lo := lo) (hi := hi)
    exact ⟨by omega, by omega, fun x hx => ps x (e3 x hx)⟩
  have jn2 : ∀ l1 h1 l2 h2, joinQ (Str.ofString " ") (asStrs ((cut L l1 h1).map SV.str ++ (cut L l2 h2).map SV.str)) fun d => retS d [some (SV.ref p), some (SV.str z), some (SV.int at_), some (SV.str { cps := #[sg] }), some (SV.own (List.map SV.str L)), some (SV.int to), some (SV.str odd), some (SV.int way)] (h.set p (.lst b5)) R := fun l1 h1 l2 h2 => by
    obtain ⟨a1, a2, a3⟩ := cs l1 h1
    obtain ⟨a4, a5, a6⟩ := cs l2 h2
    rw [← List.map_append]
    refine join_go (asStrs_strs _) ?_ ?_
    · rw [List.map_append, List.sum_append, List.length_append]
      have : (Str.ofString " ").length = 1 := one_len
      rw [this]
      omega
    · refine fin _ (fun p hp => ?_) ?_ ?_
      · rcases List.mem_append.mp hp with hp | hp
        · exact a3 p hp
        · exact a6 p hp
      · rw [List.map_append, List.sum_append]
        omega
      · rw [List.length_append]
        omega
  have jn3 : ∀ l1 h1 l2 h2, joinQ (Str.ofString " ") (asStrs ((cut L l1 h1).map SV.str ++ [SV.str odd] ++ (cut L l2 h2).map SV.str)) fun d => retS d [some (SV.ref p), some (SV.str z), some (SV.int at_), some (SV.str { cps := #[sg] }), some (SV.own (List.map SV.str L)), some (SV.int to), some (SV.str odd), some (SV.int way)] (h.set p (.lst b5)) R := fun l1 h1 l2 h2 => by
    obtain ⟨a1, a2, a3⟩ := cs l1 h1
    obtain ⟨a4, a5, a6⟩ := cs l2 h2
    have e : (cut L l1 h1).map SV.str ++ [SV.str odd] ++ (cut L l2 h2).map SV.str = (cut L l1 h1 ++ [odd] ++ cut L l2 h2).map SV.str := by simp
    rw [e]
    refine join_go (asStrs_strs _) ?_ ?_
    · simp only [List.map_append, List.sum_append, List.length_append, List.map_cons, List.map_nil, List.sum_cons, List.sum_nil, List.length_cons, List.length_nil]
      have : (Str.ofString " ").length = 1 := one_len
      rw [this]
      omega
    · refine fin _ (fun p hp => ?_) ?_ ?_
      · rcases List.mem_append.mp hp with hp | hp
        · rcases List.mem_append.mp hp with hp | hp
          · exact a3 p hp
          · rw [List.mem_singleton.mp hp]
            exact todd
        · exact a6 p hp
      · simp only [List.map_append, List.sum_append, List.map_cons, List.map_nil, List.sum_cons, List.sum_nil]
        omega
      · simp only [List.length_append, List.length_cons, List.length_nil]
        omega
  simp only [q_ecall, sx0, sx1, sx2, sx3, sx4, sx5, sx6, sx7, sx8, sx9, sx10, sx11, sx12, Nat.reduceAdd, Nat.reduceSub, Nat.reduceLT, Nat.reduceEqDiff, st0, endsOf]
  rw [q_ife]
  simp only [q_ecall, sx0, sx1, sx2, sx3, sx4, sx5, sx6, sx7, sx8, sx9, sx10, sx11, sx12, Nat.reduceAdd, Nat.reduceSub, Nat.reduceLT, Nat.reduceEqDiff, st0, endsOf, ap]
  refine cond_split (fun _ => ?_) fun _ => ?_
  · have := (ct none (some at_)).len
    have := (ct (some at_) none).len
    have := tsg.len
    refine ⟨by omega, by omega, by omega, by omega, q _ _ ((((ct _ _).app tsg).app (ct _ _)).mono (by decide)) hb5⟩
  rw [q_ife]
  simp only [q_ecall, sx0, sx1, sx2, sx3, sx4, sx5, sx6, sx7, sx8, sx9, sx10, sx11, sx12, Nat.reduceAdd, Nat.reduceSub, Nat.reduceLT, Nat.reduceEqDiff, st0, endsOf, ap]
  refine cond_split (fun _ => ?_) fun _ => ?_
  · have := (ct none (some at_)).len
    have := (ct (some (at_ + 1)) none).len
    refine ⟨by omega, by omega, by omega, q _ _ (((ct _ _).app (ct _ _)).mono (by decide)) hb5⟩
  rw [q_ife]
  simp only [q_ecall, sx0, sx1, sx2, sx3, sx4, sx5, sx6, sx7, sx8, sx9, sx10, sx11, sx12, Nat.reduceAdd, Nat.reduceSub, Nat.reduceLT, Nat.reduceEqDiff, st0, endsOf, ap]
  refine cond_split (fun _ => ?_) fun _ => ?_
  · have := (ct none (some at_)).len
    have := (ct (some (at_ + 1)) none).len
    have := tsg.len
    refine ⟨by omega, by omega, by omega, by omega, q _ _ ((((ct _ _).app tsg).app (ct _ _)).mono (by decide)) hb5⟩
  rw [q_ife]
  simp only [q_ecall, sx0, sx1, sx2, sx3, sx4, sx5, sx6, sx7, sx8, sx9, sx10, sx11, sx12, Nat.reduceAdd, Nat.reduceSub, Nat.reduceLT, Nat.reduceEqDiff, st0, endsOf, cutm]
  refine cond_split (fun _ => ?_) fun _ => ?_
  · refine ⟨false, _, _, rfl, rfl, rfl, rfl, by have := cs none (some to); have := cs (some (to + 1)) none; simp only [List.length_map]; omega, ?_⟩
    simp only [q_ecall, sx0, sx1, sx2, sx3, sx4, sx5, sx6, sx7, sx8, sx9, sx10, sx11, sx12, Nat.reduceAdd, Nat.reduceSub, Nat.reduceLT, Nat.reduceEqDiff, st0, endsOf]
    exact jn2 _ _ _ _
  rw [q_ife]
  simp only [q_ecall, sx0, sx1, sx2, sx3, sx4, sx5, sx6, sx7, sx8, sx9, sx10, sx11, sx12, Nat.reduceAdd, Nat.reduceSub, Nat.reduceLT, Nat.reduceEqDiff, st0, endsOf, cutm]
  refine cond_split (fun _ => ?_) fun _ => ?_
  · refine ⟨false, _, _, rfl, rfl, rfl, rfl, by have := cs none (some to); simp only [List.length_map, List.length_cons, List.length_nil]; omega, ?_⟩
    simp only [q_ecall, sx0, sx1, sx2, sx3, sx4, sx5, sx6, sx7, sx8, sx9, sx10, sx11, sx12, Nat.reduceAdd, Nat.reduceSub, Nat.reduceLT, Nat.reduceEqDiff, st0, endsOf, cutm]
    refine ⟨false, _, _, rfl, rfl, rfl, rfl, by have := cs none (some to); have := cs (some to) none; simp only [List.length_append, List.length_map, List.length_cons, List.length_nil]; omega, ?_⟩
    simp only [q_ecall, sx0, sx1, sx2, sx3, sx4, sx5, sx6, sx7, sx8, sx9, sx10, sx11, sx12, Nat.reduceAdd, Nat.reduceSub, Nat.reduceLT, Nat.reduceEqDiff, st0, endsOf]
    exact jn3 _ _ _ _
  refine cond_split (fun _ => ?_) fun _ => ?_
  · refine ⟨false, _, _, rfl, rfl, rfl, rfl, by have := cs none (some to); simp only [List.length_map, List.length_cons, List.length_nil]; omega, ?_⟩
    simp only [q_ecall, sx0, sx1, sx2, sx3, sx4, sx5, sx6, sx7, sx8, sx9, sx10, sx11, sx12, Nat.reduceAdd, Nat.reduceSub, Nat.reduceLT, Nat.reduceEqDiff, st0, endsOf, cutm]
    refine ⟨false, _, _, rfl, rfl, rfl, rfl, by have := cs none (some to); have := cs (some (to + 1)) none; simp only [List.length_append, List.length_map, List.length_cons, List.length_nil]; omega, ?_⟩
    simp only [q_ecall, sx0, sx1, sx2, sx3, sx4, sx5, sx6, sx7, sx8, sx9, sx10, sx11, sx12, Nat.reduceAdd, Nat.reduceSub, Nat.reduceLT, Nat.reduceEqDiff, st0, endsOf]
    exact jn3 _ _ _ _
  · exact q _ _ (tz.mono (by decide)) hb5
end
end SL
namespace Law
open PySem PySem.Spec L2 SL
theorem same_self {lv k n : Nat} {x : SV} {d : PyData} {h : SHp} {R : SV → SHp → Prop} {X : SX → SHp → Prop} (hk : lv + n ≤ k) (e : pdV [] h x = some d) (ok : okD n d) (o : x.isOwn = false) (q : R (.bl true) h) : spSame lv k [x, x] h R X := ⟨n, d, x, x, hk, rfl, e, e, ok, o, o, q⟩
theorem pds_ints : ∀ ns : List Int, pds (intsV ns) = some (ns.map PyData.int)
  | [] => rfl
  | n :: ns => by
    have := pds_ints ns
    unfold intsV at this ⊢
    simp only [List.map_cons, pds, SV.pd, this]
def optRD : Option (List Int × Int) → PyData
  | none => .none
  | some (ws, b) => .tuple [.tuple (ws.map PyData.int), .int b]
theorem pd_opt (o : Option (List Int × Int)) : (optRow o).pd = some (optRD o) := by
  cases o with
  | none => rfl
  | some wb =>
    obtain ⟨ws, b⟩ := wb
    simp [optRow, optRD, rowS, SV.pd, pds, pds_ints]
theorem ok_opt {o : Option (List Int × Int)} (h : ∀ ws b, o = some (ws, b) → ws.length ≤ 1000) : okD 2 (optRD o) := by
  have hz : (10000 : Nat) < sizeLine := by decide
  cases o with
  | none => trivial
  | some wb =>
    obtain ⟨ws, b⟩ := wb
    have := h ws b rfl
    simp only [optRD, okD]
    refine ⟨by simp; omega, fun x hx => ?_⟩
    simp only [List.mem_cons, List.mem_nil_iff, or_false] at hx
    rcases hx with rfl | rfl
    · refine ⟨by rw [List.length_map]; omega, fun y hy => ?_⟩
      obtain ⟨i, _, rfl⟩ := List.mem_map.mp hy
      trivial
    · trivial
theorem same_told {lv k : Nat} {o : Option (List Int × Int)} {v : SV} {dv : PyData} {h : SHp} {R : SV → SHp → Prop} {X : SX → SHp → Prop} (hk : lv + 3 ≤ k) (h1 : ∀ ws b, o = some (ws, b) → ws.length ≤ 1000) (h2 : v.pd = some dv) (h3 : okD 2 dv) (q : R (.bl true) h) : spSame lv k [.tup [optRow o, v], .tup [optRow o, v]] h R X := by
  have hz : (10000 : Nat) < sizeLine := by decide
  refine same_self (n := 3) (d := .tuple [optRD o, dv]) hk ?_ ?_ rfl q
  · simp [pdV, view, vw, pds, pd_opt, h2]
  · simp only [okD]
    refine ⟨by simp; omega, fun x hx => ?_⟩
    simp only [List.mem_cons, List.mem_nil_iff, or_false] at hx
    rcases hx with rfl | rfl
    · exact ok_opt h1
    · exact h3
theorem allSome_len : ∀ {os : List (Option Int)} {is : List Int}, allSome os = some is → is.length = os.length
  | [], is, e => by simp [allSome] at e; subst e; rfl
  | none :: os, is, e => by simp [allSome] at e
  | some i :: os, is, e => by
    simp only [allSome] at e
    obtain ⟨r, e1, e2⟩ := Option.map_eq_some_iff.mp e
    subst e2
    simp [allSome_len e1]
theorem rowIn_many {z : Str} {n : Nat} {ws : List Int} {b : Int} (e : rowIn z n = some (ws, b)) : ws.length ≤ n := by
  unfold rowIn at e
  split at e
  · split at e
    · rename_i e1 e2
      cases e
      have := allSome_len e1
      rw [this, List.length_map, List.length_take]
      omega
    · cases e
  · cases e
section
variable {G : Gm} {k : Nat} {args : List SV} {h : SHp} {R : SV → SHp → Prop} {X : SX → SHp → Prop}
theorem law_ok (c1 : G.call "_law_box" = spBox 1 k) (c2 : G.call "_law_take" = spTake 1 k) (c3 : G.call "_law_row" = spRow 4 k) (c4 : G.call "_law_row_text" = spRowText 1 k) (c5 : G.call "_law_same" = spSame 1 k) (c6 : G.call "row_text" = spRowText 2 k) (c7 : G.call "_law_read" = spLRead 3 k) (c8 : G.call "_law_bent" = spBent 2 k) (c9 : G.call "_law_row_in" = spLRowIn 2 k)
    (q : spLaw 63 20 (k + 1) args h R X) : args.length = 1 ∧ wpSs G f_law.body (st0 9 args) h (endsOf R) := by
  obtain ⟨hk, ns, rfl, hl, q⟩ := q
  have hz : (10000 : Nat) < sizeLine := by decide
  refine ⟨rfl, ?_⟩
  unfold f_law
  simp only [q_ecall, sx0, sx1, sx2, sx3, sx4, sx5, sx6, sx7, sx8, sx9, sx10, sx11, sx12, Nat.reduceAdd, Nat.reduceSub, Nat.reduceLT, Nat.reduceEqDiff, st0, endsOf, c1]
  refine ⟨by omega, ns, rfl, hl, fun b hb => ?_⟩
  simp only [q_ecall, sx0, sx1, sx2, sx3, sx4, sx5, sx6, sx7, sx8, sx9, sx10, sx11, sx12, Nat.reduceAdd, Nat.reduceSub, Nat.reduceLT, Nat.reduceEqDiff, st0, endsOf]
  intro p hp
  rw [q_for]
  simp only [q_ecall, sx0, sx1, sx2, sx3, sx4, sx5, sx6, sx7, sx8, sx9, sx10, sx11, sx12, Nat.reduceAdd, Nat.reduceSub, Nat.reduceLT, Nat.reduceEqDiff, st0, endsOf]
  refine ⟨by decide, by decide, ?_⟩
  refine for_rule (fun done todo δ h' => ∃ (b : List SV) (o2 o3 o4 o5 o6 o7 o8 : Option SV), Drawn b ∧ h' p = some (.lst b) ∧ δ = [some (.lkd (ns.map SV.int)), some (.ref p), o2, o3, o4, o5, o6, o7, o8]) ⟨b, none, none, none, none, none, none, none, hb, SHp.set_same, rfl⟩ ?_ ?_
  · rintro done x todo _ H K ⟨b, o2, o3, o4, o5, o6, o7, o8, hb, hpH, rfl⟩ hK
    refine ⟨trivial, ?_⟩
    rw [← set_id hpH]
    simp only [q_ecall, sx0, sx1, sx2, sx3, sx4, sx5, sx6, sx7, sx8, sx9, sx10, sx11, sx12, Nat.reduceAdd, Nat.reduceSub, Nat.reduceLT, Nat.reduceEqDiff, st0, endsOf, c2]
    refine take_go (by omega) hb (by decide) (by decide) fun r1 b1 g1 g2 hb1 => ?_
    obtain ⟨n, en, n0, n1⟩ : ∃ c : Nat, 1 + r1 = c ∧ 1 ≤ c ∧ c ≤ 4 := ⟨(1 + r1).toNat, by omega, by omega, by omega⟩
    simp only [q_ecall, sx0, sx1, sx2, sx3, sx4, sx5, sx6, sx7, sx8, sx9, sx10, sx11, sx12, Nat.reduceAdd, Nat.reduceSub, Nat.reduceLT, Nat.reduceEqDiff, st0, endsOf, en]
    refine ⟨by unfold CPow; decide +kernel, ?_⟩
    simp only [q_ecall, sx0, sx1, sx2, sx3, sx4, sx5, sx6, sx7, sx8, sx9, sx10, sx11, sx12, Nat.reduceAdd, Nat.reduceSub, Nat.reduceLT, Nat.reduceEqDiff, st0, endsOf, c2]
    refine take_go (by omega) hb1 (by decide) (by decide) fun r2 b2 g3 g4 hb2 => ?_
    obtain ⟨far, ef, f1, f2⟩ : ∃ far : Int, atI [SV.int 9, .int (10 ^ Int.toNat 12)] r2 = some (.int far) ∧ 1 ≤ far ∧ far ≤ 10 ^ 12 := by
      have : r2 = 0 ∨ r2 = 1 := by omega
      rcases this with rfl | rfl
      · exact ⟨9, rfl, by decide, by decide⟩
      · exact ⟨10 ^ Int.toNat 12, rfl, by decide, by decide⟩
    simp only [q_ecall, sx0, sx1, sx2, sx3, sx4, sx5, sx6, sx7, sx8, sx9, sx10, sx11, sx12, Nat.reduceAdd, Nat.reduceSub, Nat.reduceLT, Nat.reduceEqDiff, st0, endsOf, ef, c3]
    refine ⟨by omega, p, b2, n, far, rfl, SHp.set_same, hb2, by omega, by omega, f1, by omega, fun ws m b3 wl near m1 m2 hb3 => ?_⟩
    have wl : ws.length = n := by omega
    have fg : Fig20 ws := fun i hi => by have := near i hi; omega
    have fm : m.natAbs < 10 ^ 20 := by omega
    have wne : ws ≠ [] := by intro z; subst z; simp at wl; omega
    have tx := rowText_tx fg fm wne
    have tl2 : 22 * ws.length + 4 + 21 ≤ 2000 := by omega
    have rt := rowIn_text fg fm
    simp only [rowS, q_ecall, sx0, sx1, sx2, sx3, sx4, sx5, sx6, sx7, sx8, sx9, sx10, sx11, sx12, Nat.reduceAdd, Nat.reduceSub, Nat.reduceLT, Nat.reduceEqDiff, st0, endsOf, c4]
    refine ⟨by omega, ws, m, rfl, fg, fm, wne, by omega, ?_⟩
    simp only [q_ecall, sx0, sx1, sx2, sx3, sx4, sx5, sx6, sx7, sx8, sx9, sx10, sx11, sx12, Nat.reduceAdd, Nat.reduceSub, Nat.reduceLT, Nat.reduceEqDiff, st0, endsOf]
    rw [q_ife]
    simp only [q_ecall, sx0, sx1, sx2, sx3, sx4, sx5, sx6, sx7, sx8, sx9, sx10, sx11, sx12, Nat.reduceAdd, Nat.reduceSub, Nat.reduceLT, Nat.reduceEqDiff, st0, endsOf, c6]
    refine ⟨by omega, ws, m, rfl, fg, fm, wne, by omega, ?_⟩
    simp only [q_ecall, sx0, sx1, sx2, sx3, sx4, sx5, sx6, sx7, sx8, sx9, sx10, sx11, sx12, Nat.reduceAdd, Nat.reduceSub, Nat.reduceLT, Nat.reduceEqDiff, st0, endsOf, c5]
    refine same_self (n := 0) (d := .str (rowText ws m)) (by omega) rfl tx.ok rfl ?_
    simp only [q_ecall, sx0, sx1, sx2, sx3, sx4, sx5, sx6, sx7, sx8, sx9, sx10, sx11, sx12, Nat.reduceAdd, Nat.reduceSub, Nat.reduceLT, Nat.reduceEqDiff, st0, endsOf, c7]
    refine ⟨by omega, rowText ws m, n, rfl, tx.mono (by omega), by omega, ?_⟩
    rw [← wl, rt]
    simp only [optRow, rowS, Option.isSome_some, if_true, q_ecall, sx0, sx1, sx2, sx3, sx4, sx5, sx6, sx7, sx8, sx9, sx10, sx11, sx12, Nat.reduceAdd, Nat.reduceSub, Nat.reduceLT, Nat.reduceEqDiff, st0, endsOf, c5]
    refine same_told (o := some (ws, m)) (v := .non) (dv := .none) (by omega) (fun ws' b' e => by cases e; omega) rfl trivial ?_
    simp only [q_ecall, sx0, sx1, sx2, sx3, sx4, sx5, sx6, sx7, sx8, sx9, sx10, sx11, sx12, Nat.reduceAdd, Nat.reduceSub, Nat.reduceLT, Nat.reduceEqDiff, st0, endsOf]
    rw [q_for]
    simp only [q_ecall, sx0, sx1, sx2, sx3, sx4, sx5, sx6, sx7, sx8, sx9, sx10, sx11, sx12, Nat.reduceAdd, Nat.reduceSub, Nat.reduceLT, Nat.reduceEqDiff, st0, endsOf]
    refine ⟨by decide, by decide, ?_⟩
    refine for_rule (fun done todo δ h' => ∃ (b : List SV) (o5 o6 o7 o8 : Option SV), Drawn b ∧ h' p = some (.lst b) ∧ δ = [some (.lkd (ns.map SV.int)), some (.ref p), some x, some (.int n), some (.tup [.tup (intsV ws), .int m]), o5, o6, o7, o8]) ⟨b3, _, _, _, _, hb3, SHp.set_same, by rw [wl]⟩ ?_ ?_
    · rintro done2 x2 todo2 _ H2 K2 ⟨b4, o5, o6, o7, o8, hb4, hp2, rfl⟩ hK2
      refine ⟨trivial, ?_⟩
      rw [← set_id hp2]
      simp only [q_ecall, sx0, sx1, sx2, sx3, sx4, sx5, sx6, sx7, sx8, sx9, sx10, sx11, sx12, Nat.reduceAdd, Nat.reduceSub, Nat.reduceLT, Nat.reduceEqDiff, st0, endsOf, c4]
      refine ⟨by omega, ws, m, rfl, fg, fm, wne, by omega, ?_⟩
      simp only [q_ecall, sx0, sx1, sx2, sx3, sx4, sx5, sx6, sx7, sx8, sx9, sx10, sx11, sx12, Nat.reduceAdd, Nat.reduceSub, Nat.reduceLT, Nat.reduceEqDiff, st0, endsOf, c8]
      refine ⟨by omega, p, b4, rowText ws m, rfl, SHp.set_same, hb4, tx.mono tl2, fun z b5 tz hb5 => ?_⟩
      simp only [q_ecall, sx0, sx1, sx2, sx3, sx4, sx5, sx6, sx7, sx8, sx9, sx10, sx11, sx12, Nat.reduceAdd, Nat.reduceSub, Nat.reduceLT, Nat.reduceEqDiff, st0, endsOf, c2]
      refine take_go (by omega) hb5 (by decide) (by decide) fun r6 b6 g5 g6 hb6 => ?_
      obtain ⟨dd, ed, d1, d2⟩ : ∃ dd : Int, atI [SV.int 0, .int 0, .int 1, .int (-1)] r6 = some (.int dd) ∧ -1 ≤ dd ∧ dd ≤ 1 := by
        have : r6 = 0 ∨ r6 = 1 ∨ r6 = 2 ∨ r6 = 3 := by omega
        rcases this with rfl | rfl | rfl | rfl
        · exact ⟨0, rfl, by decide, by decide⟩
        · exact ⟨0, rfl, by decide, by decide⟩
        · exact ⟨1, rfl, by decide, by decide⟩
        · exact ⟨-1, rfl, by decide, by decide⟩
      obtain ⟨sz, es, s1⟩ : ∃ c : Nat, max 1 ((n : Int) + dd) = c ∧ c ≤ 100 := ⟨(max 1 ((n : Int) + dd)).toNat, by omega, by omega⟩
      simp only [q_ecall, sx0, sx1, sx2, sx3, sx4, sx5, sx6, sx7, sx8, sx9, sx10, sx11, sx12, Nat.reduceAdd, Nat.reduceSub, Nat.reduceLT, Nat.reduceEqDiff, st0, endsOf, ed, es, c9]
      refine ⟨by omega, z, sz, rfl, tz.mono (by decide), s1, ?_⟩
      have many : ∀ ws' b', rowIn z sz = some (ws', b') → ws'.length ≤ 1000 := fun ws' b' e => by have := rowIn_many e; omega
      have fin : wpSs G [] [some (.lkd (ns.map SV.int)), some (.ref p), some x, some (.int n), some (.tup [.tup (intsV ws), .int m]), some (.str z), some x2, some (.int sz), some (optRow (rowIn z sz))] (H2.set p (.lst b6)) { nx := K2, rt := R, bk := fun _ _ => True, ct := K2 } := by
        simp only [q_ecall, sx0, sx1, sx2, sx3, sx4, sx5, sx6, sx7, sx8, sx9, sx10, sx11, sx12, Nat.reduceAdd, Nat.reduceSub, Nat.reduceLT, Nat.reduceEqDiff, st0, endsOf]
        exact hK2 _ _ ⟨b6, _, _, _, _, hb6, SHp.set_same, rfl⟩
      simp only [q_ecall, sx0, sx1, sx2, sx3, sx4, sx5, sx6, sx7, sx8, sx9, sx10, sx11, sx12, Nat.reduceAdd, Nat.reduceSub, Nat.reduceLT, Nat.reduceEqDiff, st0, endsOf] at fin
      cases e : rowIn z sz with
      | none =>
        rw [e] at many fin
        simp only [optRow, q_ecall, sx0, sx1, sx2, sx3, sx4, sx5, sx6, sx7, sx8, sx9, sx10, sx11, sx12, Nat.reduceAdd, Nat.reduceSub, Nat.reduceLT, Nat.reduceEqDiff, st0, endsOf]
        rw [q_ife]
        simp only [q_ecall, sx0, sx1, sx2, sx3, sx4, sx5, sx6, sx7, sx8, sx9, sx10, sx11, sx12, Nat.reduceAdd, Nat.reduceSub, Nat.reduceLT, Nat.reduceEqDiff, st0, endsOf, c7]
        refine ⟨by omega, z, sz, rfl, tz.mono (by decide), s1, ?_⟩
        rw [e]
        simp only [optRow, Option.isSome_none, if_false, q_ecall, sx0, sx1, sx2, sx3, sx4, sx5, sx6, sx7, sx8, sx9, sx10, sx11, sx12, Nat.reduceAdd, Nat.reduceSub, Nat.reduceLT, Nat.reduceEqDiff, st0, endsOf, c5]
        refine same_told (o := none) (v := .int 0) (dv := .int 0) (by omega) (fun ws' b' e => by cases e) rfl trivial ?_
        simp only [q_ecall, sx0, sx1, sx2, sx3, sx4, sx5, sx6, sx7, sx8, sx9, sx10, sx11, sx12, Nat.reduceAdd, Nat.reduceSub, Nat.reduceLT, Nat.reduceEqDiff, st0, endsOf]
        exact fin
      | some wb =>
        obtain ⟨ws', b'⟩ := wb
        rw [e] at many fin
        simp only [optRow, rowS, q_ecall, sx0, sx1, sx2, sx3, sx4, sx5, sx6, sx7, sx8, sx9, sx10, sx11, sx12, Nat.reduceAdd, Nat.reduceSub, Nat.reduceLT, Nat.reduceEqDiff, st0, endsOf]
        rw [q_ife]
        simp only [q_ecall, sx0, sx1, sx2, sx3, sx4, sx5, sx6, sx7, sx8, sx9, sx10, sx11, sx12, Nat.reduceAdd, Nat.reduceSub, Nat.reduceLT, Nat.reduceEqDiff, st0, endsOf, c7]
        refine ⟨by omega, z, sz, rfl, tz.mono (by decide), s1, ?_⟩
        rw [e]
        simp only [optRow, rowS, Option.isSome_some, if_true, q_ecall, sx0, sx1, sx2, sx3, sx4, sx5, sx6, sx7, sx8, sx9, sx10, sx11, sx12, Nat.reduceAdd, Nat.reduceSub, Nat.reduceLT, Nat.reduceEqDiff, st0, endsOf, c5]
        refine same_told (o := some (ws', b')) (v := .non) (dv := .none) (by omega) (fun _ _ e => many _ _ e) rfl trivial ?_
        simp only [q_ecall, sx0, sx1, sx2, sx3, sx4, sx5, sx6, sx7, sx8, sx9, sx10, sx11, sx12, Nat.reduceAdd, Nat.reduceSub, Nat.reduceLT, Nat.reduceEqDiff, st0, endsOf]
        exact fin
    · rintro _ H2 ⟨b4, o5, o6, o7, o8, hb4, hp2, rfl⟩
      refine ⟨trivial, ?_⟩
      simp only [q_ecall, sx0, sx1, sx2, sx3, sx4, sx5, sx6, sx7, sx8, sx9, sx10, sx11, sx12, Nat.reduceAdd, Nat.reduceSub, Nat.reduceLT, Nat.reduceEqDiff, st0, endsOf]
      exact hK _ _ ⟨b4, _, _, _, _, _, _, _, hb4, hp2, rfl⟩
  · rintro _ H ⟨b, o2, o3, o4, o5, o6, o7, o8, hb, hpH, rfl⟩
    refine ⟨trivial, ?_⟩
    simp only [q_ecall, sx0, sx1, sx2, sx3, sx4, sx5, sx6, sx7, sx8, sx9, sx10, sx11, sx12, Nat.reduceAdd, Nat.reduceSub, Nat.reduceLT, Nat.reduceEqDiff, st0, endsOf, c7]
    refine ⟨by omega, _, 1, rfl, ⟨by decide, by decide⟩, by decide, ?_⟩
    have e : rowIn (("" : String) : Str) 1 = none := by
      refine rowIn_len fun q => ?_
      obtain ⟨_, l, _, _⟩ := (show TxOk 0 (("" : String) : Str) from ⟨by decide, by decide⟩).split spc_tl spc_k
      omega
    rw [e]
    simp only [optRow, Option.isSome_none, if_false, q_ecall, sx0, sx1, sx2, sx3, sx4, sx5, sx6, sx7, sx8, sx9, sx10, sx11, sx12, Nat.reduceAdd, Nat.reduceSub, Nat.reduceLT, Nat.reduceEqDiff, st0, endsOf, c5]
    refine same_told (o := none) (v := .int 0) (dv := .int 0) (by omega) (fun ws' b' e => by cases e) rfl trivial ?_
    exact q _
end
def tabL : List (Str × (Nat → SSp)) := [(("number_in" : Str), spNumIn 1), (("numbers_text" : Str), spNumsText 1), (("row_text" : Str), spRowText 2), (("read_row" : Str), spReadRow 2), (("read_row/1/count" : Str), fun k args h R X => spReadRow 2 k (asmG .non [.arg 0, .arg 1] args []) h R X), (("_law_box" : Str), spBox 1), (("_law_take" : Str), spTake 1), (("_law_near" : Str), spNear 2), (("_law_same" : Str), spSame 1), (("_law_weights" : Str), spWeights 3), (("_law_row" : Str), spRow 4), (("_law_number_in" : Str), spNumIn 1), (("_law_row_in" : Str), spLRowIn 2), (("_law_row_text" : Str), spRowText 1), (("_law_bent" : Str), spBent 2), (("_law_read" : Str), spLRead 3), (("law" : Str), spLaw 63 20)]
abbrev tab : Str → Nat → SSp := tabOf tabL
def glob (x : Str) : Option SV := none
theorem tab0 : ∀ f args h R X, ¬ tab f 0 args h R X := by
  refine tabOf0 fun s hs args h R X q => ?_
  simp only [tabL, List.map_cons, List.map_nil, List.mem_cons, List.mem_nil_iff, or_false] at hs
  repeat (rcases hs with rfl | hs; first | (obtain ⟨z, _⟩ := q; omega) | (obtain ⟨n, _, _, _, z, _⟩ := q; omega) | (obtain ⟨⟨z, _⟩, _⟩ := q; omega))
theorem kept : ∀ p ∈ tops, Kept tab glob p.1 := by
  intro p hp
  simp only [tops, List.mem_cons, List.mem_nil_iff, or_false] at hp
  rcases hp with rfl | rfl | rfl | rfl | rfl | rfl | rfl | rfl | rfl | rfl | rfl | rfl | rfl | rfl | rfl | rfl
  · exact fun k args h R X q => num_in_ok (X := X) (lv := 1) (k := k) q
  · exact fun k args h R X q => nums_text_ok (X := X) (lv := 1) (k := k) q
  · exact fun k args h R X q => row_text_ok (X := X) (lv := 2) (l1 := 1) rfl (by decide) q
  · exact fun k args h R X q => read_row_ok (X := X) (lv := 2) (l1 := 1) rfl rfl (by decide) q
  · exact fun k args h R X q => box_ok (X := X) (lv := 1) (k := k + 1) q
  · exact fun k args h R X q => take_ok (X := X) (lv := 1) (k := k + 1) q
  · exact fun k args h R X q => near_ok (X := X) (lv := 2) (lc := 1) rfl (by decide) q
  · exact fun k args h R X q => same_ok (X := X) (lv := 1) rfl q
  · exact fun k args h R X q => weights_ok (X := X) (lv := 3) (l1 := 1) (l2 := 2) rfl rfl (by decide) (by decide) q
  · exact fun k args h R X q => row_ok' (X := X) (lv := 4) (l1 := 3) (l2 := 2) rfl rfl (by decide) (by decide) q
  · exact fun k args h R X q => lnum_in_ok (X := X) (lv := 1) (k := k) q
  · exact fun k args h R X q => lrow_in_ok (X := X) (lv := 2) (l1 := 1) rfl (by decide) q
  · exact fun k args h R X q => lrow_text_ok (X := X) (lv := 1) (k := k) q
  · exact fun k args h R X q => bent_ok (X := X) (lv := 2) (l1 := 1) rfl (by decide) q
  · exact fun k args h R X q => lread_ok (X := X) (lv := 3) (l1 := 2) rfl (by decide) q
  · exact fun k args h R X q => law_ok (X := X) rfl rfl rfl rfl rfl rfl rfl rfl rfl q
theorem cpTab : CpTab cps tab := by
  intro c hc
  simp only [cps, List.mem_cons, List.mem_nil_iff, or_false] at hc
  rcases hc with rfl
  all_goals exact fun k args h R E q => q
theorem omTab : OmTab oms tab := by
  intro c hc
  simp only [oms, List.mem_cons, List.mem_nil_iff, or_false] at hc
theorem okTab : OkTab oks tab := by
  intro c hc
  simp only [oks, List.mem_cons, List.mem_nil_iff, or_false] at hc

end Law
theorem PySem.Challenge.cw_slopeyard_k06_rows_written_and_read_holds : PySem.Challenge.rw_slopeyard_k06_rows_written_and_read.Holds :=
  law_of (tab := Law.tab) (glob := Law.glob) rfl Law.tab0 Law.kept Law.cpTab Law.omTab Law.okTab

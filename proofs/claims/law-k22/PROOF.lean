import PyProof.Rows.All
import Wide.All
import OpenK.AllK
import Wide.FinOn
import HandS.Base
import HandS.Call
import HandS.List
import HandS.Dict
import HandS.ForMost
import HandS.ForExc
import HandS.TupAny
import HandS.Deep
import KE.DataCmp
import HandS.IsInst
import HandS.TupLe
import HandS.Conv
import HandS.TupLen
import KE.SortData
import KE.DataMinMax
import HandS.More
import HandS.WordsDict
import HandS.Text
import HandS.SortRule
import HandS.Iter
import HandS.Zip
import HandS.Comp
import HandS.DictComp
import HandS.CallSlots
import HandS.WordsExc
import HandS.Small
import HandS.SetKeys
import KE.KTupTabMore
import HandS.TryOnly
import HandS.ExcOwn
import HandS.Style
import PySem.Challenge.RW_neverjoin_k22_whole_texts_that_clash
set_option Elab.async false
set_option linter.all false
set_option maxRecDepth 100000
set_option maxHeartbeats 1000000
namespace Ly
open PySem L2

/-! ### 1. data -/
inductive D where
  | non
  | bl (b : Bool)
  | int (i : Int)
  | str (s : List Nat)
  | tup (xs : List D)
  | lst (xs : List D)
  | dic (t : Bool) (ks vs : List D)
  | obj (k : Nat) (xs : List D)
  | pool (a b : Int) (cs : List Int)
  | scr (ns : List Int)
  | dls (t : Bool) (ks vs : List D)
  deriving Inhabited

def D.atom : D → Bool
  | .non | .bl _ | .int _ | .str _ => true
  | _ => false

structure Cc where
  K : PySem.W.Frag
  cls : Nat → Addr
  nms : Nat → List Str

def kD : Key → D
  | .inl i => .int i
  | .inr s => .str s.cps.toList

mutual
def Rep (c : Cc) (G : Hp) : D → V → Prop
  | .non, v => v = .non
  | .bl b, v => v = .bl b
  | .int i, v => v = .int i
  | .str s, v => v = .str ⟨s.toArray⟩
  | .tup ds, v => ∃ a xs, v = .ref a ∧ G a = some (.tup xs) ∧ Reps c G ds xs
  | .lst ds, v => ∃ a xs, v = .ref a ∧ G a = some (.lst xs) ∧ Reps c G ds xs
  | .dic false ks ds, v => ∃ a, ∃ kvs : List (Key × V), v = .ref a ∧ Rd G a (.dK kvs) ∧ ks = kvs.map (fun p => kD p.1) ∧ Reps c G ds (kvs.map (·.2))
  | .dic true ks ds, v => ∃ a, ∃ kvs : List (List Key × V), v = .ref a ∧ Rd G a (.dT kvs) ∧ ks = kvs.map (fun p => .tup (p.1.map kD)) ∧ Reps c G ds (kvs.map (·.2))
  | .obj k ds, v => ∃ a dx fs, v = .ref a ∧ G a = some (.ins (c.cls k) dx fs) ∧ fs.map (·.1) = (c.nms k).take ds.length ∧ Reps c G ds (fs.map (·.2))
  | .pool _ _ _, _ => False
  | .dls _ _ _, _ => False
  | .scr ns, v => ∃ a, v = .ref a ∧ SqL c.K G a (ns.map V.int)
def Reps (c : Cc) (G : Hp) : List D → List V → Prop
  | [], vs => vs = []
  | d :: ds, vs => ∃ v r, vs = v :: r ∧ Rep c G d v ∧ Reps c G ds r
end

/-- the cell of a thing, its parts in G -/
def CellOf (c : Cc) (G : Hp) : D → HO → Prop
  | .tup ds, .tup xs => Reps c G ds xs
  | .lst ds, .lst xs => Reps c G ds xs
  | .dic false ks ds, .dK kvs => ks = kvs.map (fun p => kD p.1) ∧ Reps c G ds (kvs.map (·.2))
  | .dic true ks ds, .dT kvs => ks = kvs.map (fun p => .tup (p.1.map kD)) ∧ Reps c G ds (kvs.map (·.2))
  | .obj k ds, .ins C _ fs => C = c.cls k ∧ fs.map (·.1) = (c.nms k).take ds.length ∧ Reps c G ds (fs.map (·.2))
  | _, _ => False

/-- a value that is read: its own cell in H, its parts in G -/
def RdV (c : Cc) (H G : Hp) : D → V → Prop
  | .non, v => v = .non
  | .bl b, v => v = .bl b
  | .int i, v => v = .int i
  | .str s, v => v = .str ⟨s.toArray⟩
  | .pool _ _ _, _ => False
  | .dls _ _ _, _ => False
  | .scr ns, v => ∃ a, v = .ref a ∧ SqL c.K H a (ns.map V.int)
  | .dic t ks ds, v => ∃ a u, v = .ref a ∧ Rd H a u ∧ CellOf c G (.dic t ks ds) u
  | d, v => ∃ a u, v = .ref a ∧ H a = some u ∧ CellOf c G d u

/-- H is extended by H' -/
abbrev Le (H H' : Hp) : Prop := ∀ a u, H a = some u → H' a = some u
theorem Le.refl (H : Hp) : Le H H := fun _ _ h => h
theorem Le.trans {H H1 H2 : Hp} (a : Le H H1) (b : Le H1 H2) : Le H H2 := fun x u h => b x u (a x u h)
theorem Le.sq {K : PySem.W.Frag} {H H' : Hp} (e : Le H H') {a : Addr} {xs : List V} (h : SqL K H a xs) : SqL K H' a xs := by
  rcases h with (h | ⟨o, h⟩) | h
  · exact .inl (.inl (e _ _ h))
  · exact .inl (.inr ⟨o, e _ _ h⟩)
  · exact .inr h
theorem Le.rd {H H' : Hp} (e : Le H H') {a : Addr} {u : HO} (h : Rd H a u) : Rd H' a u := by
  rcases h with h | ⟨o, h⟩
  · exact .inl (e _ _ h)
  · exact .inr ⟨o, e _ _ h⟩

mutual
theorem Rep.mono {c : Cc} {G G' : Hp} (e : Le G G') : ∀ (d : D) (v : V), Rep c G d v → Rep c G' d v
  | .non, _, h => by unfold Rep at h ⊢; exact h
  | .bl _, _, h => by unfold Rep at h ⊢; exact h
  | .int _, _, h => by unfold Rep at h ⊢; exact h
  | .str _, _, h => by unfold Rep at h ⊢; exact h
  | .tup ds, v, h => by
    unfold Rep at h ⊢
    obtain ⟨a, xs, r, h1, h2⟩ := h
    exact ⟨a, xs, r, e _ _ h1, Reps.mono e ds xs h2⟩
  | .lst ds, v, h => by
    unfold Rep at h ⊢
    obtain ⟨a, xs, r, h1, h2⟩ := h
    exact ⟨a, xs, r, e _ _ h1, Reps.mono e ds xs h2⟩
  | .dic false ks ds, v, h => by
    unfold Rep at h ⊢
    obtain ⟨a, kvs, r, h1, h2, h3⟩ := h
    exact ⟨a, kvs, r, e.rd h1, h2, Reps.mono e ds _ h3⟩
  | .dic true ks ds, v, h => by
    unfold Rep at h ⊢
    obtain ⟨a, kvs, r, h1, h2, h3⟩ := h
    exact ⟨a, kvs, r, e.rd h1, h2, Reps.mono e ds _ h3⟩
  | .obj k ds, v, h => by
    unfold Rep at h ⊢
    obtain ⟨a, dx, fs, r, h1, h2, h3⟩ := h
    exact ⟨a, dx, fs, r, e _ _ h1, h2, Reps.mono e ds _ h3⟩
  | .pool _ _ _, _, h => by unfold Rep at h ⊢; exact h
  | .dls _ _ _, _, h => by unfold Rep at h ⊢; exact h
  | .scr ns, _, h => by
    unfold Rep at h ⊢
    obtain ⟨a, r, h1⟩ := h
    exact ⟨a, r, e.sq h1⟩
theorem Reps.mono {c : Cc} {G G' : Hp} (e : Le G G') : ∀ (ds : List D) (vs : List V), Reps c G ds vs → Reps c G' ds vs
  | [], _, h => by unfold Reps at h ⊢; exact h
  | d :: ds, vs, h => by
    unfold Reps at h ⊢
    obtain ⟨v, r, e1, h1, h2⟩ := h
    exact ⟨v, r, e1, Rep.mono e d v h1, Reps.mono e ds r h2⟩
end

section
variable {c : Cc} {H H' G G' : Hp} {d : D} {v : V} {ds es : List D} {vs ws : List V} {u : HO}
theorem Reps.nil_iff : Reps c G [] vs ↔ vs = [] := by unfold Reps; exact Iff.rfl
theorem Reps.nil : Reps c G [] [] := by unfold Reps; rfl
theorem Reps.cons (h : Rep c G d v) (t : Reps c G ds vs) : Reps c G (d :: ds) (v :: vs) := by
  unfold Reps
  exact ⟨v, vs, rfl, h, t⟩
theorem Reps.cons_inv (h : Reps c G (d :: ds) vs) : ∃ v r, vs = v :: r ∧ Rep c G d v ∧ Reps c G ds r := by
  unfold Reps at h
  exact h
theorem Reps.append : ∀ {ds : List D} {vs : List V}, Reps c G ds vs → Reps c G es ws → Reps c G (ds ++ es) (vs ++ ws)
  | [], vs, h, t => by
    cases Reps.nil_iff.mp h
    exact t
  | d :: ds, vs, h, t => by
    obtain ⟨v, r, rfl, h1, h2⟩ := h.cons_inv
    exact .cons h1 (Reps.append h2 t)
theorem Reps.len : ∀ {ds : List D} {vs : List V}, Reps c G ds vs → ds.length = vs.length
  | [], vs, h => by cases Reps.nil_iff.mp h; rfl
  | d :: ds, vs, h => by
    obtain ⟨v, r, rfl, h1, h2⟩ := h.cons_inv
    simp [Reps.len h2]
theorem Reps.get : ∀ {ds : List D} {vs : List V} {i : Nat} {d : D}, Reps c G ds vs → ds[i]? = some d → ∃ v, vs[i]? = some v ∧ Rep c G d v
  | [], _, _, _, _, e => by simp at e
  | d :: ds, vs, 0, d', h, e => by
    obtain ⟨v, r, rfl, h1, h2⟩ := h.cons_inv
    simp at e; subst e
    exact ⟨v, rfl, h1⟩
  | d :: ds, vs, i + 1, d', h, e => by
    obtain ⟨v, r, rfl, h1, h2⟩ := h.cons_inv
    simpa using Reps.get h2 (by simpa using e)
theorem Reps.getV : ∀ {ds : List D} {vs : List V} {i : Nat} {v : V}, Reps c G ds vs → vs[i]? = some v → ∃ d, ds[i]? = some d ∧ Rep c G d v := fun {ds vs i v} h e => by
  have hl := h.len
  have hi : i < vs.length := (List.getElem?_eq_some_iff.mp e).1
  have hi' : i < ds.length := by omega
  obtain ⟨w, e2, r⟩ := h.get (List.getElem?_eq_getElem hi')
  rw [e] at e2; cases e2
  exact ⟨_, List.getElem?_eq_getElem hi', r⟩
theorem Reps.take : ∀ {ds : List D} {vs : List V} (n : Nat), Reps c G ds vs → Reps c G (ds.take n) (vs.take n)
  | _, _, 0, _ => by simp; exact Reps.nil
  | [], vs, n + 1, h => by cases Reps.nil_iff.mp h; simp; exact Reps.nil
  | d :: ds, vs, n + 1, h => by
    obtain ⟨v, r, rfl, h1, h2⟩ := h.cons_inv
    simpa using Reps.cons h1 (Reps.take n h2)
theorem Reps.drop : ∀ {ds : List D} {vs : List V} (n : Nat), Reps c G ds vs → Reps c G (ds.drop n) (vs.drop n)
  | _, _, 0, h => by simpa using h
  | [], vs, n + 1, h => by cases Reps.nil_iff.mp h; simpa using Reps.nil
  | d :: ds, vs, n + 1, h => by
    obtain ⟨v, r, rfl, h1, h2⟩ := h.cons_inv
    simpa using Reps.drop n h2
theorem Reps.set : ∀ {ds : List D} {vs : List V} (i : Nat) {d : D} {v : V}, Rep c G d v → Reps c G ds vs → Reps c G (ds.set i d) (vs.set i v)
  | [], vs, i, _, _, _, h => by cases Reps.nil_iff.mp h; exact Reps.nil
  | d :: ds, vs, 0, _, _, hd, h => by
    obtain ⟨v, r, rfl, h1, h2⟩ := h.cons_inv
    simpa using Reps.cons hd h2
  | d :: ds, vs, i + 1, _, _, hd, h => by
    obtain ⟨v, r, rfl, h1, h2⟩ := h.cons_inv
    simpa using Reps.cons h1 (Reps.set i hd h2)
theorem Reps.reverse : ∀ {ds : List D} {vs : List V}, Reps c G ds vs → Reps c G ds.reverse vs.reverse
  | [], vs, h => by cases Reps.nil_iff.mp h; exact Reps.nil
  | d :: ds, vs, h => by
    obtain ⟨v, r, rfl, h1, h2⟩ := h.cons_inv
    simpa using (Reps.reverse h2).append (.cons h1 .nil)
theorem CellOf.mono (e : Le G G') (h : CellOf c G d u) : CellOf c G' d u := by
  cases d with
  | dic t ks vs =>
    cases t <;> cases u <;> first | exact h.elim | skip
    · exact ⟨h.1, Reps.mono e _ _ h.2⟩
    · exact ⟨h.1, Reps.mono e _ _ h.2⟩
  | _ =>
  cases u <;> first | exact h.elim | exact Reps.mono e _ _ h | exact ⟨h.1, h.2.1, Reps.mono e _ _ h.2.2⟩
theorem rdV_self : Rep c G d v ↔ RdV c G G d v := by
  cases d with
  | non => unfold Rep; exact Iff.rfl
  | bl b => unfold Rep; exact Iff.rfl
  | int i => unfold Rep; exact Iff.rfl
  | str s => unfold Rep; exact Iff.rfl
  | tup ds =>
    unfold Rep
    constructor
    · rintro ⟨a, xs, r, h1, h2⟩
      exact ⟨a, .tup xs, r, h1, h2⟩
    · rintro ⟨a, u, r, h1, h2⟩
      cases u <;> first | exact h2.elim | skip
      exact ⟨a, _, r, h1, h2⟩
  | lst ds =>
    unfold Rep
    constructor
    · rintro ⟨a, xs, r, h1, h2⟩
      exact ⟨a, .lst xs, r, h1, h2⟩
    · rintro ⟨a, u, r, h1, h2⟩
      cases u <;> first | exact h2.elim | skip
      exact ⟨a, _, r, h1, h2⟩
  | dic t ks ds =>
    cases t with
    | false =>
      unfold Rep
      constructor
      · rintro ⟨a, kvs, r, h1, h2, h3⟩
        exact ⟨a, .dK kvs, r, h1, h2, h3⟩
      · rintro ⟨a, u, r, h1, h2⟩
        cases u <;> first | exact h2.elim | skip
        exact ⟨a, _, r, h1, h2.1, h2.2⟩
    | true =>
      unfold Rep
      constructor
      · rintro ⟨a, kvs, r, h1, h2, h3⟩
        exact ⟨a, .dT kvs, r, h1, h2, h3⟩
      · rintro ⟨a, u, r, h1, h2⟩
        cases u <;> first | exact h2.elim | skip
        exact ⟨a, _, r, h1, h2.1, h2.2⟩
  | obj k ds =>
    unfold Rep
    constructor
    · rintro ⟨a, dx, fs, r, h1, h2, h3⟩
      exact ⟨a, .ins (c.cls k) dx fs, r, h1, rfl, h2, h3⟩
    · rintro ⟨a, u, r, h1, h2⟩
      cases u <;> first | exact h2.elim | skip
      obtain ⟨e1, e2, e3⟩ := h2
      subst e1
      exact ⟨a, _, _, r, h1, e2, e3⟩
  | pool a b cs => unfold Rep; exact Iff.rfl
  | dls a b cs => unfold Rep; exact Iff.rfl
  | scr ns => unfold Rep; exact Iff.rfl
theorem RdV.mono (e : Le H H') (e2 : Le G G') (h : RdV c H G d v) : RdV c H' G' d v := by
  cases d with
  | non => exact h
  | bl b => exact h
  | int i => exact h
  | str s => exact h
  | tup ds => obtain ⟨a, u, r, h1, h2⟩ := h; exact ⟨a, u, r, e _ _ h1, h2.mono e2⟩
  | lst ds => obtain ⟨a, u, r, h1, h2⟩ := h; exact ⟨a, u, r, e _ _ h1, h2.mono e2⟩
  | dic t ks ds => obtain ⟨a, u, r, h1, h2⟩ := h; exact ⟨a, u, r, e.rd h1, h2.mono e2⟩
  | obj k ds => obtain ⟨a, u, r, h1, h2⟩ := h; exact ⟨a, u, r, e _ _ h1, h2.mono e2⟩
  | pool a b cs => exact h.elim
  | dls a b cs => exact h.elim
  | scr ns => obtain ⟨a, r, h1⟩ := h; exact ⟨a, r, e.sq h1⟩
end

/-! ### 2. hidden addresses, slots, the relation -/
noncomputable def hide (H : Hp) (O : Addr → Prop) : Hp := fun b => open Classical in if O b then none else H b
section
variable {H H' : Hp} {O O' : Addr → Prop} {a : Addr} {u : HO}
theorem hide_some : hide H O a = some u ↔ H a = some u ∧ ¬ O a := by
  unfold hide
  by_cases h : O a
  · simp [h]
  · simp [h]
theorem hide_le : Le (hide H O) H := fun a u h => (hide_some.mp h).1
theorem hide_mono (h : ∀ a u, H a = some u → ¬ O a → H' a = some u ∧ ¬ O' a) : Le (hide H O) (hide H' O') := fun a u e => by
  obtain ⟨e1, e2⟩ := hide_some.mp e
  exact hide_some.mpr (h a u e1 e2)
end

inductive Slot where
  | no
  | fz (d : D)
  | ow (d : D)
  deriving Inhabited
abbrev Env := List Slot

/-- the cell of a dict of lists, the lists at las -/
def DlsCell (t : Bool) (ks : List D) (las : List Addr) : HO → Prop
  | .dK kvs => t = false ∧ ks = kvs.map (fun p => kD p.1) ∧ kvs.map (·.2) = las.map V.ref
  | .dT kvs => t = true ∧ ks = kvs.map (fun p => .tup (p.1.map kD)) ∧ kvs.map (·.2) = las.map V.ref
  | _ => False
/-- owned lists -/
def Lsts (c : Cc) (H G : Hp) : List D → List Addr → Prop
  | [], las => las = []
  | d :: ds, las => ∃ l r dd xs, las = l :: r ∧ d = .lst dd ∧ H l = some (.lst xs) ∧ Reps c G dd xs ∧ Lsts c H G ds r
theorem Lsts.keep {c : Cc} {H H1 G G' : Hp} (e : Le G G') : ∀ {ds : List D} {las : List Addr}, Lsts c H G ds las → (∀ x u, x ∈ las → H x = some u → H1 x = some u) → Lsts c H1 G' ds las
  | [], las, h, _ => h
  | d :: ds, las, ⟨l, r, dd, xs, e1, e2, h1, h2, h3⟩, k => ⟨l, r, dd, xs, e1, e2, k _ _ (by rw [e1]; exact .head _) h1, Reps.mono e _ _ h2, Lsts.keep e h3 fun x u hx => k x u (by rw [e1]; exact .tail _ hx)⟩
theorem Lsts.mem {c : Cc} {H G : Hp} : ∀ {ds : List D} {las : List Addr}, Lsts c H G ds las → ∀ x ∈ las, ∃ xs, H x = some (.lst xs)
  | [], las, h, x, hx => by rw [show las = [] from h] at hx; cases hx
  | d :: ds, las, ⟨l, r, dd, xs, e1, e2, h1, h2, h3⟩, x, hx => by
    rw [e1] at hx
    rcases List.mem_cons.mp hx with rfl | hx
    · exact ⟨xs, h1⟩
    · exact Lsts.mem h3 x hx
/-- what may be owned: its cells are S -/
def Own (c : Cc) (H G : Hp) : D → Addr → (Addr → Prop) → Prop
  | .pool i j cs, a, S => ∃ b, a ≠ b ∧ H a = some (.lst [.int i, .int j, .ref b]) ∧ H b = some (.lst (cs.map V.int)) ∧ ∀ x, S x ↔ (x = a ∨ x = b)
  | .lst ds, a, S => (∃ u, H a = some u ∧ CellOf c G (.lst ds) u) ∧ ∀ x, S x ↔ x = a
  | .dic t ks ds, a, S => (∃ u, H a = some u ∧ CellOf c G (.dic t ks ds) u) ∧ ∀ x, S x ↔ x = a
  | .obj k ds, a, S => (∃ u, H a = some u ∧ CellOf c G (.obj k ds) u) ∧ ∀ x, S x ↔ x = a
  | .dls t ks ds, a, S => ∃ u las, H a = some u ∧ DlsCell t ks las u ∧ Lsts c H G ds las ∧ las.Nodup ∧ a ∉ las ∧ ∀ x, S x ↔ (x = a ∨ x ∈ las)
  | _, _, _ => False

def SlotOk (c : Cc) (H G : Hp) (x : Option (Option V)) (s : Option Slot) (S : Addr → Prop) : Prop :=
  match s with
  | some (.fz d) => (∀ a, ¬ S a) ∧ ∃ v, x = some (some v) ∧ Rep c G d v
  | some (.ow d) => ∃ a, x = some (some (.ref a)) ∧ Own c H G d a S
  | _ => ∀ a, ¬ S a

abbrev Ownr := Nat → Addr → Prop
/-- all that is protected: P from outside, o the slots' -/
def All (o : Ownr) (P : Addr → Prop) : Addr → Prop := fun a => P a ∨ ∃ i, o i a

structure Rel (c : Cc) (σ : St) (H : Hp) (ρ : Env) (o : Ownr) (P : Addr → Prop) : Prop where
  len : σ.length = ρ.length
  slot : ∀ i, SlotOk c H (hide H (All o P)) σ[i]? ρ[i]? (o i)
  disj : ∀ i j a, o i a → o j a → i = j
  dP : ∀ i a, o i a → ¬ P a
  prot : ∀ a, P a → ∃ u, H a = some u ∧ ∀ xs, u ≠ .tup xs

/-- from (H, o) to (H', o'): what is not owned stays; what is newly owned is new -/
structure Step (H : Hp) (o : Ownr) (H' : Hp) (o' : Ownr) : Prop where
  keep : ∀ a u, H a = some u → (∀ i, ¬ o i a) → H' a = some u
  news : ∀ i a, o' i a → o i a ∨ H a = none
  there : ∀ a u, H a = some u → ∃ u', H' a = some u'
/-- what is protected grows by new addresses alone -/
structure Grow (H : Hp) (P P' : Addr → Prop) : Prop where
  sub : ∀ a, P a → P' a
  new : ∀ a, P' a → P a ∨ H a = none

section
variable {c : Cc} {σ : St} {H H1 H2 : Hp} {ρ : Env} {o o1 o2 : Ownr} {P P' : Addr → Prop} {a : Addr} {d : D} {S : Addr → Prop} {v : V}
theorem Step.refl : Step H o H o := ⟨fun _ _ h _ => h, fun i a h => .inl h, fun _ u h => ⟨u, h⟩⟩
theorem Step.none_of (s : Step H o H1 o1) (e : H1 a = none) : H a = none := by
  cases z : H a with
  | none => rfl
  | some u =>
    obtain ⟨u', q⟩ := s.there a u z
    rw [e] at q; cases q
theorem Step.trans (s : Step H o H1 o1) (t : Step H1 o1 H2 o2) : Step H o H2 o2 := by
  refine ⟨fun a u h n => ?_, fun i a h => ?_, fun a u h => ?_⟩
  · refine t.keep a u (s.keep a u h n) fun i hi => ?_
    rcases s.news i a hi with hj | e
    · exact n i hj
    · rw [h] at e; cases e
  · rcases t.news i a h with hj | e
    · exact s.news i a hj
    · exact .inr (s.none_of e)
  · obtain ⟨u1, h1⟩ := s.there a u h
    exact t.there a u1 h1
theorem Step.le (h : Le H H1) : Step H o H1 o := ⟨fun a u e _ => h a u e, fun i a h => .inl h, fun a u e => ⟨u, h a u e⟩⟩
theorem Grow.refl : Grow H P P := ⟨fun _ h => h, fun _ h => .inl h⟩
theorem Grow.trans {P1 P2 : Addr → Prop} (g : Grow H P P1) (s : Step H o H1 o1) (g' : Grow H1 P1 P2) : Grow H P P2 :=
  ⟨fun a h => g'.sub a (g.sub a h), fun a h => (g'.new a h).elim (g.new a) fun e => .inr (s.none_of e)⟩
/-- nothing frozen is lost by a step -/
theorem Step.hide {P1 : Addr → Prop} (s : Step H o H1 o1) (hP : ∀ a, P1 a → P a ∨ H a = none) : Le (hide H (All o P)) (hide H1 (All o1 P1)) := hide_mono fun a u h n => by
  have no : ∀ i, ¬ o i a := fun i hi => n (.inr ⟨i, hi⟩)
  refine ⟨s.keep a u h no, fun q => ?_⟩
  rcases q with q | ⟨i, hi⟩
  · rcases hP a q with q | e
    · exact n (.inl q)
    · rw [h] at e; cases e
  · rcases s.news i a hi with hj | e
    · exact no i hj
    · rw [h] at e; cases e
theorem Own.mono_G {G G' : Hp} (e : Le G G') (h : Own c H G d a S) : Own c H G' d a S := by
  cases d <;> first | exact h.elim | skip
  · obtain ⟨⟨u, h1, h2⟩, h3⟩ := h; exact ⟨⟨u, h1, h2.mono e⟩, h3⟩
  · obtain ⟨⟨u, h1, h2⟩, h3⟩ := h; exact ⟨⟨u, h1, h2.mono e⟩, h3⟩
  · obtain ⟨⟨u, h1, h2⟩, h3⟩ := h; exact ⟨⟨u, h1, h2.mono e⟩, h3⟩
  · exact h
  · obtain ⟨u, las, h1, h2, h3, h4⟩ := h; exact ⟨u, las, h1, h2, h3.keep e fun _ _ _ q => q, h4⟩
theorem Own.here (h : Own c H G d a S) : S a := by
  cases d <;> first | exact h.elim | skip
  · exact (h.2 a).mpr rfl
  · exact (h.2 a).mpr rfl
  · exact (h.2 a).mpr rfl
  · obtain ⟨b, _, _, _, h4⟩ := h; exact (h4 a).mpr (.inl rfl)
  · obtain ⟨u, las, _, _, _, _, _, h4⟩ := h; exact (h4 a).mpr (.inl rfl)
/-- what is owned stands, and is no tuple -/
theorem Own.prot (h : Own c H G d a S) : ∀ x, S x → ∃ u, H x = some u ∧ ∀ xs, u ≠ .tup xs := fun x hx => by
  cases d <;> first | exact h.elim | skip
  · obtain ⟨⟨u, h1, h2⟩, h3⟩ := h
    cases (h3 x).mp hx
    refine ⟨u, h1, fun xs e => ?_⟩
    subst e; first | exact h2 | (rename_i t _ _; cases t <;> exact h2)
  · obtain ⟨⟨u, h1, h2⟩, h3⟩ := h
    cases (h3 x).mp hx
    refine ⟨u, h1, fun xs e => ?_⟩
    subst e; first | exact h2 | (rename_i t _ _; cases t <;> exact h2)
  · obtain ⟨⟨u, h1, h2⟩, h3⟩ := h
    cases (h3 x).mp hx
    refine ⟨u, h1, fun xs e => ?_⟩
    subst e; first | exact h2 | (rename_i t _ _; cases t <;> exact h2)
  · obtain ⟨b, h1, h2, h3, h4⟩ := h
    rcases (h4 x).mp hx with rfl | rfl
    · exact ⟨_, h2, fun xs e => nomatch e⟩
    · exact ⟨_, h3, fun xs e => nomatch e⟩
  · obtain ⟨u, las, h1, h2, h3, _, _, h4⟩ := h
    rcases (h4 x).mp hx with rfl | hx
    · exact ⟨u, h1, fun xs e => by subst e; exact h2⟩
    · obtain ⟨xs, q⟩ := h3.mem x hx
      exact ⟨_, q, fun xs e => nomatch e⟩
/-- its cells stay: it stays -/
theorem Own.keep {G G' : Hp} (h : Own c H G d a S) (k : ∀ x u, S x → H x = some u → H1 x = some u) (e : Le G G') : Own c H1 G' d a S := by
  have ha := h.here
  cases d <;> first | exact h.elim | skip
  · obtain ⟨⟨u, h1, h2⟩, h3⟩ := h; exact ⟨⟨u, k _ _ ha h1, h2.mono e⟩, h3⟩
  · obtain ⟨⟨u, h1, h2⟩, h3⟩ := h; exact ⟨⟨u, k _ _ ha h1, h2.mono e⟩, h3⟩
  · obtain ⟨⟨u, h1, h2⟩, h3⟩ := h; exact ⟨⟨u, k _ _ ha h1, h2.mono e⟩, h3⟩
  · obtain ⟨b, h1, h2, h3, h4⟩ := h
    exact ⟨b, h1, k _ _ ha h2, k _ _ ((h4 b).mpr (.inr rfl)) h3, h4⟩
  · obtain ⟨u, las, h1, h2, h3, h5, h6, h4⟩ := h
    exact ⟨u, las, k _ _ ha h1, h2, h3.keep e fun x u hx q => k x u ((h4 x).mpr (.inr hx)) q, h5, h6, h4⟩
end
end Ly
set_option Elab.async false
set_option linter.all false
set_option maxRecDepth 100000
set_option maxHeartbeats 1000000
namespace Ly
open PySem L2

/-! ### 3. results -/
inductive R where
  | fz (d : D)
  | fr (d : D)
  | sl (i : Nat)
  deriving Inhabited
structure XD where
  k : Nat
  xs : List D
  deriving Inhabited
inductive Out (α : Type) where
  | val (a : α)
  | exc (x : XD)
abbrev Sem (α : Type) := Env → Option (Out α × Env)
def bnd {α β : Type} (m : Option (Out α × Env)) (k : α → Env → Option (Out β × Env)) : Option (Out β × Env) :=
  match m with
  | none => none
  | some (.val a, ρ) => k a ρ
  | some (.exc x, ρ) => some (.exc x, ρ)

def D.isPool : D → Bool
  | .pool _ _ _ => true
  | .dls _ _ _ => true
  | _ => false
/-- what a result reads as -/
def val (ρ : Env) : R → Option D
  | .fz d => some d
  | .fr d => if d.isPool then none else some d
  | .sl i => match ρ[i]? with
    | some (.fz d) => some d
    | some (.ow d) => if d.isPool then none else some d
    | _ => none
/-- as what it stands when it is frozen -/
def fzD : D → Option D
  | .pool _ _ _ => none
  | .dls t ks vs => some (.dic t ks vs)
  | d => some d
/-- frozen -/
def frz (ρ : Env) : R → Option (D × Env)
  | .fz d => some (d, ρ)
  | .fr d => (fzD d).map fun e => (e, ρ)
  | .sl i => match ρ[i]? with
    | some (.fz d) => some (d, ρ)
    | some (.ow d) => (fzD d).map fun e => (e, ρ.set i (.fz e))
    | _ => none

abbrev Prot := Addr → Prop
abbrev RR (α β : Type) := Cc → St → Hp → Ownr → Prot → Prot → α → β → Prop
def RepR : RR R V := fun c σ H o P P' r v =>
  match r with
  | .fz d => Rep c (hide H (All o P')) d v
  | .fr d => ∃ a S, v = .ref a ∧ Own c H (hide H (All o P')) d a S ∧ ∀ x, S x → P' x ∧ ¬ P x
  | .sl i => σ[i]? = some (some v)
def RepB : RR Bool Bool := fun _ _ _ _ _ _ a b => a = b
inductive All2 {α β : Type} (r : α → β → Prop) : List α → List β → Prop
  | nil : All2 r [] []
  | cons {a b as bs} : r a b → All2 r as bs → All2 r (a :: as) (b :: bs)
def RepL : RR (List R) (List V) := fun c σ H o P P' rs vs => All2 (RepR c σ H o P P') rs vs

/-- an exception: its class, its fields in its own dict -/
def XRep (c : Cc) (H G : Hp) (x : XD) (cl : Value) (dd : Option Addr) : Prop :=
  cl = .ref (c.cls x.k) ∧ (x.xs = [] ∨ ∃ a fs, dd = some a ∧ H a = some (.xd fs) ∧ fs.map (·.1) = (c.nms x.k).take x.xs.length ∧ Reps c G x.xs (fs.map (·.2)))

/-- the wish about exceptions, as HandS has it -/
abbrev WXX := Value → Option Addr → St → Hp → Prop

def Post {α β : Type} (c : Cc) (W : WXX) (rel : RR α β) (σ : St) (H : Hp) (o : Ownr) (P : Prot) (res : Option (Out α × Env)) (Q : β → Hp → Prop) : Prop :=
  match res with
  | none => False
  | some (.val r, ρ') => ∀ v H' o' P', Rel c σ H' ρ' o' P' → Grow H P P' → Step H o H' o' → rel c σ H' o' P P' r v → Q v H'
  | some (.exc x, ρ') => ∀ cl dd H' o', Rel c σ H' ρ' o' P → Step H o H' o' → XRep c H' (hide H' (All o' P)) x cl dd → W cl dd σ H'
def tG {α β : Type} (c : Cc) (W : WXX) (rel : RR α β) (f : Sem α) : St → Hp → (β → Hp → Prop) → Prop := fun σ H Q => ∃ ρ o P, Rel c σ H ρ o P ∧ Post c W rel σ H o P (f ρ) Q

/-- a relation that may lean on less of what was protected -/
def Base {α β : Type} (rel : RR α β) : Prop := ∀ c σ H o P P1 P' a b, (∀ x, P x → P1 x) → rel c σ H o P1 P' a b → rel c σ H o P P' a b
theorem base_R : Base RepR := fun c σ H o P P1 P' a b hp h => by
  cases a with
  | fz d => exact h
  | fr d =>
    obtain ⟨a, S, e, h1, h2⟩ := h
    exact ⟨a, S, e, h1, fun x hx => ⟨(h2 x hx).1, fun q => (h2 x hx).2 (hp x q)⟩⟩
  | sl i => exact h
theorem base_B : Base RepB := fun c σ H o P P1 P' a b hp h => h
theorem base_L : Base RepL := fun c σ H o P P1 P' a b hp h => by
  unfold RepL at h ⊢
  induction h with
  | nil => exact .nil
  | cons r _ ih => exact .cons (base_R _ _ _ _ _ _ _ _ _ hp r) ih

section
variable {c : Cc} {W : WXX} {σ : St} {H H1 H' : Hp} {ρ ρ' : Env} {o o1 o' : Ownr} {P P1 P2 P' : Prot} {d : D} {v : V} {r : R} {a : Addr} {u : HO} {α β γ δ : Type}

theorem XRep.mono {G G' : Hp} {x : XD} {cl : Value} {dd : Option Addr} (e : Le G G') (h : XRep c H G x cl dd) : XRep c H G' x cl dd := by
  obtain ⟨h1, h2⟩ := h
  refine ⟨h1, ?_⟩
  rcases h2 with h2 | ⟨a, fs, e1, e2, e3, e4⟩
  · exact .inl h2
  · exact .inr ⟨a, fs, e1, e2, e3, Reps.mono e _ _ e4⟩
theorem slotOk_mono {G G' : Hp} {x : Option (Option V)} {s : Option Slot} {S : Addr → Prop} (e : Le G G') (h : SlotOk c H G x s S) : SlotOk c H G' x s S := by
  unfold SlotOk at h ⊢
  split
  · obtain ⟨h1, v, h2, h3⟩ := h
    exact ⟨h1, v, h2, Rep.mono e _ _ h3⟩
  · obtain ⟨a, h1, h2⟩ := h
    exact ⟨a, h1, h2.mono_G e⟩
  · rename_i h1 h2
    split at h
    · exact (h1 _ rfl).elim
    · exact (h2 _ rfl).elim
    · exact h
/-- less is protected -/
theorem Rel.shrink (h : Rel c σ H ρ o P') (hp : ∀ a, P a → P' a) : Rel c σ H ρ o P := by
  have le : Le (hide H (All o P')) (hide H (All o P)) := hide_mono fun a u e n => ⟨e, fun q => n (q.elim (fun z => .inl (hp a z)) .inr)⟩
  exact ⟨h.len, fun i => slotOk_mono le (h.slot i), h.disj, fun i a q z => h.dP i a q (hp a z), fun a z => h.prot a (hp a z)⟩
/-- what stands is kept -/
theorem Rel.grow (h : Rel c σ H ρ o P) (k : Le H H') : Rel c σ H' ρ o P := by
  have le : Le (hide H (All o P)) (hide H' (All o P)) := hide_mono fun a u e n => ⟨k a u e, n⟩
  refine ⟨h.len, fun i => ?_, h.disj, h.dP, fun a z => ?_⟩
  · have q := h.slot i
    unfold SlotOk at q ⊢
    split
    · rename_i e
      rw [e] at q
      obtain ⟨h1, v, h2, h3⟩ := q
      exact ⟨h1, v, h2, Rep.mono le _ _ h3⟩
    · rename_i e
      rw [e] at q
      obtain ⟨a, h1, h2⟩ := q
      exact ⟨a, h1, h2.keep (fun x u _ => k x u) le⟩
    · rename_i h1 h2
      split at q
      · rename_i e; exact (h1 _ e).elim
      · rename_i e; exact (h2 _ e).elim
      · exact q
  · obtain ⟨u, h1, h2⟩ := h.prot a z
    exact ⟨u, k a u h1, h2⟩
theorem Rel.own_prot (h : Rel c σ H ρ o P) {i : Nat} (hi : o i a) : ∃ u, H a = some u ∧ ∀ xs, u ≠ .tup xs := by
  have q := h.slot i
  unfold SlotOk at q
  split at q
  · exact (q.1 a hi).elim
  · obtain ⟨b, _, h2⟩ := q
    exact h2.prot a hi
  · exact (q a hi).elim
theorem Rel.all_prot (h : Rel c σ H ρ o P) (hi : All o P a) : ∃ u, H a = some u ∧ ∀ xs, u ≠ .tup xs := by
  rcases hi with z | ⟨i, z⟩
  · exact h.prot a z
  · exact h.own_prot z
theorem Rel.new (h : Rel c σ H ρ o P) (e : H a = none) : ¬ All o P a := fun q => by
  obtain ⟨u, h1, _⟩ := h.all_prot q
  rw [e] at h1; cases h1

theorem Own.rdV {G : Hp} {S : Addr → Prop} (h : Own c H G d a S) (hn : d.isPool = false) : RdV c H G d (.ref a) := by
  cases d <;> first | exact h.elim | skip
  · obtain ⟨⟨u, h1, h2⟩, _⟩ := h; exact ⟨a, u, rfl, h1, h2⟩
  · obtain ⟨⟨u, h1, h2⟩, _⟩ := h; exact ⟨a, u, rfl, .inl h1, h2⟩
  · obtain ⟨⟨u, h1, h2⟩, _⟩ := h; exact ⟨a, u, rfl, h1, h2⟩
  · cases hn
  · cases hn
/-- a result is read -/
theorem RepR.read (h : RepR c σ H o P P' r v) (hR : Rel c σ H ρ o P') (e : val ρ r = some d) : RdV c H (hide H (All o P')) d v := by
  cases r with
  | fz d' =>
    cases e
    exact (rdV_self.mp h).mono hide_le (Le.refl _)
  | fr d' =>
    have e : (if d'.isPool = true then none else some d') = some d := e
    obtain ⟨a, S, rfl, h1, _⟩ := h
    by_cases hn : d'.isPool = true
    · rw [if_pos hn] at e; cases e
    · rw [if_neg hn] at e; cases e
      exact h1.rdV (by simpa using hn)
  | sl i =>
    have q := hR.slot i
    have h : σ[i]? = some (some v) := h
    simp only [val] at e
    unfold SlotOk at q
    cases hs : ρ[i]? with
    | none => rw [hs] at e; cases e
    | some s =>
      rw [hs] at e q
      cases s with
      | no => cases e
      | fz d' =>
        cases e
        obtain ⟨_, w, h2, h3⟩ := q
        rw [h] at h2; cases h2
        exact (rdV_self.mp h3).mono hide_le (Le.refl _)
      | ow d' =>
        simp only at e
        split at e
        · cases e
        · rename_i hn
          cases e
          obtain ⟨a, h2, h3⟩ := q
          rw [h] at h2; cases h2
          exact h3.rdV (by simpa using hn)
/-- a result stays a result -/
theorem RepR.step (h : RepR c σ H o P P1 r v) (hR1 : Rel c σ H ρ o P1) (s : Step H o H' o') (g : Grow H P1 P2) : RepR c σ H' o' P P2 r v := by
  cases r with
  | fz d => exact Rep.mono (s.hide g.new) _ _ h
  | fr d =>
    obtain ⟨a, S, e, h1, h2⟩ := h
    refine ⟨a, S, e, h1.keep (fun x u hx hu => s.keep x u hu fun i hi => hR1.dP i x hi (h2 x hx).1) (s.hide g.new), fun x hx => ⟨g.sub x (h2 x hx).1, (h2 x hx).2⟩⟩
  | sl i => exact h
theorem RepL.step {rs : List R} {vs : List V} (h : RepL c σ H o P P1 rs vs) (hR1 : Rel c σ H ρ o P1) (s : Step H o H' o') (g : Grow H P1 P2) : RepL c σ H' o' P P2 rs vs := by
  unfold RepL at h ⊢
  induction h with
  | nil => exact .nil
  | cons r _ ih => exact .cons (r.step hR1 s g) ih

/-- the wish seen from later on -/
theorem Post.later {rel : RR α β} {res : Option (Out α × Env)} {Q : β → Hp → Prop} (hb : Base rel) (h : Post c W rel σ H o P res Q) (s : Step H o H1 o1) (g : Grow H P P1) : Post c W rel σ H1 o1 P1 res Q := by
  match res, h with
  | some (.val r, ρ'), h =>
    intro v H' o' P' R' g' s' q
    exact h v H' o' P' R' (g.trans s g') (s.trans s') (hb _ _ _ _ _ _ _ _ _ g.sub q)
  | some (.exc x, ρ'), h =>
    intro cl dd H' o' R' s' q
    exact h cl dd H' o' (R'.shrink g.sub) (s.trans s') (q.mono (hide_mono fun a u e n => ⟨e, fun z => n (z.elim (fun z => .inl (g.sub a z)) .inr)⟩))
/-- one part, then the rest -/
theorem seq1 {rel1 : RR α β} {rel2 : RR γ δ} {f : Sem α} {k : α → Env → Option (Out γ × Env)} {Q : δ → Hp → Prop} {K : β → Hp → Prop} (hb : Base rel2) (hR : Rel c σ H ρ o P) (h : Post c W rel2 σ H o P (bnd (f ρ) k) Q)
    (hk : ∀ r ρ1 v H1 o1 P1, Rel c σ H1 ρ1 o1 P1 → Grow H P P1 → Step H o H1 o1 → rel1 c σ H1 o1 P P1 r v → Post c W rel2 σ H1 o1 P1 (k r ρ1) Q → K v H1) : tG c W rel1 f σ H K := by
  refine ⟨ρ, o, P, hR, ?_⟩
  cases e : f ρ with
  | none => rw [e] at h; exact h
  | some p =>
    obtain ⟨q, ρ1⟩ := p
    rw [e] at h
    cases q with
    | val r => exact fun v H1 o1 P1 R1 G1 S1 M1 => hk r ρ1 v H1 o1 P1 R1 G1 S1 M1 (Post.later (res := k r ρ1) hb h S1 G1)
    | exc x => exact h

/-- the same, the wish kept as it was at the start -/
theorem seq2 {rel1 : RR α β} {rel2 : RR γ δ} {f : Sem α} {k : α → Env → Option (Out γ × Env)} {Q : δ → Hp → Prop} {K : β → Hp → Prop} (hR : Rel c σ H1 ρ o1 P1) (g0 : Grow H P P1) (s0 : Step H o H1 o1) (h : Post c W rel2 σ H o P (bnd (f ρ) k) Q)
    (hk : ∀ r ρ2 v H2 o2 P2, Rel c σ H2 ρ2 o2 P2 → Grow H1 P1 P2 → Step H1 o1 H2 o2 → rel1 c σ H2 o2 P1 P2 r v → Post c W rel2 σ H o P (k r ρ2) Q → K v H2) : tG c W rel1 f σ H1 K := by
  refine ⟨ρ, o1, P1, hR, ?_⟩
  cases e : f ρ with
  | none => rw [e] at h; exact h
  | some p =>
    obtain ⟨q, ρ1⟩ := p
    rw [e] at h
    cases q with
    | val r => exact fun v H2 o2 P2 R2 G2 S2 M2 => hk r ρ1 v H2 o2 P2 R2 G2 S2 M2 h
    | exc x =>
      intro cl dd H' o' R' s' q
      exact h cl dd H' o' (R'.shrink g0.sub) (s0.trans s') (q.mono (hide_mono fun a u e n => ⟨e, fun z => n (z.elim (fun z => .inl (g0.sub a z)) .inr)⟩))

/-! ### 4. what an operation gives -/
def RepRes (c : Cc) (H G : Hp) (r : R) (v : V) (H' : Hp) : Prop :=
  match r with
  | .fz d => (H' = H ∧ Rep c G d v) ∨ ∃ p xs, v = .ref p ∧ H p = none ∧ H' = upd H p (.tup xs) ∧ CellOf c G d (.tup xs)
  | .fr d => ∃ p u, v = .ref p ∧ H p = none ∧ H' = upd H p u ∧ CellOf c G d u ∧ (∀ xs, u ≠ .tup xs)
  | .sl _ => False
theorem le_new (e : H a = none) : Le H (upd H a u) := fun b w h => by
  rw [upd_ne (ne_of_none h e)]
  exact h
theorem cell_own {G : Hp} (e : H a = some u) (h : CellOf c G d u) (hn : ∀ xs, u ≠ .tup xs) : Own c H G d a (fun x => x = a) := by
  cases d with
  | dic t ks vs => exact ⟨⟨_, e, h⟩, fun _ => Iff.rfl⟩
  | lst xs => exact ⟨⟨_, e, h⟩, fun _ => Iff.rfl⟩
  | obj k xs => exact ⟨⟨_, e, h⟩, fun _ => Iff.rfl⟩
  | tup xs =>
    cases u <;> first | exact h.elim | skip
    exact (hn _ rfl).elim
  | _ => exact h.elim
theorem Rel.protect (h : Rel c σ H ρ o P) {S : Addr → Prop} (hn : ∀ a, S a → ∃ u, H a = some u ∧ ∀ xs, u ≠ .tup xs) (hd : ∀ i a, o i a → ¬ S a) (hf : Le (hide H (All o P)) (hide H (All o fun x => P x ∨ S x))) : Rel c σ H ρ o (fun x => P x ∨ S x) :=
  ⟨h.len, fun i => slotOk_mono hf (h.slot i), h.disj, fun i a q z => z.elim (h.dP i a q) (hd i a q), fun a z => z.elim (h.prot a) (hn a)⟩
/-- a new thing: laid, protected -/
theorem Rel.lay (h : Rel c σ H ρ o P) (e : H a = none) (hn : ∀ xs, u ≠ .tup xs) : Rel c σ (upd H a u) ρ o (fun x => P x ∨ x = a) ∧ Le (hide H (All o P)) (hide (upd H a u) (All o fun x => P x ∨ x = a)) ∧ Grow H P (fun x => P x ∨ x = a) ∧ Step H o (upd H a u) o := by
  have le : Le (hide H (All o P)) (hide (upd H a u) (All o fun x => P x ∨ x = a)) := hide_mono fun b w q n => by
    have hb : b ≠ a := ne_of_none q e
    refine ⟨by rw [upd_ne hb]; exact q, fun z => ?_⟩
    rcases z with (z | z) | z
    · exact n (.inl z)
    · exact hb z
    · exact n (.inr z)
  have h1 := h.grow (le_new (u := u) e)
  refine ⟨⟨h1.len, fun i => ?_, h1.disj, fun i b q z => ?_, fun b z => ?_⟩, le, ⟨fun _ z => .inl z, fun b z => z.elim .inl fun z => .inr (by rw [z]; exact e)⟩, Step.le (le_new e)⟩
  · have q := h.slot i
    unfold SlotOk at q ⊢
    split
    · rename_i es
      rw [es] at q
      obtain ⟨q1, v, q2, q3⟩ := q
      exact ⟨q1, v, q2, Rep.mono le _ _ q3⟩
    · rename_i es
      rw [es] at q
      obtain ⟨b, q1, q2⟩ := q
      exact ⟨b, q1, q2.keep (fun x w _ => le_new e x w) le⟩
    · rename_i n1 n2
      split at q
      · rename_i es; exact (n1 _ es).elim
      · rename_i es; exact (n2 _ es).elim
      · exact q
  · rcases z with z | z
    · exact h.dP i b q z
    · obtain ⟨w, q1, _⟩ := h.own_prot q
      rw [z, e] at q1; cases q1
  · rcases z with z | z
    · exact h1.prot b z
    · exact ⟨u, by rw [z]; exact upd_same, hn⟩
/-- an operation's result is handed on -/
theorem Post.res {Q : V → Hp → Prop} (hP : Post c W RepR σ H o P (some (.val r, ρ)) Q) (hR : Rel c σ H ρ o P) (h : RepRes c H (hide H (All o P)) r v H') : Q v H' := by
  cases r with
  | fz d =>
    rcases h with ⟨rfl, h⟩ | ⟨p, xs, rfl, e, rfl, h⟩
    · exact hP v H' o P hR Grow.refl Step.refl h
    · have k := le_new (u := .tup xs) e
      have le : Le (hide H (All o P)) (hide (upd H p (.tup xs)) (All o P)) := hide_mono fun b w q n => ⟨k b w q, n⟩
      refine hP _ _ o P (hR.grow k) Grow.refl (Step.le k) ?_
      show Rep c (hide (upd H p (.tup xs)) (All o P)) d (.ref p)
      have h' := h.mono le
      refine rdV_self.mpr ?_
      have hp : (hide (upd H p (.tup xs)) (All o P)) p = some (.tup xs) := hide_some.mpr ⟨upd_same, hR.new e⟩
      cases d with
      | tup ds => exact ⟨p, _, rfl, hp, h'⟩
      | dic t ks vs => cases t <;> exact h.elim
      | _ => exact h.elim
  | fr d =>
    obtain ⟨p, u, rfl, e, rfl, h, hn⟩ := h
    obtain ⟨R2, le, gr, st⟩ := hR.lay (u := u) e hn
    refine hP _ _ o _ R2 gr st ⟨p, fun x => x = p, rfl, cell_own upd_same (h.mono le) hn, fun x hx => ⟨.inr hx, fun q => ?_⟩⟩
    obtain ⟨w, q1, _⟩ := hR.prot x q
    rw [hx, e] at q1; cases q1
  | sl i => exact h.elim
end
end Ly
set_option Elab.async false
set_option linter.all false
set_option maxRecDepth 100000
set_option maxHeartbeats 1000000
namespace Ly
open PySem L2

/-! ### 5. expressions -/
structure Okc (c : Cc) (X : Cx) : Prop where
  hK : c.K = X.K
  hu : X.A.units + 150 < cLine
  calm : X.calm = true
  hN : X.N.Nodup

abbrev tE (c : Cc) (W : WXX) (f : Sem R) : TE := tG c W RepR f
abbrev tT (c : Cc) (W : WXX) (f : Sem Bool) : TT := tG c W RepB f
abbrev tA (c : Cc) (W : WXX) (f : Sem (List R)) : TA := tG c W RepL f

theorem pe_of {X : Cx} {e : Expr} {t t' : TE} (h : PE X e t) (k : ∀ σ H Q, t' σ H Q → t σ H Q) : PE X e t' := ⟨fun pins s σ H Q I q => h.run pins s σ H Q I (k σ H Q q)⟩
theorem pt_of {X : Cx} {e : Expr} {t t' : TT} (h : PT X e t) (k : ∀ σ H Q, t' σ H Q → t σ H Q) : PT X e t' := ⟨fun pins s σ H Q I q => h.run pins s σ H Q I (k σ H Q q)⟩
theorem pw_of {X : Cx} {e : Expr} {t t' : TT} (h : PW X e t) (k : ∀ σ H Q, t' σ H Q → t σ H Q) : PW X e t' := ⟨fun wh pins s σ H Q I q => h.run wh pins s σ H Q I (k σ H Q q)⟩
theorem pa_of {X : Cx} {es : List Expr} {t t' : TA} (h : PA X es t) (k : ∀ σ H Q, t' σ H Q → t σ H Q) : PA X es t' := ⟨fun pos pins s σ H Q I q => h.run pos pins s σ H Q I (k σ H Q q)⟩

def varS (i : Nat) : Sem R := fun ρ => match ρ[i]? with
  | some (.fz _) => some (.val (.sl i), ρ)
  | some (.ow _) => some (.val (.sl i), ρ)
  | _ => none
def conS (d : D) : Sem R := fun ρ => some (.val (.fz d), ρ)
def op1 (g : D → Option R) (ρ : Env) (r1 : R) : Option (Out R × Env) := (val ρ r1).bind fun a => (g a).map fun r => (.val r, ρ)
def op2 (g : D → D → Option R) (ρ : Env) (r1 r2 : R) : Option (Out R × Env) := (val ρ r1).bind fun a => (val ρ r2).bind fun b => (g a b).map fun r => (.val r, ρ)
def unS (g : D → Option R) (f : Sem R) : Sem R := fun ρ => bnd (f ρ) fun r ρ1 => op1 g ρ1 r
def binS (g : D → D → Option R) (f1 f2 : Sem R) : Sem R := fun ρ => bnd (f1 ρ) fun r1 ρ1 => bnd (f2 ρ1) fun r2 ρ2 => op2 g ρ2 r1 r2
def cop2 (g : D → D → Option Bool) (ρ : Env) (r1 r2 : R) : Option (Out Bool × Env) := (val ρ r1).bind fun a => (val ρ r2).bind fun b => (g a b).map fun r => (.val r, ρ)
def cmpT (g : D → D → Option Bool) (f1 f2 : Sem R) : Sem Bool := fun ρ => bnd (f1 ρ) fun r1 ρ1 => bnd (f2 ρ1) fun r2 ρ2 => cop2 g ρ2 r1 r2
def boolR (g : D → D → Option Bool) (a b : D) : Option R := (g a b).map fun k => .fz (.bl k)
def andT (f g : Sem Bool) : Sem Bool := fun ρ => bnd (f ρ) fun b ρ1 => if b then g ρ1 else some (.val false, ρ1)
def orT (f g : Sem Bool) : Sem Bool := fun ρ => bnd (f ρ) fun b ρ1 => if b then some (.val true, ρ1) else g ρ1
def notT (f : Sem Bool) : Sem Bool := fun ρ => bnd (f ρ) fun b ρ1 => some (.val (!b), ρ1)
/-- a value of type bool, as a test -/
def truB : D → Option Bool
  | .bl b => some b
  | _ => none
/-- the truth of a value -/
def truD : D → Option Bool
  | .non => some false
  | .bl b => some b
  | .int i => some (i != 0)
  | .str s => if s.length ≤ 1000000 then some (!s.isEmpty) else none
  | .lst xs => some (!xs.isEmpty)
  | .tup xs => some (!xs.isEmpty)
  | _ => none
def cop1 (g : D → Option Bool) (ρ : Env) (r1 : R) : Option (Out Bool × Env) := (val ρ r1).bind fun a => (g a).map fun r => (.val r, ρ)
def tstT (g : D → Option Bool) (f : Sem R) : Sem Bool := fun ρ => bnd (f ρ) fun r ρ1 => cop1 g ρ1 r
/-- a test's answer as a value -/
def andV (f g : Sem R) : Sem R := fun ρ => bnd (f ρ) fun r ρ1 => (val ρ1 r).bind fun d => match d with
  | .bl true => g ρ1
  | .bl false => some (.val (.fz (.bl false)), ρ1)
  | _ => none
def orV (f g : Sem R) : Sem R := fun ρ => bnd (f ρ) fun r ρ1 => (val ρ1 r).bind fun d => match d with
  | .bl false => g ρ1
  | .bl true => some (.val (.fz (.bl true)), ρ1)
  | _ => none
def notV (f : Sem R) : Sem R := fun ρ => bnd (f ρ) fun r ρ1 => (val ρ1 r).bind fun d => match d with
  | .bl b => some (.val (.fz (.bl (!b))), ρ1)
  | _ => none
def ifV (t : Sem Bool) (f g : Sem R) : Sem R := fun ρ => bnd (t ρ) fun b ρ1 => if b then f ρ1 else g ρ1
def nilA : Sem (List R) := fun ρ => some (.val [], ρ)
def consA (f : Sem R) (g : Sem (List R)) : Sem (List R) := fun ρ => bnd (f ρ) fun r ρ1 => bnd (g ρ1) fun rs ρ2 => some (.val (r :: rs), ρ2)

section
variable {c : Cc} {W : WXX} {X : Cx} {σ : St} {H H1 H' G : Hp} {ρ ρ' : Env} {o o1 o' : Ownr} {P P1 P2 P' : Prot} {d d1 d2 : D} {v v1 v2 : V} {r : R} {a : Addr} {e ea eb : Expr} {es : List Expr} {pos : Pos} {f f1 f2 : Sem R} {g : Sem (List R)} {t t1 t2 : Sem Bool}

theorem Post.b {b : Bool} {Q : Bool → Hp → Prop} (hP : Post c W RepB σ H o P (some (.val b, ρ)) Q) (hR : Rel c σ H ρ o P) : Q b H := hP b H o P hR Grow.refl Step.refl rfl

theorem pd_var {i : Nat} {x : Str} (hN : X.N[i]? = some x) (hv : Vis X.env.scope x) (hd : (x == ("__debug__" : Str)) = false := by decide +kernel) (hcd : (x == ("__classdict__" : Str)) = false := by decide +kernel) : PE X (.Name x pos) (tE c W (varS i)) := by
  refine pe_of (pe_var (i := i) hN hv hd hcd) ?_
  rintro σ H Q ⟨ρ, o, P, hR, hP⟩
  have q := hR.slot i
  unfold varS at hP
  unfold SlotOk at q
  cases hs : ρ[i]? with
  | none => rw [hs] at hP; exact hP.elim
  | some s =>
    rw [hs] at hP q
    cases s with
    | no => exact hP.elim
    | fz d =>
      obtain ⟨_, v, h1, _⟩ := q
      exact ⟨v, h1, hP v H o P hR Grow.refl Step.refl h1⟩
    | ow d =>
      obtain ⟨a, h1, _⟩ := q
      exact ⟨_, h1, hP _ H o P hR Grow.refl Step.refl h1⟩
/-- a value that stands by itself -/
def AtomV : D → V → Prop
  | .non, v => v = .non
  | .bl b, v => v = .bl b
  | .int i, v => v = .int i
  | .str s, v => v = .str ⟨s.toArray⟩
  | _, _ => False
theorem AtomV.rep (h : AtomV d v) : Rep c G d v := by
  cases d <;> first | exact h.elim | skip
  all_goals
    unfold Rep
    exact h
theorem pd_con (h : PE X e (tC v)) (ha : AtomV d v) : PE X e (tE c W (conS d)) := by
  refine pe_of h ?_
  rintro σ H Q ⟨ρ, o, P, hR, hP⟩
  exact hP v H o P hR Grow.refl Step.refl ha.rep
theorem pd_int {i : Int} {j} : PE X (.Constant (.int i) j pos) (tE c W (conS (.int i))) := pd_con pe_int rfl
theorem pd_bl {b : Bool} {j} : PE X (.Constant (.bool b) j pos) (tE c W (conS (.bl b))) := pd_con pe_bl rfl
theorem pd_non {j} : PE X (.Constant .none j pos) (tE c W (conS .non)) := pd_con pe_non rfl
theorem pd_str {x : Str} {s : List Nat} {j} (h : x = ⟨s.toArray⟩) : PE X (.Constant (.str x) j pos) (tE c W (conS (.str s))) := pd_con pe_str (by rw [h]; rfl)

/-- G is H without what is owned: no tuple is -/
structure Und (G H : Hp) : Prop where
  le : Le G H
  tup : ∀ a xs, H a = some (.tup xs) → G a = some (.tup xs)
theorem Rel.und (h : Rel c σ H ρ o P) : Und (hide H (All o P)) H := ⟨hide_le, fun a xs e => hide_some.mpr ⟨e, fun q => by
  obtain ⟨u, h1, h2⟩ := h.all_prot q
  rw [e] at h1; cases h1
  exact h2 _ rfl⟩⟩
/-- what an operation on two values does -/
def OpD (c : Cc) (r2 : R2) (g : D → D → Option R) : Prop := ∀ (H G : Hp) (d1 d2 : D) (v1 v2 : V) (r : R) (Q : VK), Und G H → RdV c H G d1 v1 → RdV c H G d2 v2 → g d1 d2 = some r → (∀ v H', RepRes c H G r v H' → Q v H') → r2 v1 v2 H Q
def CmD (c : Cc) (r2 : R2) (g : D → D → Option Bool) : Prop := ∀ (H G : Hp) (d1 d2 : D) (v1 v2 : V) (b : Bool) (Q : VK), Und G H → RdV c H G d1 v1 → RdV c H G d2 v2 → g d1 d2 = some b → Q (.bl b) H → r2 v1 v2 H Q
def UnD (c : Cc) (r1 : V → Hp → VK → Prop) (g : D → Option R) : Prop := ∀ (H G : Hp) (d1 : D) (v1 : V) (r : R) (Q : VK), Und G H → RdV c H G d1 v1 → g d1 = some r → (∀ v H', RepRes c H G r v H' → Q v H') → r1 v1 H Q
theorem CmD.op {r2 : R2} {g : D → D → Option Bool} (h : CmD c r2 g) : OpD c r2 (boolR g) := by
  intro H G d1 d2 v1 v2 r Q hl h1 h2 hg hq
  unfold boolR at hg
  cases e : g d1 d2 with
  | none => rw [e] at hg; cases hg
  | some b =>
    rw [e] at hg; cases hg
    exact h H G d1 d2 v1 v2 b Q hl h1 h2 e (hq _ _ (.inl ⟨rfl, by unfold Rep; rfl⟩))
theorem OpD.or {r2 r2' : R2} {g g' : D → D → Option R} (h : OpD c r2 g) (h' : OpD c r2' g') : OpD c (fun x y H Q => r2 x y H Q ∨ r2' x y H Q) (fun a b => (g a b).or (g' a b)) := by
  intro H G d1 d2 v1 v2 r Q hl h1 h2 hg hq
  replace hg : (g d1 d2).or (g' d1 d2) = some r := hg
  cases e : g d1 d2 with
  | none => rw [e] at hg; exact .inr (h' H G d1 d2 v1 v2 r Q hl h1 h2 hg hq)
  | some z => rw [e] at hg; exact .inl (h H G d1 d2 v1 v2 r Q hl h1 h2 (e.trans hg) hq)
theorem CmD.or {r2 r2' : R2} {g g' : D → D → Option Bool} (h : CmD c r2 g) (h' : CmD c r2' g') : CmD c (fun x y H Q => r2 x y H Q ∨ r2' x y H Q) (fun a b => (g a b).or (g' a b)) := by
  intro H G d1 d2 v1 v2 r Q hl h1 h2 hg hq
  replace hg : (g d1 d2).or (g' d1 d2) = some r := hg
  cases e : g d1 d2 with
  | none => rw [e] at hg; exact .inr (h' H G d1 d2 v1 v2 r Q hl h1 h2 hg hq)
  | some z => rw [e] at hg; exact .inl (h H G d1 d2 v1 v2 r Q hl h1 h2 (e.trans hg) hq)

theorem bin_core {r2 : R2} {g : D → D → Option R} (hg : OpD c r2 g) (Q : VK) (h : tE c W (binS g f1 f2) σ H Q) : tOp r2 (tE c W f1) (tE c W f2) σ H Q := by
  obtain ⟨ρ, o, P, hR, hP⟩ := h
  refine seq1 base_R hR hP fun r1 ρ1 v1 H1 o1 P1 R1 G1 S1 M1 hP1 => ?_
  refine seq1 base_R R1 hP1 fun r2 ρ2 v2 H2 o2 P2 R2 G2 S2 M2 hP2 => ?_
  have M1' := M1.step R1 S2 G2
  unfold op2 at hP2
  cases e1 : val ρ2 r1 with
  | none => rw [e1] at hP2; exact hP2.elim
  | some d1 =>
    cases e2 : val ρ2 r2 with
    | none => rw [e1, e2] at hP2; exact hP2.elim
    | some d2 =>
      rw [e1, e2] at hP2
      cases e3 : g d1 d2 with
      | none => simp only [Option.bind_some, e3, Option.map_none] at hP2; exact hP2.elim
      | some r =>
        simp only [Option.bind_some, e3, Option.map_some] at hP2
        exact hg H2 _ d1 d2 v1 v2 r Q R2.und (M1'.read R2 e1) (M2.read R2 e2) e3 fun v H' hr => hP2.res R2 hr
theorem cmp_core {r2 : R2} {g : D → D → Option Bool} (hg : CmD c r2 g) (Q : Bool → Hp → Prop) (h : tT c W (cmpT g f1 f2) σ H Q) : tTest (tOp r2 (tE c W f1) (tE c W f2)) σ H Q := by
  obtain ⟨ρ, o, P, hR, hP⟩ := h
  refine seq1 base_B hR hP fun r1 ρ1 v1 H1 o1 P1 R1 G1 S1 M1 hP1 => ?_
  refine seq1 base_B R1 hP1 fun r2 ρ2 v2 H2 o2 P2 R2 G2 S2 M2 hP2 => ?_
  have M1' := M1.step R1 S2 G2
  unfold cop2 at hP2
  cases e1 : val ρ2 r1 with
  | none => rw [e1] at hP2; exact hP2.elim
  | some d1 =>
    cases e2 : val ρ2 r2 with
    | none => rw [e1, e2] at hP2; exact hP2.elim
    | some d2 =>
      rw [e1, e2] at hP2
      cases e3 : g d1 d2 with
      | none => simp only [Option.bind_some, e3, Option.map_none] at hP2; exact hP2.elim
      | some r =>
        simp only [Option.bind_some, e3, Option.map_some] at hP2
        exact hg H2 _ d1 d2 v1 v2 r _ R2.und (M1'.read R2 e1) (M2.read R2 e2) e3 ⟨r, rfl, hP2.b R2⟩
theorem un_core {r1 : V → Hp → VK → Prop} {g : D → Option R} (hg : UnD c r1 g) (Q : VK) (h : tE c W (unS g f) σ H Q) : tUn r1 (tE c W f) σ H Q := by
  obtain ⟨ρ, o, P, hR, hP⟩ := h
  refine seq1 base_R hR hP fun r1 ρ1 v1 H1 o1 P1 R1 G1 S1 M1 hP1 => ?_
  unfold op1 at hP1
  cases e1 : val ρ1 r1 with
  | none => rw [e1] at hP1; exact hP1.elim
  | some d1 =>
    rw [e1] at hP1
    cases e3 : g d1 with
    | none => simp only [Option.bind_some, e3, Option.map_none] at hP1; exact hP1.elim
    | some r =>
      simp only [Option.bind_some, e3, Option.map_some] at hP1
      exact hg H1 _ d1 v1 r Q R1.und (M1.read R1 e1) e3 fun v H' hr => hP1.res R1 hr

theorem pd_bin {op : Operator} {r2 : R2} {g : D → D → Option R} (ho : OpR X (binaryOp op) r2) (hg : OpD c r2 g) (ha : PE X ea (tE c W f1)) (hb : PE X eb (tE c W f2)) : PE X (.BinOp ea op eb pos) (tE c W (binS g f1 f2)) :=
  pe_of (pe_op ho ha hb) fun σ H Q h => bin_core hg Q h
theorem pd_cmp {op : CmpOp} {r2 : R2} {g : D → D → Option Bool} (ho : OpR X (compareOp op) r2) (hg : CmD c r2 g) (ha : PE X ea (tE c W f1)) (hb : PE X eb (tE c W f2)) (hm : behindInMarks op eb = false := by first | exact nomark _ | rfl) : PE X (.Compare ea [op] [eb] pos) (tE c W (binS (boolR g) f1 f2)) :=
  pe_of (pe_cmpR ho ha hb hm) fun σ H Q h => bin_core hg.op Q h
theorem td_cmp {op : CmpOp} {r2 : R2} {g : D → D → Option Bool} (ho : OpR X (compareOp op) r2) (hg : CmD c r2 g) (ha : PE X ea (tE c W f1)) (hb : PE X eb (tE c W f2)) (hm : behindInMarks op eb = false := by first | exact nomark _ | rfl) : PT X (.Compare ea [op] [eb] pos) (tT c W (cmpT g f1 f2)) :=
  pt_of (pt_cmpR ho ha hb hm) fun σ H Q h => cmp_core hg Q h
theorem pd_un {op : UnaryOp} {r1 : V → Hp → VK → Prop} {g : D → Option R} (ho : UnR X (unaryOp op) r1) (hg : UnD c r1 g) (ha : PE X ea (tE c W f)) : PE X (.UnaryOp op ea pos) (tE c W (unS g f)) :=
  pe_of (pe_un ho ha) fun σ H Q h => un_core hg Q h

/-! tests -/
theorem td_and1 (ha : PT X e (tT c W t)) : PW X (.BoolOp .And [e] pos) (tT c W t) := pw_and1 ha
theorem td_or1 (ha : PT X e (tT c W t)) : PW X (.BoolOp .Or [e] pos) (tT c W t) := pw_or1 ha
theorem td_and (ha : PT X ea (tT c W t1)) (hb : PW X (.BoolOp .And (eb :: es) pos) (tT c W t2)) : PW X (.BoolOp .And (ea :: eb :: es) pos) (tT c W (andT t1 t2)) := by
  refine pw_of (pw_and ha hb) ?_
  rintro σ H Q ⟨ρ, o, P, hR, hP⟩
  refine seq1 base_B hR hP fun r1 ρ1 v1 H1 o1 P1 R1 G1 S1 M1 hP1 => ?_
  have e : r1 = v1 := M1
  subst e
  cases r1 with
  | true => exact ⟨ρ1, o1, P1, R1, hP1⟩
  | false => exact hP1.b R1
theorem td_or (ha : PT X ea (tT c W t1)) (hb : PW X (.BoolOp .Or (eb :: es) pos) (tT c W t2)) : PW X (.BoolOp .Or (ea :: eb :: es) pos) (tT c W (orT t1 t2)) := by
  refine pw_of (pw_or ha hb) ?_
  rintro σ H Q ⟨ρ, o, P, hR, hP⟩
  refine seq1 base_B hR hP fun r1 ρ1 v1 H1 o1 P1 R1 G1 S1 M1 hP1 => ?_
  have e : r1 = v1 := M1
  subst e
  cases r1 with
  | false => exact ⟨ρ1, o1, P1, R1, hP1⟩
  | true => exact hP1.b R1
theorem td_not (ha : PT X e (tT c W t)) : PT X (.UnaryOp .Not e pos) (tT c W (notT t)) := by
  refine pt_of (pt_not ha) ?_
  rintro σ H Q ⟨ρ, o, P, hR, hP⟩
  refine seq1 base_B hR hP fun r1 ρ1 v1 H1 o1 P1 R1 G1 S1 M1 hP1 => ?_
  have e : r1 = v1 := M1
  subst e
  exact hP1.b R1
theorem td_val (ha : PE X e (tE c W f)) (he : ∀ whole, isTrue e X.env whole = (do let v ← whole; standAt e.pos; holding [v] (truthy v)) := by intro _; rfl) : PT X e (tT c W (tstT truB f)) := by
  refine pt_of (pt_val ha he) ?_
  rintro σ H Q ⟨ρ, o, P, hR, hP⟩
  refine seq1 base_B hR hP fun r1 ρ1 v1 H1 o1 P1 R1 G1 S1 M1 hP1 => ?_
  unfold cop1 at hP1
  cases e1 : val ρ1 r1 with
  | none => rw [e1] at hP1; exact hP1.elim
  | some d1 =>
    rw [e1] at hP1
    have q := M1.read R1 e1
    cases d1 <;> first | exact hP1.elim | skip
    exact ⟨_, q, hP1.b R1⟩
theorem truV_of {b : Bool} (hl : Le G H) (h : RdV c H G d v) (e : truD d = some b) : TruV c.K v H b := by
  cases d with
  | non => cases e; cases (show v = .non from h); rfl
  | bl k => cases e; cases (show v = .bl _ from h); rfl
  | int i => cases e; cases (show v = .int _ from h); rfl
  | str s =>
    have e : (if s.length ≤ 1000000 then some (!s.isEmpty) else none) = some b := e
    by_cases hs : s.length ≤ 1000000
    · rw [if_pos hs] at e
      cases e
      cases (show v = .str _ from h)
      refine ⟨Nat.le_trans (show s.toArray.size ≤ 1000000 by simpa using hs) (by decide), ?_⟩
      show (!s.isEmpty) = ((s.toArray.size : Int) != 0)
      cases s with
      | nil => rfl
      | cons a s => simp; omega
    · rw [if_neg hs] at e; cases e
  | lst xs =>
    cases e
    obtain ⟨a, u, rfl, h1, h2⟩ := h
    cases u <;> first | exact h2.elim | skip
    rename_i ys
    refine .inl ⟨ys, .inl (.inl h1), ?_⟩
    have := Reps.len (show Reps c G xs ys from h2)
    cases xs <;> cases ys <;> simp at this ⊢
  | tup xs =>
    cases e
    obtain ⟨a, u, rfl, h1, h2⟩ := h
    cases u <;> first | exact h2.elim | skip
    rename_i ys
    refine .inr (.inl ⟨ys, .inl (.inl h1), ?_⟩)
    have := Reps.len (show Reps c G xs ys from h2)
    cases xs <;> cases ys <;> simp at this ⊢
  | dic t ks vs => cases e
  | obj k xs => cases e
  | pool a b cs => cases e
  | scr ns => cases e
  | dls a b cs => cases e
theorem td_tru (k : Okc c X) (ha : PE X e (tE c W f)) (he : ∀ whole, isTrue e X.env whole = (do let v ← whole; standAt e.pos; holding [v] (truthy v)) := by intro _; rfl) : PT X e (tT c W (tstT truD f)) := by
  refine pt_of (pt_truth ha he) ?_
  rintro σ H Q ⟨ρ, o, P, hR, hP⟩
  refine seq1 base_B hR hP fun r1 ρ1 v1 H1 o1 P1 R1 G1 S1 M1 hP1 => ?_
  unfold cop1 at hP1
  cases e1 : val ρ1 r1 with
  | none => rw [e1] at hP1; exact hP1.elim
  | some d1 =>
    rw [e1] at hP1
    have q := M1.read R1 e1
    cases e2 : truD d1 with
    | none => simp only [Option.bind_some, e2, Option.map_none] at hP1; exact hP1.elim
    | some b =>
      simp only [Option.bind_some, e2, Option.map_some] at hP1
      exact ⟨b, by rw [← k.hK]; exact truV_of hide_le q e2, hP1.b R1⟩

/-! and, or, not, if as values -/
theorem pd_one {op} (h : PE X e (tE c W f)) : PE X (.BoolOp op [e] pos) (tE c W f) := pe_one h
theorem pd_and (ha : PE X ea (tE c W f1)) (hb : PE X (.BoolOp .And (eb :: es) pos) (tE c W f2)) : PE X (.BoolOp .And (ea :: eb :: es) pos) (tE c W (andV f1 f2)) := by
  refine pe_of (pe_and ha hb) ?_
  rintro σ H Q ⟨ρ, o, P, hR, hP⟩
  refine seq1 base_R hR hP fun r1 ρ1 v1 H1 o1 P1 R1 G1 S1 M1 hP1 => ?_
  cases e1 : val ρ1 r1 with
  | none => rw [e1] at hP1; exact hP1.elim
  | some d1 =>
    rw [e1] at hP1
    have q := M1.read R1 e1
    cases d1 <;> first | exact hP1.elim | skip
    rename_i b
    refine ⟨b, q, ?_⟩
    cases b with
    | true => exact ⟨ρ1, o1, P1, R1, hP1⟩
    | false => exact hP1.res R1 (.inl ⟨rfl, by unfold Rep; rfl⟩)
theorem pd_or (ha : PE X ea (tE c W f1)) (hb : PE X (.BoolOp .Or (eb :: es) pos) (tE c W f2)) : PE X (.BoolOp .Or (ea :: eb :: es) pos) (tE c W (orV f1 f2)) := by
  refine pe_of (pe_or ha hb) ?_
  rintro σ H Q ⟨ρ, o, P, hR, hP⟩
  refine seq1 base_R hR hP fun r1 ρ1 v1 H1 o1 P1 R1 G1 S1 M1 hP1 => ?_
  cases e1 : val ρ1 r1 with
  | none => rw [e1] at hP1; exact hP1.elim
  | some d1 =>
    rw [e1] at hP1
    have q := M1.read R1 e1
    cases d1 <;> first | exact hP1.elim | skip
    rename_i b
    refine ⟨b, q, ?_⟩
    cases b with
    | false => exact ⟨ρ1, o1, P1, R1, hP1⟩
    | true => exact hP1.res R1 (.inl ⟨rfl, by unfold Rep; rfl⟩)
theorem pd_not (ha : PE X e (tE c W f)) : PE X (.UnaryOp .Not e pos) (tE c W (notV f)) := by
  refine pe_of (pe_not ha) ?_
  rintro σ H Q ⟨ρ, o, P, hR, hP⟩
  refine seq1 base_R hR hP fun r1 ρ1 v1 H1 o1 P1 R1 G1 S1 M1 hP1 => ?_
  cases e1 : val ρ1 r1 with
  | none => rw [e1] at hP1; exact hP1.elim
  | some d1 =>
    rw [e1] at hP1
    have q := M1.read R1 e1
    cases d1 <;> first | exact hP1.elim | skip
    rename_i b
    exact ⟨b, q, hP1.res R1 (.inl ⟨rfl, by unfold Rep; rfl⟩)⟩
theorem pd_if {ec : Expr} (hc : PT X ec (tT c W t)) (ha : PE X ea (tE c W f1)) (hb : PE X eb (tE c W f2)) : PE X (.IfExp ec ea eb pos) (tE c W (ifV t f1 f2)) := by
  refine pe_of (pe_ifExp hc ha hb) ?_
  rintro σ H Q ⟨ρ, o, P, hR, hP⟩
  refine seq1 base_R hR hP fun r1 ρ1 v1 H1 o1 P1 R1 G1 S1 M1 hP1 => ?_
  have e : r1 = v1 := M1
  subst e
  cases r1 with
  | true => exact ⟨ρ1, o1, P1, R1, hP1⟩
  | false => exact ⟨ρ1, o1, P1, R1, hP1⟩

/-! argument lists -/
theorem ad_nil : PA X [] (tA c W nilA) := pa_of pa_nil (by
  rintro σ H Q ⟨ρ, o, P, hR, hP⟩
  exact hP [] H o P hR Grow.refl Step.refl .nil)
theorem ad_cons (ha : PE X e (tE c W f)) (hr : PA X es (tA c W g)) (hs : starEach (e :: es) X.env = (false, eval e X.env) :: starEach es X.env := by rfl) : PA X (e :: es) (tA c W (consA f g)) := by
  refine pa_of (pa_cons ha hr hs) ?_
  rintro σ H Q ⟨ρ, o, P, hR, hP⟩
  refine seq2 hR Grow.refl Step.refl hP fun r1 ρ1 v1 H1 o1 P1 R1 G1 S1 M1 hP1 => ?_
  refine seq2 R1 G1 S1 hP1 fun r2 ρ2 v2 H2 o2 P2 R2 G2 S2 M2 hP2 => ?_
  exact hP2 _ _ _ _ R2 (G1.trans S1 G2) (S1.trans S2) (.cons (M1.step R1 S2 G2) (base_L _ _ _ _ _ _ _ _ _ G1.sub M2))
end
end Ly
set_option Elab.async false
set_option linter.all false
set_option maxRecDepth 100000
set_option maxHeartbeats 1000000
namespace Ly
open PySem L2

/-! ### 6. data as the library's data -/
mutual
def toPy : D → Option PyData
  | .non => some .none
  | .bl b => some (.bool b)
  | .int i => some (.int i)
  | .str s => some (.str ⟨s.toArray⟩)
  | .tup xs => (toPys xs).map .tuple
  | .lst xs => (toPys xs).map .list
  | _ => none
def toPys : List D → Option (List PyData)
  | [] => some []
  | d :: ds => (toPy d).bind fun p => (toPys ds).map fun ps => p :: ps
end
mutual
theorem Rep.dp {c : Cc} {G : Hp} : ∀ (d : D) (v : V) (p : PyData), Rep c G d v → toPy d = some p → Dp c.K G v p
  | .non, v, p, h, e => by
    unfold toPy at e
    cases e
    unfold Rep at h
    subst h
    exact .non
  | .bl b, v, p, h, e => by
    unfold toPy at e
    cases e
    unfold Rep at h
    subst h
    exact .bl b
  | .int i, v, p, h, e => by
    unfold toPy at e
    cases e
    unfold Rep at h
    subst h
    exact .int i
  | .str s, v, p, h, e => by
    unfold toPy at e
    cases e
    unfold Rep at h
    subst h
    exact .str _
  | .tup xs, v, p, h, e => by
    unfold toPy at e
    obtain ⟨ps, e1, rfl⟩ := Option.map_eq_some_iff.mp e
    unfold Rep at h
    obtain ⟨a, ys, rfl, h1, h2⟩ := h
    exact .tup (.inl (.inl h1)) (Reps.dp xs ys ps h2 e1)
  | .lst xs, v, p, h, e => by
    unfold toPy at e
    obtain ⟨ps, e1, rfl⟩ := Option.map_eq_some_iff.mp e
    unfold Rep at h
    obtain ⟨a, ys, rfl, h1, h2⟩ := h
    exact .lst (.inl (.inl h1)) (Reps.dp xs ys ps h2 e1)
  | .dic _ _ _, _, _, _, e => by unfold toPy at e; cases e
  | .obj _ _, _, _, _, e => by unfold toPy at e; cases e
  | .pool _ _ _, _, _, _, e => by unfold toPy at e; cases e
  | .scr _, _, _, _, e => by unfold toPy at e; cases e
  | .dls _ _ _, _, _, _, e => by unfold toPy at e; cases e
theorem Reps.dp {c : Cc} {G : Hp} : ∀ (ds : List D) (vs : List V) (ps : List PyData), Reps c G ds vs → toPys ds = some ps → DpAll c.K G vs ps
  | [], vs, ps, h, e => by
    unfold toPys at e
    cases e
    unfold Reps at h
    subst h
    exact .nil
  | d :: ds, vs, ps, h, e => by
    unfold toPys at e
    obtain ⟨v, r, rfl, h1, h2⟩ := h.cons_inv
    cases e1 : toPy d with
    | none => rw [e1] at e; cases e
    | some p =>
      rw [e1] at e
      obtain ⟨qs, e2, rfl⟩ := Option.map_eq_some_iff.mp (show (toPys ds).map (fun ps => p :: ps) = some ps from e)
      exact .cons (Rep.dp d v p h1 e1) (Reps.dp ds r qs h2 e2)
end
section
variable {c : Cc} {W : WXX} {X : Cx} {H G : Hp} {d : D} {v : V}
theorem RdV.rep (h : RdV c H G d v) (hl : Le G H) : Rep c H d v := rdV_self.mpr (h.mono (Le.refl _) hl)
theorem RdV.dp {p : PyData} (h : RdV c H G d v) (hl : Le G H) (e : toPy d = some p) : Dp c.K H v p := (h.rep hl).dp d v p e
end

/-! ### 7. operations -/
section
variable {c : Cc} {W : WXX} {X : Cx} {H G : Hp} {d d1 d2 : D} {v v1 v2 : V}

theorem res_atom {Q : VK} (ha : AtomV d v) (hq : ∀ v H', RepRes c H G (.fz d) v H' → Q v H') : Q v H := hq _ _ (.inl ⟨rfl, ha.rep⟩)
theorem res_lst {Q : VK} {ds : List D} {xs : List V} (h : Reps c G ds xs) (hq : ∀ v H', RepRes c H G (.fr (.lst ds)) v H' → Q v H') : ∀ p, H p = none → Q (.ref p) (upd H p (.lst xs)) := fun p hp =>
  hq _ _ ⟨p, _, rfl, hp, rfl, h, fun _ => nofun⟩
theorem res_tup {Q : VK} {ds : List D} {xs : List V} (h : Reps c G ds xs) (hq : ∀ v H', RepRes c H G (.fz (.tup ds)) v H' → Q v H') : ∀ p, H p = none → Q (.ref p) (upd H p (.tup xs)) := fun p hp =>
  hq _ _ (.inr ⟨p, _, rfl, hp, rfl, h⟩)
theorem rd_lst {ds : List D} (h : RdV c H G (.lst ds) v) : ∃ a xs, v = .ref a ∧ H a = some (.lst xs) ∧ Reps c G ds xs := by
  obtain ⟨a, u, rfl, h1, h2⟩ := h
  cases u <;> first | exact h2.elim | skip
  exact ⟨a, _, rfl, h1, h2⟩
theorem rd_tup {ds : List D} (h : RdV c H G (.tup ds) v) : ∃ a xs, v = .ref a ∧ H a = some (.tup xs) ∧ Reps c G ds xs := by
  obtain ⟨a, u, rfl, h1, h2⟩ := h
  cases u <;> first | exact h2.elim | skip
  exact ⟨a, _, rfl, h1, h2⟩
theorem rd_dicK {ks vs : List D} (h : RdV c H G (.dic false ks vs) v) : ∃ a kvs, v = .ref a ∧ Rd H a (.dK kvs) ∧ ks = kvs.map (fun p => kD p.1) ∧ Reps c G vs (kvs.map (·.2)) := by
  obtain ⟨a, u, rfl, h1, h2⟩ := h
  cases u <;> first | exact h2.elim | skip
  exact ⟨a, _, rfl, h1, h2.1, h2.2⟩
theorem rd_dicT {ks vs : List D} (h : RdV c H G (.dic true ks vs) v) : ∃ a kvs, v = .ref a ∧ Rd H a (.dT kvs) ∧ ks = kvs.map (fun p => .tup (p.1.map kD)) ∧ Reps c G vs (kvs.map (·.2)) := by
  obtain ⟨a, u, rfl, h1, h2⟩ := h
  cases u <;> first | exact h2.elim | skip
  exact ⟨a, _, rfl, h1, h2.1, h2.2⟩
theorem m_le {n : Nat} (h : n ≤ 1000000) : n ≤ sizeLine := Nat.le_trans h (by decide)
theorem m_lt {n : Nat} (h : n < 1000000) : n < sizeLine := Nat.lt_of_lt_of_le h (by decide)
theorem str_app (s t : List Nat) : (⟨s.toArray⟩ : Str) ++ (⟨t.toArray⟩ : Str) = ⟨(s ++ t).toArray⟩ := by
  show (⟨s.toArray ++ t.toArray⟩ : Str) = _
  rw [List.append_toArray]
theorem str_len (s : List Nat) : (⟨s.toArray⟩ : Str).length = s.length := List.size_toArray

/-! arithmetic -/
def subD : D → D → Option R
  | .int i, .int j => some (.fz (.int (i - j)))
  | _, _ => none
def mulD : D → D → Option R
  | .int i, .int j => if (decide (-18446744073709551616 < i) && decide (i < 18446744073709551616)) || (decide (-18446744073709551616 < j) && decide (j < 18446744073709551616)) then some (.fz (.int (i * j))) else none
  | .lst xs, .int k => if decide (0 ≤ k) && decide (k ≤ 1000) && decide (xs.length ≤ 1000) then some (.fr (.lst (List.replicate k.toNat xs).flatten)) else none
  | _, _ => none
def fdD : D → D → Option R
  | .int i, .int j => if decide (0 < j) && decide (j < 1073741824) then some (.fz (.int (i / j))) else none
  | _, _ => none
def modD : D → D → Option R
  | .int i, .int j => if decide (0 < j) then some (.fz (.int (i % j))) else none
  | _, _ => none
def powD : D → D → Option R
  | .int i, .int j => if decide (0 ≤ j) && decide (j ≤ 1000) && decide (i.natAbs < 1000000) then some (.fz (.int (i ^ j.toNat))) else none
  | _, _ => none
def addD : D → D → Option R
  | .int i, .int j => some (.fz (.int (i + j)))
  | .str s, .str t => if decide (s.length + t.length ≤ 1000000) then some (.fz (.str (s ++ t))) else none
  | .lst xs, .lst ys => if decide (xs.length + ys.length ≤ 1000000) then some (.fr (.lst (xs ++ ys))) else none
  | .tup xs, .tup ys => if decide (xs.length + ys.length ≤ 1000000) then some (.fz (.tup (xs ++ ys))) else none
  | _, _ => none
def negD : D → Option R
  | .int i => some (.fz (.int (-i)))
  | _ => none
theorem o_sub : OpD c (rI0 fun i j => .int (i - j)) subD := by
  intro H G d1 d2 v1 v2 r Q hl h1 h2 hg hq
  cases d1 <;> cases d2 <;> first | (cases hg; done) | skip
  cases hg
  cases (show v1 = .int _ from h1)
  cases (show v2 = .int _ from h2)
  exact ⟨_, _, rfl, rfl, res_atom (d := .int _) rfl hq⟩
theorem o_fd : OpD c (rI CDiv fun i j => .int (i / j)) fdD := by
  intro H G d1 d2 v1 v2 r Q hl h1 h2 hg hq
  cases d1 <;> cases d2 <;> first | (cases hg; done) | skip
  rename_i i j
  have hg : (if decide (0 < j) && decide (j < 1073741824) then some (R.fz (.int (i / j))) else none) = some r := hg
  by_cases hb : (decide (0 < j) && decide (j < 1073741824)) = true
  · rw [if_pos hb] at hg; cases hg
    cases (show v1 = .int _ from h1)
    cases (show v2 = .int _ from h2)
    rw [Bool.and_eq_true, decide_eq_true_eq, decide_eq_true_eq] at hb
    exact ⟨_, _, rfl, rfl, hb, res_atom (d := .int _) rfl hq⟩
  · rw [if_neg hb] at hg; cases hg
theorem o_mod : OpD c (rI (fun _ j => 0 < j) fun i j => .int (i % j)) modD := by
  intro H G d1 d2 v1 v2 r Q hl h1 h2 hg hq
  cases d1 <;> cases d2 <;> first | (cases hg; done) | skip
  rename_i i j
  have hg : (if decide (0 < j) then some (R.fz (.int (i % j))) else none) = some r := hg
  by_cases hb : (decide (0 < j)) = true
  · rw [if_pos hb] at hg; cases hg
    cases (show v1 = .int _ from h1)
    cases (show v2 = .int _ from h2)
    rw [decide_eq_true_eq] at hb
    exact ⟨_, _, rfl, rfl, hb, res_atom (d := .int _) rfl hq⟩
  · rw [if_neg hb] at hg; cases hg
theorem o_pow : OpD c (rI CPow fun i j => .int (i ^ j.toNat)) powD := by
  intro H G d1 d2 v1 v2 r Q hl h1 h2 hg hq
  cases d1 <;> cases d2 <;> first | (cases hg; done) | skip
  rename_i i j
  have hg : (if decide (0 ≤ j) && decide (j ≤ 1000) && decide (i.natAbs < 1000000) then some (R.fz (.int (i ^ j.toNat))) else none) = some r := hg
  by_cases hb : (decide (0 ≤ j) && decide (j ≤ 1000) && decide (i.natAbs < 1000000)) = true
  · rw [if_pos hb] at hg; cases hg
    cases (show v1 = .int _ from h1)
    cases (show v2 = .int _ from h2)
    simp only [Bool.and_eq_true, decide_eq_true_eq] at hb
    exact ⟨_, _, rfl, rfl, ⟨hb.1.1, by omega, Nat.lt_of_lt_of_le hb.2 (by decide)⟩, res_atom (d := .int _) rfl hq⟩
  · rw [if_neg hb] at hg; cases hg
def rMulA : R2 := fun x y H Q => rI CMul (fun i j => .int (i * j)) x y H Q ∨ rRep x y H Q
theorem op_mulA : OpR X (binaryOp .Mult) rMulA := op_mul.or op_rep
theorem o_mul : OpD c rMulA mulD := by
  intro H G d1 d2 v1 v2 r Q hl h1 h2 hg hq
  cases d1 <;> cases d2 <;> first | (cases hg; done) | skip
  · rename_i i j
    refine .inl ?_
    have hg : (if ((decide (-18446744073709551616 < i) && decide (i < 18446744073709551616)) || (decide (-18446744073709551616 < j) && decide (j < 18446744073709551616))) = true then some (R.fz (.int (i * j))) else none) = some r := hg
    by_cases hb : ((decide (-18446744073709551616 < i) && decide (i < 18446744073709551616)) || (decide (-18446744073709551616 < j) && decide (j < 18446744073709551616))) = true
    · rw [if_pos hb] at hg; cases hg
      cases (show v1 = .int _ from h1)
      cases (show v2 = .int _ from h2)
      simp only [Bool.and_eq_true, Bool.or_eq_true, decide_eq_true_eq] at hb
      exact ⟨_, _, rfl, rfl, hb.imp (fun z => ⟨by omega, by omega⟩) (fun z => ⟨by omega, by omega⟩), res_atom (d := .int _) rfl hq⟩
    · rw [if_neg hb] at hg; cases hg
  · rename_i xs k
    refine .inr ?_
    have hg : (if (decide (0 ≤ k) && decide (k ≤ 1000) && decide (xs.length ≤ 1000)) = true then some (R.fr (.lst (List.replicate k.toNat xs).flatten)) else none) = some r := hg
    by_cases hb : (decide (0 ≤ k) && decide (k ≤ 1000) && decide (xs.length ≤ 1000)) = true
    · rw [if_pos hb] at hg; cases hg
      cases (show v2 = .int _ from h2)
      obtain ⟨a, ys, rfl, h3, h4⟩ := rd_lst h1
      simp only [Bool.and_eq_true, decide_eq_true_eq] at hb
      have hlen := h4.len
      refine ⟨a, k, ys, rfl, rfl, h3, by omega, by omega, ?_, res_lst ?_ hq⟩
      · have : ys.length * k.toNat ≤ 1000 * 1000 := Nat.mul_le_mul (by omega) (by omega)
        exact m_le (by omega)
      · have : ∀ n : Nat, Reps c G (List.replicate n xs).flatten (List.replicate n ys).flatten := by
          intro n
          induction n with
          | zero => exact Reps.nil
          | succ n ih => rw [List.replicate_succ, List.replicate_succ, List.flatten_cons, List.flatten_cons]; exact h4.append ih
        exact this _
    · rw [if_neg hb] at hg; cases hg
def rAddA (K : PySem.W.Frag) : R2 := fun x y H Q => rI0 (fun i j => .int (i + j)) x y H Q ∨ (∃ i j, x = .str i ∧ y = .str j ∧ i.length + j.length ≤ sizeLine ∧ Q (.str (i ++ j)) H) ∨ rCat x y H Q ∨ rCatA K x y H Q
theorem op_addA : OpR X (binaryOp .Add) (rAddA X.K) := op_add.or (op_add_str.or (op_cat.or op_catA))
theorem o_add (hK : c.K = X.K) : OpD c (rAddA X.K) addD := by
  intro H G d1 d2 v1 v2 r Q hl h1 h2 hg hq
  cases d1 <;> cases d2 <;> first | (cases hg; done) | skip
  · cases hg
    cases (show v1 = .int _ from h1)
    cases (show v2 = .int _ from h2)
    exact .inl ⟨_, _, rfl, rfl, res_atom (d := .int _) rfl hq⟩
  · rename_i s t
    have hg : (if decide (s.length + t.length ≤ 1000000) = true then some (R.fz (.str (s ++ t))) else none) = some r := hg
    by_cases hb : decide (s.length + t.length ≤ 1000000) = true
    · rw [if_pos hb] at hg; cases hg
      cases (show v1 = .str _ from h1)
      cases (show v2 = .str _ from h2)
      refine .inr (.inl ⟨_, _, rfl, rfl, by rw [str_len, str_len]; exact m_le (of_decide_eq_true hb), ?_⟩)
      exact res_atom (d := .str (s ++ t)) (by rw [str_app]; rfl) hq
    · rw [if_neg hb] at hg; cases hg
  · rename_i xs ys
    have hg : (if decide (xs.length + ys.length ≤ 1000000) = true then some (R.fz (.tup (xs ++ ys))) else none) = some r := hg
    by_cases hb : decide (xs.length + ys.length ≤ 1000000) = true
    · rw [if_pos hb] at hg; cases hg
      obtain ⟨a, xs', rfl, h3, h4⟩ := rd_tup h1
      obtain ⟨b, ys', rfl, h5, h6⟩ := rd_tup h2
      have e1 := h4.len
      have e2 := h6.len
      have hb := of_decide_eq_true hb
      refine .inr (.inr (.inr ⟨a, b, xs', ys', rfl, rfl, .inl (.inl h3), .inl (.inl h5), m_le (by omega), fun e => ?_, fun _ e => ?_, fun _ _ => res_tup (h4.append h6) hq⟩))
      · have e' : xs = [] := by
          cases xs with
          | nil => rfl
          | cons _ _ => rw [e] at e1; simp at e1
        rw [e'] at hq
        exact hq _ _ (.inl ⟨rfl, by unfold Rep; exact ⟨b, ys', rfl, hl.tup _ _ h5, h6⟩⟩)
      · have e' : ys = [] := by
          cases ys with
          | nil => rfl
          | cons _ _ => rw [e] at e2; simp at e2
        rw [e', List.append_nil] at hq
        exact hq _ _ (.inl ⟨rfl, by unfold Rep; exact ⟨a, xs', rfl, hl.tup _ _ h3, h4⟩⟩)
    · rw [if_neg hb] at hg; cases hg
  · rename_i xs ys
    have hg : (if decide (xs.length + ys.length ≤ 1000000) = true then some (R.fr (.lst (xs ++ ys))) else none) = some r := hg
    by_cases hb : decide (xs.length + ys.length ≤ 1000000) = true
    · rw [if_pos hb] at hg; cases hg
      obtain ⟨a, xs', rfl, h3, h4⟩ := rd_lst h1
      obtain ⟨b, ys', rfl, h5, h6⟩ := rd_lst h2
      have e1 := h4.len
      have e2 := h6.len
      have hb := of_decide_eq_true hb
      exact .inr (.inr (.inl ⟨a, b, xs', ys', rfl, rfl, h3, h5, m_le (by omega), res_lst (h4.append h6) hq⟩))
    · rw [if_neg hb] at hg; cases hg
end
end Ly
set_option Elab.async false
set_option linter.all false
set_option maxRecDepth 100000
set_option maxHeartbeats 1000000
namespace Ly
open PySem L2

/-! ### 8. comparisons -/
def pyPair (k : PyData → PyData → Option Bool) (d e : D) : Option Bool := (toPy d).bind fun p => (toPy e).bind fun q => k p q
def eqB : D → D → Option Bool := pyPair fun p q => if SeqAt.shaped p && SeqAt.shaped q then some (PyData.eqv p q) else none
def neB (d e : D) : Option Bool := (eqB d e).map fun b => !b
def cmpOk (p q : PyData) : Bool := PySem.W.alike p q && (match p with | .none => false | _ => true) && decide (p.depth ≤ 60)
def ltB : D → D → Option Bool := pyPair fun p q => if cmpOk p q then some (PySem.W.dataLt p q) else none
def gtB : D → D → Option Bool := pyPair fun p q => if cmpOk p q then some (PySem.W.dataLt q p) else none
def leB : D → D → Option Bool := pyPair fun p q => if cmpOk p q then some (!PySem.W.dataLt q p) else none
def geB : D → D → Option Bool := pyPair fun p q => if cmpOk p q then some (!PySem.W.dataLt p q) else none
theorem cmpOk_iff {p q : PyData} (h : cmpOk p q = true) : PySem.W.alike p q = true ∧ p ≠ .none ∧ p.depth ≤ 60 := by
  unfold cmpOk at h
  simp only [Bool.and_eq_true, decide_eq_true_eq] at h
  refine ⟨h.1.1, fun e => ?_, h.2⟩
  subst e
  have := h.1.2
  simp at this
def rOrdD (K : PySem.W.Frag) (g : PyData → PyData → Bool) : R2 := fun x y H Q => ∃ p q, Dp K H x p ∧ Dp K H y q ∧ cmpOk p q = true ∧ Q (.bl (g p q)) H
theorem room_min {X : Cx} {p q : PyData} (hu : X.A.units + 150 < cLine) (h : p.depth ≤ 60) : X.A.units + min p.depth q.depth < cLine := by
  have := Nat.min_le_left p.depth q.depth
  omega
theorem op_ltD {X : Cx} (hu : X.A.units + 150 < cLine) : OpR X (compareOp .Lt) (rOrdD X.K PySem.W.dataLt) := by
  intro pins s σ H x y v u Q I rx ry ⟨p, q, hp, hq, hc, k⟩
  obtain ⟨as, r1⟩ := Dp.reads I p x v hp rx
  obtain ⟨bs, r2⟩ := Dp.reads I q y u hq ry
  obtain ⟨c1, c2, c3⟩ := cmpOk_iff hc
  exact PySem.W.lt_data r1 r2 c1 c2 (room_min hu c3) ⟨.bl _, H, I, rfl, k⟩
theorem op_gtD {X : Cx} (hu : X.A.units + 150 < cLine) : OpR X (compareOp .Gt) (rOrdD X.K fun p q => PySem.W.dataLt q p) := by
  intro pins s σ H x y v u Q I rx ry ⟨p, q, hp, hq, hc, k⟩
  obtain ⟨as, r1⟩ := Dp.reads I p x v hp rx
  obtain ⟨bs, r2⟩ := Dp.reads I q y u hq ry
  obtain ⟨c1, c2, c3⟩ := cmpOk_iff hc
  exact PySem.W.gt_data r1 r2 c1 c2 (room_min hu c3) ⟨.bl _, H, I, rfl, k⟩
theorem op_leD {X : Cx} (hu : X.A.units + 150 < cLine) : OpR X (compareOp .LtE) (rOrdD X.K fun p q => !PySem.W.dataLt q p) := by
  intro pins s σ H x y v u Q I rx ry ⟨p, q, hp, hq, hc, k⟩
  obtain ⟨as, r1⟩ := Dp.reads I p x v hp rx
  obtain ⟨bs, r2⟩ := Dp.reads I q y u hq ry
  obtain ⟨c1, c2, c3⟩ := cmpOk_iff hc
  exact PySem.W.le_data r1 r2 c1 c2 (room_min hu c3) ⟨.bl _, H, I, rfl, k⟩
theorem op_geD {X : Cx} (hu : X.A.units + 150 < cLine) : OpR X (compareOp .GtE) (rOrdD X.K fun p q => !PySem.W.dataLt p q) := by
  intro pins s σ H x y v u Q I rx ry ⟨p, q, hp, hq, hc, k⟩
  obtain ⟨as, r1⟩ := Dp.reads I p x v hp rx
  obtain ⟨bs, r2⟩ := Dp.reads I q y u hq ry
  obtain ⟨c1, c2, c3⟩ := cmpOk_iff hc
  exact PySem.W.ge_data r1 r2 c1 c2 (room_min hu c3) ⟨.bl _, H, I, rfl, k⟩
section
variable {c : Cc} {W : WXX} {X : Cx} {H G : Hp} {d d1 d2 : D} {v v1 v2 : V}
theorem pyPair_some {k : PyData → PyData → Option Bool} {b : Bool} (h : pyPair k d1 d2 = some b) : ∃ p q, toPy d1 = some p ∧ toPy d2 = some q ∧ k p q = some b := by
  unfold pyPair at h
  cases e1 : toPy d1 with
  | none => rw [e1] at h; cases h
  | some p =>
    cases e2 : toPy d2 with
    | none => rw [e1, e2] at h; cases h
    | some q => rw [e1, e2] at h; exact ⟨p, q, rfl, rfl, h⟩
theorem c_ord (hK : c.K = X.K) (g : PyData → PyData → Bool) : CmD c (rOrdD X.K g) (pyPair fun p q => if cmpOk p q then some (g p q) else none) := by
  intro H G d1 d2 v1 v2 b Q hl h1 h2 hg hq
  obtain ⟨p, q, e1, e2, e3⟩ := pyPair_some hg
  by_cases hc : cmpOk p q = true
  · rw [if_pos hc] at e3; cases e3
    exact ⟨p, q, hK ▸ h1.dp hl.le e1, hK ▸ h2.dp hl.le e2, hc, hq⟩
  · rw [if_neg hc] at e3; cases e3
theorem c_eq (hK : c.K = X.K) : CmD c (rEqD X.K) eqB := by
  intro H G d1 d2 v1 v2 b Q hl h1 h2 hg hq
  obtain ⟨p, q, e1, e2, e3⟩ := pyPair_some hg
  by_cases hc : (SeqAt.shaped p && SeqAt.shaped q) = true
  · rw [if_pos hc] at e3; cases e3
    rw [Bool.and_eq_true] at hc
    exact ⟨p, q, hK ▸ h1.dp hl.le e1, hK ▸ h2.dp hl.le e2, hc.1, hc.2, hq⟩
  · rw [if_neg hc] at e3; cases e3
theorem c_ne (hK : c.K = X.K) : CmD c (rNeD X.K) neB := by
  intro H G d1 d2 v1 v2 b Q hl h1 h2 hg hq
  obtain ⟨b', hg2, rfl⟩ := Option.map_eq_some_iff.mp (show (eqB d1 d2).map (fun b => !b) = some b from hg)
  obtain ⟨p, q, e1, e2, e3⟩ := pyPair_some hg2
  by_cases hc : (SeqAt.shaped p && SeqAt.shaped q) = true
  · rw [if_pos hc] at e3; cases e3
    rw [Bool.and_eq_true] at hc
    exact ⟨p, q, hK ▸ h1.dp hl.le e1, hK ▸ h2.dp hl.le e2, hc.1, hc.2, hq⟩
  · rw [if_neg hc] at e3; cases e3

/-! is -/
def isNB (d : D) : Bool := match d with | .non => true | _ => false
def isB : D → D → Option Bool
  | d, .non => some (isNB d)
  | .bl a, .bl b => some (a == b)
  | _, _ => none
def isnB (d e : D) : Option Bool := (isB d e).map fun b => !b
theorem rdV_non (h : RdV c H G d v) : decide (v = .non) = isNB d := by
  cases d with
  | non => cases (show v = .non from h); rfl
  | bl b => cases (show v = .bl _ from h); rfl
  | int b => cases (show v = .int _ from h); rfl
  | str b => cases (show v = .str _ from h); rfl
  | pool _ _ _ => exact h.elim
  | dls _ _ _ => exact h.elim
  | scr ns => obtain ⟨a, rfl, _⟩ := h; rfl
  | tup xs => obtain ⟨a, u, rfl, _⟩ := h; rfl
  | lst xs => obtain ⟨a, u, rfl, _⟩ := h; rfl
  | dic t xs ys => obtain ⟨a, u, rfl, _⟩ := h; rfl
  | obj t xs => obtain ⟨a, u, rfl, _⟩ := h; rfl
def rIsA : R2 := fun x y H Q => (y = .non ∧ Q (.bl (decide (x = .non))) H) ∨ ∃ a b, x = .bl a ∧ y = .bl b ∧ Q (.bl (decide (a = b))) H
def rIsnA : R2 := fun x y H Q => (y = .non ∧ Q (.bl (!decide (x = .non))) H) ∨ ∃ a b, x = .bl a ∧ y = .bl b ∧ Q (.bl (!decide (a = b))) H
theorem op_isA : OpR X (compareOp .Is) rIsA := op_isN.or op_is_bl
theorem op_isnA : OpR X (compareOp .IsNot) rIsnA := op_notN.or op_isnot_bl
theorem c_is : CmD c rIsA isB := by
  intro H G d1 d2 v1 v2 b Q hl h1 h2 hg hq
  cases d2 <;> first | (exfalso; cases d1 <;> (cases hg; done)) | skip
  · have hg : some (isNB d1) = some b := by cases d1 <;> exact hg
    cases hg
    exact .inl ⟨h2, by rw [rdV_non h1]; exact hq⟩
  · cases d1 <;> first | (cases hg; done) | skip
    rename_i x y
    cases hg
    exact .inr ⟨_, _, h1, h2, by rw [← Bool.beq_eq_decide_eq]; exact hq⟩
theorem c_isn : CmD c rIsnA isnB := by
  intro H G d1 d2 v1 v2 b Q hl h1 h2 hg hq
  obtain ⟨b', hg2, rfl⟩ := Option.map_eq_some_iff.mp (show (isB d1 d2).map (fun b => !b) = some b from hg)
  clear hg
  have hg := hg2
  clear hg2
  cases d2 <;> first | (exfalso; cases d1 <;> (cases hg; done)) | skip
  · have hg : some (isNB d1) = some b' := by cases d1 <;> exact hg
    cases hg
    exact .inl ⟨h2, by rw [rdV_non h1]; exact hq⟩
  · cases d1 <;> first | (cases hg; done) | skip
    rename_i x y
    cases hg
    exact .inr ⟨_, _, h1, h2, by rw [← Bool.beq_eq_decide_eq]; exact hq⟩
end

/-! ### 9. keys of dicts -/
def kOf : D → Option Key
  | .int i => some (.inl i)
  | .str s => some (.inr ⟨s.toArray⟩)
  | _ => none
def kOfs : List D → Option (List Key)
  | [] => some []
  | d :: ds => (kOf d).bind fun k => (kOfs ds).map fun ks => k :: ks
theorem kOf_kD : ∀ k : Key, kOf (kD k) = some k
  | .inl _ => rfl
  | .inr _ => rfl
theorem kD_kOf {d : D} {k : Key} (h : kOf d = some k) : d = kD k := by
  cases d <;> first | (cases h; done) | skip
  · cases h; rfl
  · cases h
    show D.str _ = D.str (Array.toList (List.toArray _))
    simp
theorem kD_inj {a b : Key} (h : kD a = kD b) : a = b := Option.some.inj ((kOf_kD a).symm.trans ((congrArg kOf h).trans (kOf_kD b)))
theorem kOfs_map : ∀ ks : List Key, kOfs (ks.map kD) = some ks
  | [] => rfl
  | k :: ks => by
    show (kOf (kD k)).bind (fun k => (kOfs (ks.map kD)).map fun ks => k :: ks) = _
    rw [kOf_kD, kOfs_map ks]
    rfl
theorem map_kOfs : ∀ {ds : List D} {ks : List Key}, kOfs ds = some ks → ds = ks.map kD
  | [], ks, h => by cases h; rfl
  | d :: ds, ks, h => by
    have h : (kOf d).bind (fun k => (kOfs ds).map fun ks => k :: ks) = some ks := h
    cases e : kOf d with
    | none => rw [e] at h; cases h
    | some k =>
      rw [e] at h
      obtain ⟨t, e2, rfl⟩ := Option.map_eq_some_iff.mp (show (kOfs ds).map (fun ks => k :: ks) = some ks from h)
      rw [kD_kOf e, map_kOfs e2]
      rfl
/-- a dict's key, by the kind of dict -/
inductive DKey where
  | k (k : Key)
  | t (ks : List Key)
  deriving DecidableEq
def dKey : Bool → D → Option DKey
  | false, d => (kOf d).map .k
  | true, .tup xs => (kOfs xs).map .t
  | true, _ => none
/-- what stands under a key -/
def dget (t : Bool) : List D → List D → DKey → Option D
  | k :: ks, v :: vs, x => if dKey t k = some x then some v else dget t ks vs x
  | _, _, _ => none
def dhas (t : Bool) (ks : List D) (x : DKey) : Bool := ks.any fun k => decide (dKey t k = some x)
def drep (t : Bool) : List D → List D → DKey → D → List D
  | k :: ks, v :: vs, x, z => (if dKey t k = some x then z else v) :: drep t ks vs x z
  | _, _, _, _ => []
def dput (t : Bool) (ks vs : List D) (x : DKey) (kd z : D) : List D × List D := if dhas t ks x then (ks, drep t ks vs x z) else (ks ++ [kd], vs ++ [z])
section
variable {c : Cc} {W : WXX} {X : Cx} {H G : Hp} {d d1 d2 : D} {v v1 v2 : V}
def OptRep (c : Cc) (G : Hp) : Option D → Option V → Prop
  | some d, some v => Rep c G d v
  | none, none => True
  | _, _ => False
theorem dget_k : ∀ {kvs : List (Key × V)} {vs : List D} (k : Key), Reps c G vs (kvs.map (·.2)) → OptRep c G (dget false (kvs.map fun p => kD p.1) vs (.k k)) (valV kvs k)
  | [], vs, k, h => by cases vs with
    | nil => exact True.intro
    | cons d ds => obtain ⟨v, r, e, _⟩ := h.cons_inv; cases e
  | p :: kvs, vs, k, h => by
    cases vs with
    | nil => cases (Reps.nil_iff.mp h)
    | cons d ds =>
      obtain ⟨v, r, e, h1, h2⟩ := h.cons_inv
      have e : p.2 :: kvs.map (·.2) = v :: r := e
      injection e with e1 e2
      subst e1 e2
      have ih := dget_k (kvs := kvs) (vs := ds) k h2
      show OptRep c G (if dKey false (kD p.1) = some (.k k) then some d else dget false (kvs.map fun p => kD p.1) ds (.k k)) _
      have hk : (dKey false (kD p.1) = some (.k k)) ↔ p.1 = k := by
        show ((kOf (kD p.1)).map DKey.k = some (DKey.k k)) ↔ _
        rw [kOf_kD]
        simp
      by_cases e : p.1 = k
      · rw [if_pos (hk.mpr e), valV_pos e]
        exact h1
      · rw [if_neg (fun z => e (hk.mp z)), valV_neg e]
        exact ih
theorem dget_t : ∀ {kvs : List (List Key × V)} {vs : List D} (k : List Key), Reps c G vs (kvs.map (·.2)) → OptRep c G (dget true (kvs.map fun p => .tup (p.1.map kD)) vs (.t k)) (valV kvs k)
  | [], vs, k, h => by cases vs with
    | nil => exact True.intro
    | cons d ds => obtain ⟨v, r, e, _⟩ := h.cons_inv; cases e
  | p :: kvs, vs, k, h => by
    cases vs with
    | nil => cases (Reps.nil_iff.mp h)
    | cons d ds =>
      obtain ⟨v, r, e, h1, h2⟩ := h.cons_inv
      have e : p.2 :: kvs.map (·.2) = v :: r := e
      injection e with e1 e2
      subst e1 e2
      have ih := dget_t (kvs := kvs) (vs := ds) k h2
      show OptRep c G (if dKey true (.tup (p.1.map kD)) = some (.t k) then some d else dget true (kvs.map fun p => .tup (p.1.map kD)) ds (.t k)) _
      have hk : (dKey true (.tup (p.1.map kD)) = some (.t k)) ↔ p.1 = k := by
        show ((kOfs (p.1.map kD)).map DKey.t = some (DKey.t k)) ↔ _
        rw [kOfs_map]
        simp
      by_cases e : p.1 = k
      · rw [if_pos (hk.mpr e), valV_pos e]
        exact h1
      · rw [if_neg (fun z => e (hk.mp z)), valV_neg e]
        exact ih
theorem key_k {p k : Key} : (dKey false (kD p) = some (.k k)) ↔ p = k := by
  show ((kOf (kD p)).map DKey.k = some (DKey.k k)) ↔ _
  rw [kOf_kD]
  simp
theorem key_t {p k : List Key} : (dKey true (.tup (p.map kD)) = some (.t k)) ↔ p = k := by
  show ((kOfs (p.map kD)).map DKey.t = some (DKey.t k)) ↔ _
  rw [kOfs_map]
  simp
theorem drep_k {k : Key} {z : D} {y : V} (hz : Rep c G z y) : ∀ {kvs : List (Key × V)} {vs : List D}, Reps c G vs (kvs.map (·.2)) → Reps c G (drep false (kvs.map fun p => kD p.1) vs (.k k) z) ((kvs.map fun kv => if kv.1 = k then (kv.1, y) else kv).map (·.2))
  | [], vs, h => by
    cases vs with
    | nil => exact Reps.nil
    | cons d ds => obtain ⟨v, r, e, _⟩ := h.cons_inv; cases e
  | p :: kvs, vs, h => by
    cases vs with
    | nil => cases (Reps.nil_iff.mp h)
    | cons d ds =>
      obtain ⟨v, r, e, h1, h2⟩ := h.cons_inv
      have e : p.2 :: kvs.map (·.2) = v :: r := e
      injection e with e1 e2
      subst e1 e2
      refine .cons ?_ (drep_k hz h2)
      show Rep c G (if dKey false (kD p.1) = some (.k k) then z else d) (if p.1 = k then (p.1, y) else p).2
      by_cases e : p.1 = k
      · rw [if_pos (key_k.mpr e), if_pos e]; exact hz
      · rw [if_neg (fun q => e (key_k.mp q)), if_neg e]; exact h1
theorem drep_t {k : List Key} {z : D} {y : V} (hz : Rep c G z y) : ∀ {kvs : List (List Key × V)} {vs : List D}, Reps c G vs (kvs.map (·.2)) → Reps c G (drep true (kvs.map fun p => .tup (p.1.map kD)) vs (.t k) z) ((kvs.map fun kv => if kv.1 = k then (kv.1, y) else kv).map (·.2))
  | [], vs, h => by
    cases vs with
    | nil => exact Reps.nil
    | cons d ds => obtain ⟨v, r, e, _⟩ := h.cons_inv; cases e
  | p :: kvs, vs, h => by
    cases vs with
    | nil => cases (Reps.nil_iff.mp h)
    | cons d ds =>
      obtain ⟨v, r, e, h1, h2⟩ := h.cons_inv
      have e : p.2 :: kvs.map (·.2) = v :: r := e
      injection e with e1 e2
      subst e1 e2
      refine .cons ?_ (drep_t hz h2)
      show Rep c G (if dKey true (.tup (p.1.map kD)) = some (.t k) then z else d) (if p.1 = k then (p.1, y) else p).2
      by_cases e : p.1 = k
      · rw [if_pos (key_t.mpr e), if_pos e]; exact hz
      · rw [if_neg (fun q => e (key_t.mp q)), if_neg e]; exact h1
theorem dhas_k {kvs : List (Key × V)} {k : Key} : dhas false (kvs.map fun p => kD p.1) (.k k) = kvs.any fun kv => decide (kv.1 = k) := by
  unfold dhas
  rw [List.any_map]
  congr 1
  funext p
  show decide (dKey false (kD p.1) = some (.k k)) = decide (p.1 = k)
  rw [decide_eq_decide]
  exact key_k
theorem dhas_t {kvs : List (List Key × V)} {k : List Key} : dhas true (kvs.map fun p => .tup (p.1.map kD)) (.t k) = kvs.any fun kv => decide (kv.1 = k) := by
  unfold dhas
  rw [List.any_map]
  congr 1
  funext p
  show decide (dKey true (.tup (p.1.map kD)) = some (.t k)) = decide (p.1 = k)
  rw [decide_eq_decide]
  exact key_t
theorem map_fst_k {kvs : List (Key × V)} {k : Key} {y : V} : (kvs.map fun kv => if kv.1 = k then (kv.1, y) else kv).map (fun p => kD p.1) = kvs.map fun p => kD p.1 := by
  rw [List.map_map]
  refine List.map_congr_left fun p _ => ?_
  show kD (if p.1 = k then (p.1, y) else p).1 = kD p.1
  by_cases e : p.1 = k
  · rw [if_pos e]
  · rw [if_neg e]
theorem map_fst_t {kvs : List (List Key × V)} {k : List Key} {y : V} : (kvs.map fun kv => if kv.1 = k then (kv.1, y) else kv).map (fun p => D.tup (p.1.map kD)) = kvs.map fun p => D.tup (p.1.map kD) := by
  rw [List.map_map]
  refine List.map_congr_left fun p _ => ?_
  show D.tup ((if p.1 = k then (p.1, y) else p).1.map kD) = D.tup (p.1.map kD)
  by_cases e : p.1 = k
  · rw [if_pos e]
  · rw [if_neg e]
theorem dput_k {kvs : List (Key × V)} {vs : List D} (k : Key) {z : D} {y : V} (h : Reps c G vs (kvs.map (·.2))) (hz : Rep c G z y) :
    (dput false (kvs.map fun p => kD p.1) vs (.k k) (kD k) z).1 = (putK kvs k y).map (fun p => kD p.1) ∧ Reps c G (dput false (kvs.map fun p => kD p.1) vs (.k k) (kD k) z).2 ((putK kvs k y).map (·.2)) := by
  unfold dput putK
  rw [dhas_k]
  by_cases e : (kvs.any fun kv => decide (kv.1 = k)) = true
  · rw [if_pos e, if_pos e]
    exact ⟨map_fst_k.symm, drep_k hz h⟩
  · rw [if_neg e, if_neg e]
    refine ⟨by rw [List.map_append]; rfl, ?_⟩
    rw [List.map_append]
    exact h.append (.cons hz .nil)
theorem dput_t {kvs : List (List Key × V)} {vs : List D} (k : List Key) {z : D} {y : V} (h : Reps c G vs (kvs.map (·.2))) (hz : Rep c G z y) :
    (dput true (kvs.map fun p => .tup (p.1.map kD)) vs (.t k) (.tup (k.map kD)) z).1 = (putK kvs k y).map (fun p => .tup (p.1.map kD)) ∧ Reps c G (dput true (kvs.map fun p => .tup (p.1.map kD)) vs (.t k) (.tup (k.map kD)) z).2 ((putK kvs k y).map (·.2)) := by
  unfold dput putK
  rw [dhas_t]
  by_cases e : (kvs.any fun kv => decide (kv.1 = k)) = true
  · rw [if_pos e, if_pos e]
    exact ⟨map_fst_t.symm, drep_t hz h⟩
  · rw [if_neg e, if_neg e]
    refine ⟨by rw [List.map_append]; rfl, ?_⟩
    rw [List.map_append]
    exact h.append (.cons hz .nil)
theorem cut_reps {ds : List D} {xs : List V} (h : Reps c G ds xs) (lo hi : Option Int) : Reps c G ((ds.drop (HT.sIx ds.length 0 lo)).take (HT.sIx ds.length ds.length hi - HT.sIx ds.length 0 lo)) (cutV xs lo hi) := by
  unfold cutV
  rw [← h.len]
  exact (h.drop _).take _
end
end Ly
set_option Elab.async false
set_option linter.all false
set_option maxRecDepth 100000
set_option maxHeartbeats 1000000
namespace Ly
open PySem L2

/-! ### 10. in -/
def inPy (k : List PyData → PyData) (d : D) (xs : List D) : Option Bool := (toPy d).bind fun p => (toPys xs).bind fun ps => if SeqAt.shaped p && SeqAt.shaped (k ps) then some (ps.any fun z => PyData.eqv z p) else none
def inStr : D → List Nat → Option Bool
  | .str [k], t => some (decide (k ∈ t))
  | .str s, t => some (!(Builtin.Str.occurrences ⟨t.toArray⟩ ⟨s.toArray⟩ 0 t.length 1).isEmpty)
  | _, _ => none
def inB (d e : D) : Option Bool := match e with
  | .str t => inStr d t
  | .lst xs => inPy .list d xs
  | .tup xs => inPy .tuple d xs
  | .dic t ks vs => (dKey t d).map fun x => (dget t ks vs x).isSome
  | _ => none
def ninB (d e : D) : Option Bool := (inB d e).map fun b => !b
def rInTD (K : PySem.W.Frag) (n : Bool) : R2 := fun x y H Q => ∃ d ds, Dp K H x d ∧ Dp K H y (.tuple ds) ∧ SeqAt.shaped d = true ∧ SeqAt.shaped (.tuple ds) = true ∧ Q (.bl (if n then !ds.any (fun z => PyData.eqv z d) else ds.any fun z => PyData.eqv z d)) H
theorem op_inTD {X : Cx} (hu : X.A.units + 65 < cLine) : OpR X (compareOp .In) (rInTD X.K false) := by
  intro pins s σ H x y v u Q I rx ry ⟨d, ds, hd, he, sd, se, q⟩
  obtain ⟨as, r1⟩ := Dp.reads I d x v hd rx
  obtain ⟨bs, r2⟩ := Dp.reads I (.tuple ds) y u he ry
  exact SeqAt.in_tuple_reads r2 r1 (SeqAt.canLay_of_shaped (d := .tuple ds) se) (SeqAt.canLay_of_shaped sd) (PyProof.Rows.room_in_shaped sd hu) ⟨.bl _, H, I, rfl, q⟩
theorem op_ninTD {X : Cx} (hu : X.A.units + 65 < cLine) : OpR X (compareOp .NotIn) (rInTD X.K true) := by
  intro pins s σ H x y v u Q I rx ry ⟨d, ds, hd, he, sd, se, q⟩
  obtain ⟨as, r1⟩ := Dp.reads I d x v hd rx
  obtain ⟨bs, r2⟩ := Dp.reads I (.tuple ds) y u he ry
  exact SeqAt.notIn_tuple_reads r2 r1 (SeqAt.canLay_of_shaped (d := .tuple ds) se) (SeqAt.canLay_of_shaped sd) (PyProof.Rows.room_in_shaped sd hu) ⟨.bl _, H, I, rfl, q⟩
def rDI (n : Bool) : R2 := fun x y H Q => ∃ a o, y = .ref a ∧ DGet H a x o ∧ Q (.bl (if n then !o.isSome else o.isSome)) H
theorem op_inDict {X : Cx} (hu : X.A.units + 1 < cLine) : OpR X (compareOp .In) (rDI false) := by
  intro pins s σ H x y v u Q I rx ry ⟨a, o, e, g, q⟩
  subst e
  cases ry
  exact d_in hu I g rx fun s' I' => ⟨.bl _, H, I', rfl, q⟩
theorem op_ninDict {X : Cx} (hu : X.A.units + 1 < cLine) : OpR X (compareOp .NotIn) (rDI true) := by
  intro pins s σ H x y v u Q I rx ry ⟨a, o, e, g, q⟩
  subst e
  cases ry
  exact d_notIn hu I g rx fun s' I' => ⟨.bl _, H, I', rfl, q⟩
def rSgn (n : Bool) : R2 := fun x y H Q => ∃ (k : Nat) (z : Str), x = .str ⟨#[k]⟩ ∧ y = .str z ∧ Q (.bl (if n then !decide (k ∈ z.cps.toList) else decide (k ∈ z.cps.toList))) H
def rOcc (n : Bool) : R2 := fun x y H Q => ∃ i j : Str, x = .str i ∧ y = .str j ∧ Q (.bl (if n then !(!(Builtin.Str.occurrences j i 0 j.length 1).isEmpty) else !(Builtin.Str.occurrences j i 0 j.length 1).isEmpty)) H
def rInA (K : PySem.W.Frag) (n : Bool) : R2 := fun x y H Q => rSgn n x y H Q ∨ rOcc n x y H Q ∨ (if n then rNotInD K x y H Q else rInD K x y H Q) ∨ rInTD K n x y H Q ∨ rDI n x y H Q
theorem op_inA {X : Cx} (hu : X.A.units + 150 < cLine) : OpR X (compareOp .In) (rInA X.K false) :=
  OpR.or (r := rSgn false) op_in_sign (OpR.or (r := rOcc false) op_in_str (OpR.or (r := rInD X.K) (op_inD (by omega)) (OpR.or (r := rInTD X.K false) (op_inTD (by omega)) (op_inDict (by omega)))))
theorem op_ninA {X : Cx} (hu : X.A.units + 150 < cLine) : OpR X (compareOp .NotIn) (rInA X.K true) :=
  OpR.or (r := rSgn true) op_notIn_sign (OpR.or (r := rOcc true) op_notIn_str (OpR.or (r := rNotInD X.K) (op_notInD (by omega)) (OpR.or (r := rInTD X.K true) (op_ninTD (by omega)) (op_ninDict (by omega)))))
section
variable {c : Cc} {W : WXX} {X : Cx} {σ : St} {H H1 G : Hp} {ρ ρ1 ρ' : Env} {o o1 : Ownr} {P P1 P' : Prot} {d d1 d2 : D} {v v1 v2 : V} {a : Addr}
theorem inPy_some {k : List PyData → PyData} {xs : List D} {b : Bool} (h : inPy k d xs = some b) : ∃ p ps, toPy d = some p ∧ toPys xs = some ps ∧ SeqAt.shaped p = true ∧ SeqAt.shaped (k ps) = true ∧ b = ps.any fun z => PyData.eqv z p := by
  unfold inPy at h
  cases e1 : toPy d with
  | none => rw [e1] at h; cases h
  | some p =>
    cases e2 : toPys xs with
    | none => rw [e1, e2] at h; cases h
    | some ps =>
      rw [e1, e2] at h
      have h : (if (SeqAt.shaped p && SeqAt.shaped (k ps)) = true then some (ps.any fun z => PyData.eqv z p) else none) = some b := h
      by_cases hc : (SeqAt.shaped p && SeqAt.shaped (k ps)) = true
      · rw [if_pos hc] at h; cases h
        rw [Bool.and_eq_true] at hc
        exact ⟨p, ps, rfl, rfl, hc.1, hc.2, rfl⟩
      · rw [if_neg hc] at h; cases h
/-- a key of a dict, read -/
theorem dget_rd {t : Bool} {ks vs : List D} {x : DKey} (hl : Le G H) (h2 : RdV c H G (.dic t ks vs) v2) (h1 : RdV c H G d v1) (e : dKey t d = some x) : ∃ a o, v2 = .ref a ∧ DGet H a v1 o ∧ OptRep c G (dget t ks vs x) o := by
  cases t with
  | false =>
    obtain ⟨a, kvs, rfl, h3, rfl, h5⟩ := rd_dicK h2
    obtain ⟨k, e1, rfl⟩ := Option.map_eq_some_iff.mp (show (kOf d).map DKey.k = some x from e)
    refine ⟨a, _, rfl, .inl ⟨kvs, k, h3, ?_, rfl⟩, dget_k k h5⟩
    cases d <;> first | (cases e1; done) | skip
    · cases e1; exact h1
    · cases e1; exact h1
  | true =>
    obtain ⟨a, kvs, rfl, h3, rfl, h5⟩ := rd_dicT h2
    cases d <;> first | (cases e; done) | skip
    rename_i xs
    obtain ⟨k, e1, rfl⟩ := Option.map_eq_some_iff.mp (show (kOfs xs).map DKey.t = some x from e)
    obtain ⟨b, ys, rfl, h6, h7⟩ := rd_tup h1
    have ey : ys = k.map kV := by
      rw [map_kOfs e1] at h7
      clear e e1 h1 h6
      induction k generalizing ys with
      | nil => exact Reps.nil_iff.mp h7
      | cons q k ih =>
        obtain ⟨v, r, rfl, h8, h9⟩ := h7.cons_inv
        rw [ih r h9]
        have : v = kV q := by
          cases q with
          | inl i => have h8 : Rep c G (.int i) v := h8; unfold Rep at h8; exact h8
          | inr s => have h8 : Rep c G (.str s.cps.toList) v := h8; unfold Rep at h8; exact h8
        rw [this]
        rfl
    subst ey
    exact ⟨a, _, rfl, .inr ⟨kvs, k, b, h3, rfl, h6, rfl⟩, dget_t k h5⟩
theorem OptRep.isSome {x : Option D} {y : Option V} (h : OptRep c G x y) : x.isSome = y.isSome := by
  cases x <;> cases y <;> first | rfl | exact h.elim
theorem in_core (n : Bool) (hK : c.K = X.K) {b : Bool} {Q : VK} (hl : Und G H) (h1 : RdV c H G d1 v1) (h2 : RdV c H G d2 v2) (hg : inB d1 d2 = some b) (hq : Q (.bl (if n then !b else b)) H) : rInA X.K n v1 v2 H Q := by
  cases d2 <;> first | (cases hg; done) | skip
  · rename_i t
    replace hg : inStr d1 t = some b := hg
    cases d1 <;> first | (unfold inStr at hg; cases hg; done) | skip
    rename_i s
    cases (show v1 = .str _ from h1)
    cases (show v2 = .str _ from h2)
    clear h1 h2
    match s, hg with
    | [], hg =>
      cases hg
      exact .inr (.inl ⟨_, _, rfl, rfl, by rw [str_len]; exact hq⟩)
    | [k], hg =>
      cases hg
      exact .inl ⟨k, _, rfl, rfl, hq⟩
    | k :: k2 :: s, hg =>
      cases hg
      exact .inr (.inl ⟨_, _, rfl, rfl, by rw [str_len]; exact hq⟩)
  · rename_i xs
    have hg : inPy .tuple d1 xs = some b := hg
    obtain ⟨p, ps, e1, e2, s1, s2, rfl⟩ := inPy_some hg
    exact .inr (.inr (.inr (.inl ⟨p, ps, hK ▸ h1.dp hl.le e1, hK ▸ h2.dp hl.le (by unfold toPy; rw [e2]; rfl), s1, s2, hq⟩)))
  · rename_i xs
    have hg : inPy .list d1 xs = some b := hg
    obtain ⟨p, ps, e1, e2, s1, s2, rfl⟩ := inPy_some hg
    refine .inr (.inr (.inl ?_))
    cases n with
    | false => exact ⟨p, ps, hK ▸ h1.dp hl.le e1, hK ▸ h2.dp hl.le (by unfold toPy; rw [e2]; rfl), s1, s2, hq⟩
    | true => exact ⟨p, ps, hK ▸ h1.dp hl.le e1, hK ▸ h2.dp hl.le (by unfold toPy; rw [e2]; rfl), s1, s2, hq⟩
  · rename_i t ks vs
    have hg : (dKey t d1).map (fun x => (dget t ks vs x).isSome) = some b := hg
    obtain ⟨x, e1, rfl⟩ := Option.map_eq_some_iff.mp hg
    obtain ⟨a, o, e, g, r⟩ := dget_rd hl.le h2 h1 e1
    exact .inr (.inr (.inr (.inr ⟨a, o, e, g, by rw [← r.isSome]; exact hq⟩)))
theorem c_in (hK : c.K = X.K) : CmD c (rInA X.K false) inB := fun H G d1 d2 v1 v2 b Q hl h1 h2 hg hq => in_core false hK hl h1 h2 hg hq
theorem c_nin (hK : c.K = X.K) : CmD c (rInA X.K true) ninB := fun H G d1 d2 v1 v2 b Q hl h1 h2 hg hq => by
  obtain ⟨b', hg2, rfl⟩ := Option.map_eq_some_iff.mp (show (inB d1 d2).map (fun b => !b) = some b from hg)
  exact in_core true hK hl h1 h2 hg2 hq

/-! ### 11. items -/
def ixSeq : D → D → Option R
  | .lst xs, .int i => (atI xs i).map .fz
  | .tup xs, .int i => (atI xs i).map .fz
  | .str s, .int i => if s.length ≤ 1000000 then (atI s i).map fun k => .fz (.str [k]) else none
  | _, _ => none
def ixDic : D → D → Option R
  | .dic t ks vs, d => (dKey t d).bind fun x => (dget t ks vs x).map .fz
  | _, _ => none
def ixD (a b : D) : Option R := (ixSeq a b).or (ixDic a b)
theorem pe_or2 {e : Expr} {t t' : TE} (h : PE X e t) (h' : PE X e t') : PE X e (fun σ H Q => t σ H Q ∨ t' σ H Q) := ⟨fun pins s σ H Q I q => q.elim (h.run pins s σ H Q I) (h'.run pins s σ H Q I)⟩
theorem Reps.atI {ds : List D} {xs : List V} {i : Int} (h : Reps c G ds xs) (e : L2.atI ds i = some d) : ∃ v, L2.atI xs i = some v ∧ Rep c G d v := by
  unfold L2.atI at e ⊢
  rw [← h.len]
  cases q : ixN ds.length i with
  | none => rw [q] at e; cases e
  | some j =>
    rw [q] at e
    exact h.get e
theorem o_ix (hK : c.K = X.K) : OpD c (rIx X.K) ixSeq := by
  intro H G d1 d2 v1 v2 r Q hl h1 h2 hg hq
  cases d1 <;> cases d2 <;> first | (cases hg; done) | skip
  · rename_i s i
    have hg : (if s.length ≤ 1000000 then (atI s i).map (fun k => R.fz (.str [k])) else none) = some r := hg
    by_cases hs : s.length ≤ 1000000
    · rw [if_pos hs] at hg
      obtain ⟨k, e1, rfl⟩ := Option.map_eq_some_iff.mp hg
      exact .inr (.inr ⟨⟨s.toArray⟩, i, k, h1, h2, by rw [str_len]; exact m_le hs, by simpa using e1, res_atom (d := .str [k]) rfl hq⟩)
    · rw [if_neg hs] at hg; cases hg
  · rename_i xs i
    obtain ⟨d, e1, rfl⟩ := Option.map_eq_some_iff.mp (show (atI xs i).map R.fz = some r from hg)
    obtain ⟨a, ys, rfl, h3, h4⟩ := rd_tup h1
    obtain ⟨v, e2, h5⟩ := h4.atI e1
    exact .inr (.inl ⟨a, ys, i, v, rfl, h2, .inl (.inl h3), e2, hq _ _ (.inl ⟨rfl, h5⟩)⟩)
  · rename_i xs i
    obtain ⟨d, e1, rfl⟩ := Option.map_eq_some_iff.mp (show (atI xs i).map R.fz = some r from hg)
    obtain ⟨a, ys, rfl, h3, h4⟩ := rd_lst h1
    obtain ⟨v, e2, h5⟩ := h4.atI e1
    exact .inl ⟨a, ys, i, v, rfl, h2, .inl (.inl h3), e2, hq _ _ (.inl ⟨rfl, h5⟩)⟩
def rDG : R2 := fun x y H Q => ∃ a v, x = .ref a ∧ DGet H a y (some v) ∧ Q v H
theorem o_ixd : OpD c rDG ixDic := by
  intro H G d1 d2 v1 v2 r Q hl h1 h2 hg hq
  cases d1 <;> first | (cases hg; done) | skip
  rename_i t ks vs
  cases e1 : dKey t d2 with
  | none => simp only [ixDic, e1, Option.bind_none] at hg; cases hg
  | some x =>
    simp only [ixDic, e1, Option.bind_some] at hg
    obtain ⟨d, e2, rfl⟩ := Option.map_eq_some_iff.mp hg
    obtain ⟨a, o, rfl, g, rr⟩ := dget_rd hl.le h1 h2 e1
    rw [e2] at rr
    cases o with
    | none => exact rr.elim
    | some v => exact ⟨a, v, rfl, g, hq _ _ (.inl ⟨rfl, rr⟩)⟩
theorem bin_or {g g' : D → D → Option R} {f1 f2 : Sem R} {Q : VK} (h : tE c W (binS (fun a b => (g a b).or (g' a b)) f1 f2) σ H Q) : tE c W (binS g f1 f2) σ H Q ∨ tE c W (binS g' f1 f2) σ H Q := by
  obtain ⟨ρ, o, P, hR, hP⟩ := h
  have key : binS (fun a b => (g a b).or (g' a b)) f1 f2 ρ = binS g f1 f2 ρ ∨ binS (fun a b => (g a b).or (g' a b)) f1 f2 ρ = binS g' f1 f2 ρ := by
    unfold binS
    rcases e1 : f1 ρ with _ | ⟨r1 | x, ρ1⟩
    · exact .inl rfl
    · simp only [bnd]
      rcases e2 : f2 ρ1 with _ | ⟨r2 | x, ρ2⟩
      · exact .inl rfl
      · simp only [op2]
        rcases e3 : val ρ2 r1 with _ | d1
        · exact .inl rfl
        · rcases e4 : val ρ2 r2 with _ | d2
          · exact .inl rfl
          · simp only [Option.bind_some]
            rcases e5 : g d1 d2 with _ | r
            · exact .inr rfl
            · exact .inl rfl
      · exact .inl rfl
    · exact .inl rfl
  rcases key with k | k
  · exact .inl ⟨ρ, o, P, hR, by rw [← k]; exact hP⟩
  · exact .inr ⟨ρ, o, P, hR, by rw [← k]; exact hP⟩
theorem pd_ix {ea eb : Expr} {pos : Pos} {f1 f2 : Sem R} (k : Okc c X) (ha : PE X ea (tE c W f1)) (hb : PE X eb (tE c W f2)) (hs : PlainIx eb := by intro _ _; rfl) : PE X (.Subscript ea eb pos) (tE c W (binS ixD f1 f2)) := by
  refine pe_of (pe_or2 (pe_ix (ix_seq (X := X)) ha hb hs) (pe_dget (by have := k.hu; omega) ha hb hs)) ?_
  intro σ H Q h
  rcases bin_or h with h | h
  · exact .inl (bin_core (o_ix k.hK) Q h)
  · exact .inr (bin_core o_ixd Q h)

/-! ### 12. slices -/
def slD : D → Option Int → Option Int → Option R
  | .str s, lo, hi => if s.length ≤ 1000000 then some (.fz (.str ((s.drop (HT.sIx s.length 0 lo)).take (HT.sIx s.length s.length hi - HT.sIx s.length 0 lo)))) else none
  | .lst s, lo, hi => some (.fr (.lst ((s.drop (HT.sIx s.length 0 lo)).take (HT.sIx s.length s.length hi - HT.sIx s.length 0 lo))))
  | .tup s, lo, hi => some (.fz (.tup ((s.drop (HT.sIx s.length 0 lo)).take (HT.sIx s.length s.length hi - HT.sIx s.length 0 lo))))
  | .scr s, lo, hi => some (.fr (.lst (((s.map D.int).drop (HT.sIx (s.map D.int).length 0 lo)).take (HT.sIx (s.map D.int).length (s.map D.int).length hi - HT.sIx (s.map D.int).length 0 lo))))
  | _, _, _ => none
def RepO : RR (Option Int) (Option Int) := fun _ _ _ _ _ _ a b => a = b
theorem base_O : Base RepO := fun c σ H o P P1 P' a b hp h => h
def noPart : Sem (Option Int) := fun ρ => some (.val none, ρ)
def partS (f : Sem R) : Sem (Option Int) := fun ρ => bnd (f ρ) fun r ρ1 => (val ρ1 r).bind fun d => match d with
  | .int i => some (.val (some i), ρ1)
  | _ => none
def sliceS (f : Sem R) (lo hi : Sem (Option Int)) : Sem R := fun ρ => bnd (f ρ) fun r ρ1 => bnd (lo ρ1) fun l ρ2 => bnd (hi ρ2) fun u ρ3 => (val ρ3 r).bind fun d => (slD d l u).map fun z => (.val z, ρ3)
abbrev tO (c : Cc) (W : WXX) (f : Sem (Option Int)) : TO := tG c W RepO f
theorem po_of {e : Option Expr} {t t' : TO} (h : PO X e t) (k : ∀ σ H Q, t' σ H Q → t σ H Q) : PO X e t' := ⟨fun pins s σ H Q I q => h.run pins s σ H Q I (k σ H Q q)⟩
theorem od_none : PO X none (tO c W noPart) := po_of po_none (by
  rintro σ H Q ⟨ρ, o, P, hR, hP⟩
  exact hP none H o P hR Grow.refl Step.refl rfl)
theorem od_some {e : Expr} {f : Sem R} (h : PE X e (tE c W f)) : PO X (some e) (tO c W (partS f)) := by
  refine po_of (po_some h) ?_
  rintro σ H Q ⟨ρ, o, P, hR, hP⟩
  refine seq1 base_O hR hP fun r1 ρ1 v1 H1 o1 P1 R1 G1 S1 M1 hP1 => ?_
  cases e1 : val ρ1 r1 with
  | none => rw [e1] at hP1; exact hP1.elim
  | some d1 =>
    rw [e1] at hP1
    have q := M1.read R1 e1
    cases d1 <;> first | exact hP1.elim | skip
    rename_i i
    exact ⟨i, q, hP1 (some i) H1 o1 P1 R1 Grow.refl Step.refl rfl⟩
theorem reps_int : ∀ (ks : List Int), Reps c G (ks.map D.int) (ks.map V.int)
  | [] => Reps.nil
  | k :: ks => .cons (by unfold Rep; rfl) (reps_int ks)
theorem pd_slice {e : Expr} {lo hi : Option Expr} {p2 pos : Pos} {f : Sem R} {l u : Sem (Option Int)} (k : Okc c X) (he : PE X e (tE c W f)) (hl : PO X lo (tO c W l)) (hu : PO X hi (tO c W u)) : PE X (.Subscript e (.Slice lo hi none p2) pos) (tE c W (sliceS f l u)) := by
  refine pe_of (pe_slice (r := fun x lo hi H Q => rSlS x lo hi H Q ∨ rSlL X.K x lo hi H Q ∨ rSlA X.K x lo hi H Q) (sl_str.or (sl_list.or sl_tupA)) he hl hu) ?_
  rintro σ H Q ⟨ρ, o, P, hR, hP⟩
  refine seq1 base_R hR hP fun r1 ρ1 v1 H1 o1 P1 R1 G1 S1 M1 hP1 => ?_
  refine seq1 base_R R1 hP1 fun r2 ρ2 v2 H2 o2 P2 R2 G2 S2 M2 hP2 => ?_
  refine seq1 base_R R2 hP2 fun r3 ρ3 v3 H3 o3 P3 R3 G3 S3 M3 hP3 => ?_
  have M1' := (M1.step R1 S2 G2).step R2 S3 G3
  have e2 : r2 = v2 := M2
  have e3 : r3 = v3 := M3
  subst e2 e3
  cases e1 : val ρ3 r1 with
  | none => rw [e1] at hP3; exact hP3.elim
  | some d1 =>
    rw [e1] at hP3
    have q := M1'.read R3 e1
    have hl := R3.und
    cases d1 <;> first | exact hP3.elim | skip
    · rename_i s
      simp only [Option.bind_some, slD] at hP3
      by_cases hs : s.length ≤ 1000000
      · rw [if_pos hs] at hP3
        cases (show v1 = .str _ from q)
        refine .inl ⟨_, rfl, by rw [str_len]; exact m_le hs, ?_⟩
        refine hP3.res R3 (.inl ⟨rfl, ?_⟩)
        unfold Rep
        show V.str _ = V.str _
        unfold cutS
        rw [str_len]
        try simp
      · rw [if_neg hs] at hP3; exact hP3.elim
    · rename_i xs
      simp only [Option.bind_some, slD, Option.map_some] at hP3
      obtain ⟨a, ys, rfl, h3, h4⟩ := rd_tup q
      have hc := cut_reps h4 r2 r3
      refine .inr (.inr ⟨a, ys, rfl, .inl (.inl h3), fun hw => ?_, fun hw => ?_⟩)
      · refine hP3.res R3 (.inl ⟨rfl, ?_⟩)
        unfold Rep
        refine ⟨a, ys, rfl, hl.tup _ _ h3, ?_⟩
        have e : cutV ys r2 r3 = ys := by
          unfold cutV
          rw [hw.1, hw.2]
          simp
        rw [← e]
        rw [e]
        rw [← e]
        exact hc
      · exact res_tup hc fun v H' hr => hP3.res R3 hr
    · rename_i xs
      simp only [Option.bind_some, slD, Option.map_some] at hP3
      obtain ⟨a, ys, rfl, h3, h4⟩ := rd_lst q
      exact .inr (.inl ⟨a, ys, rfl, .inl (.inl h3), res_lst (cut_reps h4 r2 r3) fun v H' hr => hP3.res R3 hr⟩)
    · rename_i ns
      simp only [Option.bind_some, slD, Option.map_some] at hP3
      obtain ⟨a, rfl, h3⟩ := q
      exact .inr (.inl ⟨a, _, rfl, k.hK ▸ h3, res_lst (cut_reps (reps_int ns) r2 r3) fun v H' hr => hP3.res R3 hr⟩)
end
end Ly
set_option Elab.async false
set_option linter.all false
set_option maxRecDepth 100000
set_option maxHeartbeats 1000000
namespace Ly
open PySem L2

/-! ### 13. freezing -/
section
variable {c : Cc} {W : WXX} {X : Cx} {σ : St} {H H1 H' G G' : Hp} {ρ ρ1 ρ' : Env} {o o1 o' : Ownr} {P P1 P2 P' : Prot} {d d1 d2 : D} {v v1 v2 : V} {r : R} {a : Addr} {S : Addr → Prop}
theorem lsts_reps (e : Le G G') : ∀ {ds : List D} {las : List Addr}, Lsts c H G ds las → (∀ x u, x ∈ las → H x = some u → G' x = some u) → Reps c G' ds (las.map V.ref)
  | [], las, h, _ => by rw [show las = [] from h]; exact Reps.nil
  | d :: ds, las, ⟨l, r, dd, xs, e1, e2, h1, h2, h3⟩, k => by
    rw [e1, List.map_cons, e2]
    refine .cons ?_ (lsts_reps e h3 fun x u hx => k x u (by rw [e1]; exact .tail _ hx))
    unfold Rep
    exact ⟨l, xs, rfl, k _ _ (by rw [e1]; exact .head _) h1, Reps.mono e _ _ h2⟩
theorem Own.rep {d' : D} (h : Own c H G d a S) (hn : fzD d = some d') (e : Le G G') (k : ∀ x u, S x → H x = some u → G' x = some u) : Rep c G' d' (.ref a) := by
  cases d with
  | pool _ _ _ => cases hn
  | dls t ks vs =>
    cases hn
    obtain ⟨u, las, h1, h2, h3, h5, h6, h4⟩ := h
    have hr := lsts_reps e h3 fun x u hx q => k x u ((h4 x).mpr (.inr hx)) q
    have ha := k _ _ ((h4 a).mpr (.inl rfl)) h1
    cases u <;> first | exact h2.elim | skip
    · obtain ⟨rfl, q1, q2⟩ := h2
      unfold Rep
      exact ⟨a, _, rfl, .inl ha, q1, by rw [q2]; exact hr⟩
    · obtain ⟨rfl, q1, q2⟩ := h2
      unfold Rep
      exact ⟨a, _, rfl, .inl ha, q1, by rw [q2]; exact hr⟩
  | lst _ => cases hn; exact rdV_self.mpr (((h.keep (H1 := G') k e).rdV rfl))
  | dic _ _ _ => cases hn; exact rdV_self.mpr (((h.keep (H1 := G') k e).rdV rfl))
  | obj _ _ => cases hn; exact rdV_self.mpr (((h.keep (H1 := G') k e).rdV rfl))
  | non => exact h.elim
  | bl _ => exact h.elim
  | int _ => exact h.elim
  | str _ => exact h.elim
  | tup _ => exact h.elim
  | scr _ => exact h.elim
theorem frz_ok (hR : Rel c σ H ρ o P1) (hM : RepR c σ H o P P1 r v) (hp : ∀ a, P a → P1 a) (e : frz ρ r = some (d, ρ')) :
    ∃ o' P2, Rel c σ H ρ' o' P2 ∧ (∀ a, P a → P2 a) ∧ (∀ a, P2 a → P1 a) ∧ Step H o H o' ∧ Rep c (hide H (All o' P2)) d v := by
  cases r with
  | fz d' =>
    cases e
    exact ⟨o, P1, hR, hp, fun _ h => h, Step.refl, hM⟩
  | fr d' =>
    obtain ⟨d2, hn, e⟩ := Option.map_eq_some_iff.mp (show (fzD d').map (fun e => (e, ρ)) = some (d, ρ') from e)
    · cases e
      obtain ⟨a, S, rfl, h1, h2⟩ := hM
      have hs : ∀ a, (P1 a ∧ ¬ S a) → P1 a := fun a h => h.1
      have hle : Le (hide H (All o P1)) (hide H (All o fun a => P1 a ∧ ¬ S a)) := hide_mono fun b u e n => ⟨e, fun q => n (q.elim (fun z => .inl z.1) .inr)⟩
      refine ⟨o, fun a => P1 a ∧ ¬ S a, hR.shrink hs, fun a h => ⟨hp a h, fun q => (h2 a q).2 h⟩, hs, Step.refl, h1.rep hn hle fun x u hx hu => hide_some.mpr ⟨hu, fun q => ?_⟩⟩
      rcases q with q | ⟨i, q⟩
      · exact q.2 hx
      · exact hR.dP i x q (h2 x hx).1
  | sl i =>
    have h : σ[i]? = some (some v) := hM
    have q := hR.slot i
    simp only [frz] at e
    cases hs : ρ[i]? with
    | none => rw [hs] at e; cases e
    | some s =>
      rw [hs] at e q
      cases s with
      | no => cases e
      | fz d' =>
        cases e
        obtain ⟨_, w, h2, h3⟩ := q
        rw [h] at h2; cases h2
        exact ⟨o, P1, hR, hp, fun _ h => h, Step.refl, h3⟩
      | ow d' =>
        simp only at e
        obtain ⟨d2, hn, e⟩ := Option.map_eq_some_iff.mp e
        · cases e
          obtain ⟨a, h2, h3⟩ := q
          rw [h] at h2; cases h2
          let o2 : Ownr := fun j => if j = i then fun _ => False else o j
          have o2s : ∀ j a, o2 j a → o j a := fun j a z => by
            by_cases hj : j = i
            · rw [show o2 j = _ from if_pos hj] at z; exact z.elim
            · rw [show o2 j = o j from if_neg hj] at z; exact z
          have o2n : ∀ j, j ≠ i → o2 j = o j := fun j hj => if_neg hj
          have o2i : o2 i = fun _ => False := if_pos rfl
          have hle : Le (hide H (All o P1)) (hide H (All o2 P1)) := hide_mono fun b u e n => ⟨e, fun q => n (q.elim .inl fun ⟨j, z⟩ => .inr ⟨j, o2s j b z⟩)⟩
          have hrep : Rep c (hide H (All o2 P1)) d (.ref a) := h3.rep hn hle fun x u hx hu => hide_some.mpr ⟨hu, fun q => by
            rcases q with q | ⟨j, q⟩
            · exact hR.dP i x hx q
            · have := hR.disj j i x (o2s j x q) hx
              subst this
              rw [o2i] at q
              exact q⟩
          refine ⟨o2, P1, ⟨by rw [List.length_set]; exact hR.len, fun j => ?_, fun j k a h1 h2 => hR.disj j k a (o2s j a h1) (o2s k a h2), fun j a h1 => hR.dP j a (o2s j a h1), hR.prot⟩, hp, fun _ h => h,
            ⟨fun _ _ h _ => h, fun j a h => .inl (o2s j a h), fun a u h => ⟨u, h⟩⟩, hrep⟩
          by_cases hj : j = i
          · subst hj
            rw [o2i, List.getElem?_set_self (List.getElem?_eq_some_iff.mp hs).1]
            exact ⟨fun _ z => z, _, h, hrep⟩
          · rw [o2n j hj, List.getElem?_set_ne (fun z => hj z.symm)]
            exact slotOk_mono hle (hR.slot j)
/-- a frozen value is handed on -/
def RepF : RR D V := fun c σ H o P P' d v => Rep c (hide H (All o P')) d v
theorem base_F : Base RepF := fun c σ H o P P1 P' a b hp h => h
def RepFs : RR (List D) (List V) := fun c σ H o P P' d v => Reps c (hide H (All o P')) d v
theorem base_Fs : Base RepFs := fun c σ H o P P1 P' a b hp h => h
theorem RepF.step (h : RepF c σ H o P P1 d v) (s : Step H o H' o') (g : Grow H P1 P2) : RepF c σ H' o' P P2 d v := Rep.mono (s.hide g.new) _ _ h
def frzS (f : Sem R) : Sem D := fun ρ => bnd (f ρ) fun r ρ1 => (frz ρ1 r).map fun p => (.val p.1, p.2)
abbrev tF (c : Cc) (W : WXX) (f : Sem D) : TE := tG c W RepF f
abbrev tFs (c : Cc) (W : WXX) (f : Sem (List D)) : TA := tG c W RepFs f
theorem frz_core {f : Sem R} {Q : VK} (h : tF c W (frzS f) σ H Q) : tE c W f σ H Q := by
  obtain ⟨ρ, o, P, hR, hP⟩ := h
  refine seq2 hR Grow.refl Step.refl hP fun r1 ρ1 v1 H1 o1 P1 R1 G1 S1 M1 hP1 => ?_
  cases e : frz ρ1 r1 with
  | none => rw [e] at hP1; exact hP1.elim
  | some p =>
    obtain ⟨d, ρ2⟩ := p
    rw [e] at hP1
    obtain ⟨o2, P2, R2, b1, b2, S2, M2⟩ := frz_ok R1 M1 G1.sub e
    exact hP1 v1 H1 o2 P2 R2 ⟨b1, fun a h => G1.new a (b2 a h)⟩ (S1.trans S2) M2
theorem fd_of {e : Expr} {f : Sem R} (h : PE X e (tE c W f)) : PE X e (tF c W (frzS f)) := pe_of h fun σ H Q q => frz_core q
def nilF : Sem (List D) := fun ρ => some (.val [], ρ)
def consF (f : Sem R) (g : Sem (List D)) : Sem (List D) := fun ρ => bnd (frzS f ρ) fun r ρ1 => bnd (g ρ1) fun rs ρ2 => some (.val (r :: rs), ρ2)
theorem af_nil : PA X [] (tFs c W nilF) := pa_of pa_nil (by
  rintro σ H Q ⟨ρ, o, P, hR, hP⟩
  exact hP [] H o P hR Grow.refl Step.refl Reps.nil)
theorem af_cons {e : Expr} {es : List Expr} {f : Sem R} {g : Sem (List D)} (ha : PE X e (tE c W f)) (hr : PA X es (tFs c W g)) (hs : starEach (e :: es) X.env = (false, eval e X.env) :: starEach es X.env := by rfl) : PA X (e :: es) (tFs c W (consF f g)) := by
  refine pa_of (pa_cons (fd_of ha) hr hs) ?_
  rintro σ H Q ⟨ρ, o, P, hR, hP⟩
  refine seq2 hR Grow.refl Step.refl hP fun r1 ρ1 v1 H1 o1 P1 R1 G1 S1 M1 hP1 => ?_
  refine seq2 R1 G1 S1 hP1 fun r2 ρ2 v2 H2 o2 P2 R2 G2 S2 M2 hP2 => ?_
  exact hP2 _ _ _ _ R2 (G1.trans S1 G2) (S1.trans S2) (.cons (RepF.step M1 S2 G2) M2)

/-! ### 14. displays -/
def tupS (g : Sem (List D)) : Sem R := fun ρ => bnd (g ρ) fun ds ρ1 => if ds.length ≤ 1000000 then some (.val (.fz (.tup ds)), ρ1) else none
def lstS (g : Sem (List D)) : Sem R := fun ρ => bnd (g ρ) fun ds ρ1 => if ds.length ≤ 1000000 then some (.val (.fr (.lst ds)), ρ1) else none
theorem pd_tup {es : List Expr} {x1} {pos : Pos} {g : Sem (List D)} (h : PA X es (tFs c W g)) : PE X (.Tuple es x1 pos) (tE c W (tupS g)) := by
  refine pe_of (pe_tup h) ?_
  rintro σ H Q ⟨ρ, o, P, hR, hP⟩
  refine seq1 base_R hR hP fun r1 ρ1 v1 H1 o1 P1 R1 G1 S1 M1 hP1 => ?_
  by_cases hl : r1.length ≤ 1000000
  · rw [if_pos hl] at hP1
    have M1 : Reps c (hide H1 (All o1 P1)) r1 v1 := M1
    exact ⟨m_le (M1.len ▸ hl), res_tup M1 fun v H' hr => hP1.res R1 hr⟩
  · rw [if_neg hl] at hP1; exact hP1.elim
theorem pd_lst {es : List Expr} {pos : Pos} {g : Sem (List D)} (h : PA X es (tFs c W g)) : PE X (.List es pos) (tE c W (lstS g)) := by
  refine pe_of (pe_lst h) ?_
  rintro σ H Q ⟨ρ, o, P, hR, hP⟩
  refine seq1 base_R hR hP fun r1 ρ1 v1 H1 o1 P1 R1 G1 S1 M1 hP1 => ?_
  by_cases hl : r1.length ≤ 1000000
  · rw [if_pos hl] at hP1
    have M1 : Reps c (hide H1 (All o1 P1)) r1 v1 := M1
    exact ⟨m_le (M1.len ▸ hl), res_lst M1 fun v H' hr => hP1.res R1 hr⟩
  · rw [if_neg hl] at hP1; exact hP1.elim
/-- a new dict, its kind told -/
def newDS (t : Bool) : Sem R := fun ρ => some (.val (.fr (.dic t [] [])), ρ)
theorem pd_newK {pos : Pos} : PE X (.Dict [] [] pos) (tE c W (newDS false)) := by
  refine pe_of pe_dnewK ?_
  rintro σ H Q ⟨ρ, o, P, hR, hP⟩
  exact fun p hp => hP.res hR ⟨p, _, rfl, hp, rfl, ⟨rfl, Reps.nil⟩, fun _ => nofun⟩
theorem pd_newT {pos : Pos} : PE X (.Dict [] [] pos) (tE c W (newDS true)) := by
  refine pe_of pe_dnewT ?_
  rintro σ H Q ⟨ρ, o, P, hR, hP⟩
  exact fun p hp => hP.res hR ⟨p, _, rfl, hp, rfl, ⟨rfl, Reps.nil⟩, fun _ => nofun⟩

/-! pairs of a display, keys ints and texts -/
abbrev RepPs : RR (List (D × D)) (List (V × V)) := fun c σ H o P P' ds vs => Reps c (hide H (All o P')) (ds.map (·.1)) (vs.map (·.1)) ∧ Reps c (hide H (All o P')) (ds.map (·.2)) (vs.map (·.2))
theorem base_Ps : Base RepPs := fun c σ H o P P1 P' a b hp h => h
def prsS : List (Sem R × Sem R) → Sem (List (D × D))
  | [] => fun ρ => some (.val [], ρ)
  | (f, g) :: r => fun ρ => bnd (frzS f ρ) fun k ρ1 => bnd (frzS g ρ1) fun x ρ2 => bnd (prsS r ρ2) fun rs ρ3 => some (.val ((k, x) :: rs), ρ3)
theorem prs_core : ∀ {trs : List (Sem R × Sem R)} {σ : St} {H : Hp} {Q : List (V × V) → Hp → Prop}, tG c W RepPs (prsS trs) σ H Q → tPairs (trs.map fun p => (tF c W (frzS p.1), tF c W (frzS p.2))) σ H Q
  | [], σ, H, Q, ⟨ρ, o, P, hR, hP⟩ => hP [] H o P hR Grow.refl Step.refl ⟨Reps.nil, Reps.nil⟩
  | (f, g) :: r, σ, H, Q, ⟨ρ, o, P, hR, hP⟩ => by
    refine seq2 hR Grow.refl Step.refl hP fun r1 ρ1 v1 H1 o1 P1 R1 G1 S1 M1 hP1 => ?_
    refine seq2 R1 G1 S1 hP1 fun r2 ρ2 v2 H2 o2 P2 R2 G2 S2 M2 hP2 => ?_
    refine prs_core (seq2 R2 (G1.trans S1 G2) (S1.trans S2) hP2 fun r3 ρ3 v3 H3 o3 P3 R3 G3 S3 M3 hP3 => ?_)
    have M1' : RepF c σ H3 o3 P P3 r1 v1 := RepF.step (P := P) (RepF.step M1 S2 G2) S3 G3
    have M2' : RepF c σ H3 o3 P P3 r2 v2 := RepF.step (P := P) M2 S3 G3
    exact hP3 _ _ _ _ R3 ((G1.trans S1 G2).trans (S1.trans S2) G3) ((S1.trans S2).trans S3) ⟨.cons M1' M3.1, .cons M2' M3.2⟩
def putsK (acc : List D × List D) : List (D × D) → List D × List D
  | [] => acc
  | (k, x) :: r => putsK (match kOf k with
    | some q => dput false acc.1 acc.2 (.k q) k x
    | none => acc) r
def keysOk (ds : List (D × D)) : Bool := ds.all fun p => (kOf p.1).isSome
def dispS (trs : List (Sem R × Sem R)) : Sem R := fun ρ => bnd (prsS trs ρ) fun ds ρ1 => if keysOk ds && decide (ds.length ≤ 15) then some (.val (.fr (.dic false (putsK ([], []) ds).1 (putsK ([], []) ds).2)), ρ1) else none
theorem kOf_V {k : Key} (h : Rep c G d v) (e : kOf d = some k) : v = kV k := by
  cases d <;> first | (cases e; done) | skip
  · cases e; unfold Rep at h; exact h
  · cases e; unfold Rep at h; exact h
theorem pairs_keys : ∀ {ds : List (D × D)} {ps : List (V × V)}, keysOk ds = true → Reps c G (ds.map (·.1)) (ps.map (·.1)) → Reps c G (ds.map (·.2)) (ps.map (·.2)) →
    ∃ kvs : List (Key × V), ps = kvs.map (fun kv => (kV kv.1, kv.2)) ∧ ds.map (·.1) = kvs.map (fun kv => kD kv.1) ∧ Reps c G (ds.map (·.2)) (kvs.map (·.2))
  | [], ps, _, h1, _ => by
    have : ps = [] := by
      have := Reps.nil_iff.mp h1
      simpa using this
    subst this
    exact ⟨[], rfl, rfl, Reps.nil⟩
  | (k, x) :: ds, ps, hk, h1, h2 => by
    obtain ⟨v, r, e1, a1, a2⟩ := h1.cons_inv
    cases ps with
    | nil => cases e1
    | cons p ps =>
      injection e1 with e2 e3
      obtain ⟨w, q, e4, b1, b2⟩ := h2.cons_inv
      injection e4 with e5 e6
      unfold keysOk at hk
      rw [List.all_cons, Bool.and_eq_true] at hk
      obtain ⟨key, ek⟩ := Option.isSome_iff_exists.mp hk.1
      obtain ⟨kvs, f1, f2, f3⟩ := pairs_keys (ds := ds) (ps := ps) hk.2 (e3 ▸ a2) (e6 ▸ b2)
      refine ⟨(key, p.2) :: kvs, ?_, ?_, ?_⟩
      · rw [List.map_cons, ← f1]
        have := kOf_V a1 ek
        rw [← e2] at this
        rw [← this]
      · rw [List.map_cons, List.map_cons, f2]
        show k :: _ = _
        rw [kD_kOf (show kOf k = some key from ek)]
      · rw [List.map_cons, List.map_cons]
        have e5 : p.2 = w := e5
        exact .cons (by subst e5; exact b1) f3
theorem puts_merge : ∀ {more kvs : List (Key × V)} {ds : List (D × D)} {vs : List D}, ds.map (·.1) = more.map (fun kv => kD kv.1) → Reps c G (ds.map (·.2)) (more.map (·.2)) → Reps c G vs (kvs.map (·.2)) →
    (putsK (kvs.map fun p => kD p.1, vs) ds).1 = (mergeK kvs more).map (fun p => kD p.1) ∧ Reps c G (putsK (kvs.map fun p => kD p.1, vs) ds).2 ((mergeK kvs more).map (·.2))
  | [], kvs, ds, vs, e, h, hv => by
    have : ds = [] := by simpa using e
    subst this
    exact ⟨rfl, hv⟩
  | p :: more, kvs, ds, vs, e, h, hv => by
    cases ds with
    | nil => cases e
    | cons q ds =>
      injection e with e1 e2
      obtain ⟨w, r, e4, b1, b2⟩ := h.cons_inv
      injection e4 with e5 e6
      have e5 : p.2 = w := e5
      have b1 : Rep c G q.2 p.2 := by subst e5; exact b1
      have b2 : Reps c G (ds.map (·.2)) (more.map (·.2)) := by subst e6; exact b2
      obtain ⟨x1, x2⟩ := dput_k p.1 hv b1
      obtain ⟨qk, qx⟩ := q
      have e1 : qk = kD p.1 := e1
      subst e1
      show (putsK (match kOf (kD p.1) with | some q => dput false (kvs.map fun p => kD p.1) vs (.k q) (kD p.1) qx | none => (kvs.map fun p => kD p.1, vs)) ds).1 = (mergeK (putK kvs p.1 p.2) more).map _ ∧ _
      have x3 : (match kOf (kD p.1) with | some q => dput false (kvs.map fun p => kD p.1) vs (.k q) (kD p.1) qx | none => (kvs.map fun p => kD p.1, vs)) = ((putK kvs p.1 p.2).map (fun p => kD p.1), (dput false (kvs.map fun p => kD p.1) vs (.k p.1) (kD p.1) qx).2) := by
        rw [kOf_kD]
        exact Prod.ext x1 rfl
      have y := puts_merge (kvs := putK kvs p.1 p.2) (ds := ds) e2 b2 x2
      refine ⟨by rw [x3]; exact y.1, ?_⟩
      show Reps c G (putsK (match kOf (kD p.1) with | some q => dput false (kvs.map fun p => kD p.1) vs (.k q) (kD p.1) qx | none => (kvs.map fun p => kD p.1, vs)) ds).2 _
      rw [x3]
      exact y.2
theorem pd_disp {pos : Pos} {keys : List (Option Expr)} {values : List Expr} {trs : List (Sem R × Sem R)} (h : PPs X pos keys values (trs.map fun p => (tF c W (frzS p.1), tF c W (frzS p.2)))) (hall : keys.all (·.isSome) = true) (hl : keys.length = values.length) (h0 : keys ≠ [])
    (h15 : keys.length ≤ 15) : PE X (.Dict keys values pos) (tE c W (dispS trs)) := by
  refine pe_of (pe_disp h hall hl h0 h15) ?_
  rintro σ H Q ⟨ρ, o, P, hR, hP⟩
  intro p hp
  obtain ⟨R0, le0, G0, S0⟩ := hR.lay (u := .dK []) hp (fun _ => nofun)
  refine prs_core (seq2 R0 G0 S0 hP fun r1 ρ1 v1 H1 o1 P1 R1 G1 S1 M1 hP1 => ?_)
  have keep : H1 p = some (.dK []) := S1.keep p _ upd_same fun i hi => R0.dP i p hi (.inr rfl)
  by_cases hc : (keysOk r1 && decide (r1.length ≤ 15)) = true
  · rw [if_pos hc] at hP1
    rw [Bool.and_eq_true, decide_eq_true_eq] at hc
    obtain ⟨kvs, f1, f2, f3⟩ := pairs_keys hc.1 M1.1 M1.2
    refine ⟨keep, kvs, f1, ?_, ?_⟩
    · have := congrArg List.length f2
      simp at this
      omega
    · obtain ⟨y1, y2⟩ := puts_merge (kvs := []) (vs := []) f2 f3 Reps.nil
      have pP1 : P1 p := G1.sub p (.inr rfl)
      -- the dict that stood empty is filled
      have hle : Le (hide H1 (All o1 P1)) (hide (upd H1 p (.dK (mergeK [] kvs))) (All o1 P1)) := hide_mono fun b u e n => ⟨by
        have : b ≠ p := fun z => n (.inl (z ▸ pP1))
        rw [upd_ne this]; exact e, n⟩
      have hR2 : Rel c σ (upd H1 p (.dK (mergeK [] kvs))) ρ1 o1 P1 := by
        refine ⟨R1.len, fun i => ?_, R1.disj, R1.dP, fun b z => ?_⟩
        · have q := R1.slot i
          unfold SlotOk at q ⊢
          split
          · rename_i es
            rw [es] at q
            obtain ⟨q1, v, q2, q3⟩ := q
            exact ⟨q1, v, q2, Rep.mono hle _ _ q3⟩
          · rename_i es
            rw [es] at q
            obtain ⟨b, q1, q2⟩ := q
            refine ⟨b, q1, q2.keep (fun x w hx hw => ?_) hle⟩
            have : x ≠ p := fun z => R1.dP i x hx (z ▸ pP1)
            rw [upd_ne this]; exact hw
          · rename_i n1 n2
            split at q
            · rename_i es; exact (n1 _ es).elim
            · rename_i es; exact (n2 _ es).elim
            · exact q
        · by_cases hb : b = p
          · rw [hb]; exact ⟨_, upd_same, fun _ => nofun⟩
          · obtain ⟨u, z1, z2⟩ := R1.prot b z
            exact ⟨u, by rw [upd_ne hb]; exact z1, z2⟩
      refine hP1 _ _ o1 P1 hR2 (G0.trans S0 G1) ?_ ⟨p, fun x => x = p, rfl, cell_own upd_same ⟨?_, Reps.mono hle _ _ y2⟩ (fun _ => nofun), fun x hx => ⟨hx ▸ pP1, fun q => ?_⟩⟩
      · have s1 := S0.trans S1
        refine ⟨fun b u hb hn => ?_, s1.news, fun b u hb => ?_⟩
        · have : b ≠ p := ne_of_none hb hp
          rw [upd_ne this]; exact s1.keep b u hb hn
        · have : b ≠ p := ne_of_none hb hp
          rw [upd_ne this]; exact s1.there b u hb
      · exact y1
      · obtain ⟨w, q1, _⟩ := hR.prot x q
        rw [hx, hp] at q1; cases q1
  · rw [if_neg hc] at hP1; exact hP1.elim

/-! ### 15. attributes -/
structure AttrOk (c : Cc) (X : Cx) (f : Str) (tab : Nat → Option Nat) : Prop where
  run : ∀ k j, tab k = some j → Cls X.K (c.cls k) ∧ NoAttr X.K (c.cls k) f ∧ (c.nms k)[j]? = some f ∧ ∀ i, i < j → (c.nms k)[i]? ≠ some f
def fldD (tab : Nat → Option Nat) : D → Option R
  | .obj k xs => (tab k).bind fun j => xs[j]?.map .fz
  | _ => none
theorem lookup_at {f : Str} : ∀ {fs : List (Str × V)} {j : Nat} {v : V}, (fs.map (·.1))[j]? = some f → (fs.map (·.2))[j]? = some v → (∀ i, i < j → (fs.map (·.1))[i]? ≠ some f) → fs.lookup f = some v
  | [], j, v, e, _, _ => by simp at e
  | p :: fs, 0, v, e, e2, _ => by
    simp at e e2
    obtain ⟨p1, p2⟩ := p
    simp at e e2
    subst e e2
    simp [List.lookup]
  | p :: fs, j + 1, v, e, e2, n => by
    obtain ⟨p1, p2⟩ := p
    have n0 : p1 ≠ f := fun z => n 0 (by omega) (by simp [z])
    have ih := lookup_at (fs := fs) (j := j) (v := v) (by simpa using e) (by simpa using e2) (fun i hi => by
      have := n (i + 1) (by omega)
      simpa using this)
    rw [List.lookup_cons]
    have : (f == p1) = false := by
      rw [beq_eq_false_iff_ne]
      exact fun z => n0 z.symm
    rw [this]
    exact ih
theorem rd_obj {k : Nat} {ds : List D} (h : RdV c H G (.obj k ds) v) : ∃ a dx fs, v = .ref a ∧ H a = some (.ins (c.cls k) dx fs) ∧ fs.map (·.1) = (c.nms k).take ds.length ∧ Reps c G ds (fs.map (·.2)) := by
  obtain ⟨a, u, rfl, h1, h2⟩ := h
  cases u <;> first | exact h2.elim | skip
  obtain ⟨e1, e2, e3⟩ := h2
  subst e1
  exact ⟨a, _, _, rfl, h1, e2, e3⟩
theorem fs_lookup {k j : Nat} {ds : List D} {fs : List (Str × V)} {f : Str} (h2 : fs.map (·.1) = (c.nms k).take ds.length) (h3 : Reps c G ds (fs.map (·.2))) (e1 : (c.nms k)[j]? = some f) (e2 : ∀ i, i < j → (c.nms k)[i]? ≠ some f) (e : ds[j]? = some d) : ∃ v, fs.lookup f = some v ∧ Rep c G d v := by
  obtain ⟨v, q1, q2⟩ := h3.get e
  have hj : j < ds.length := (List.getElem?_eq_some_iff.mp e).1
  refine ⟨v, lookup_at (j := j) ?_ q1 ?_, q2⟩
  · rw [h2, List.getElem?_take, if_pos hj]; exact e1
  · intro i hi
    rw [h2, List.getElem?_take, if_pos (by omega)]
    exact e2 i hi
def rFld (K : PySem.W.Frag) (f : Str) : V → Hp → VK → Prop := fun x H1 Q => ∃ a C dx fs v, x = .ref a ∧ H1 a = some (.ins C dx fs) ∧ Cls K C ∧ NoAttr K C f ∧ fs.lookup f = some v ∧ Q v H1
theorem o_fld {f : Str} {tab : Nat → Option Nat} (hA : AttrOk c X f tab) : UnD c (rFld X.K f) (fldD tab) := by
  intro H G d1 v1 r Q hl h1 hg hq
  cases d1 <;> first | (cases hg; done) | skip
  rename_i k ds
  cases e1 : tab k with
  | none => simp only [fldD, e1, Option.bind_none] at hg; cases hg
  | some j =>
    simp only [fldD, e1, Option.bind_some] at hg
    obtain ⟨d, e2, rfl⟩ := Option.map_eq_some_iff.mp hg
    obtain ⟨a1, a2, a3, a4⟩ := hA.run k j e1
    obtain ⟨a, dx, fs, rfl, h2, h3, h4⟩ := rd_obj h1
    obtain ⟨v, q1, q2⟩ := fs_lookup h3 h4 a3 a4 e2
    exact ⟨a, _, dx, fs, v, rfl, h2, a1, a2, q1, hq _ _ (.inl ⟨rfl, q2⟩)⟩
theorem pd_fld {e : Expr} {f : Str} {pos : Pos} {s : Sem R} {tab : Nat → Option Nat} (hA : AttrOk c X f tab) (he : PE X e (tE c W s)) (hb : attributeBase e f X.env (eval e X.env) = eval e X.env) : PE X (.Attribute e f pos) (tE c W (unS (fldD tab) s)) :=
  pe_of (pe_fld he hb) fun σ H Q h => un_core (r1 := rFld X.K f) (o_fld hA) Q h

/-! ### 16. chains, minus -/
def chnT (g g' : D → D → Option Bool) (f1 f2 f3 : Sem R) : Sem Bool := fun ρ => bnd (f1 ρ) fun r1 ρ1 => bnd (f2 ρ1) fun r2 ρ2 => bnd (cop2 g ρ2 r1 r2) fun k ρ3 => if k then bnd (f3 ρ3) fun r3 ρ4 => cop2 g' ρ4 r2 r3 else some (.val false, ρ3)
def bolS (t : Sem Bool) : Sem R := fun ρ => bnd (t ρ) fun b ρ1 => some (.val (.fz (.bl b)), ρ1)
theorem cop2_some {g : D → D → Option Bool} {r1 r2 : R} {Q : Bool → Hp → Prop} (h : Post c W RepB σ H o P (cop2 g ρ r1 r2) Q) : ∃ d1 d2 b, val ρ r1 = some d1 ∧ val ρ r2 = some d2 ∧ g d1 d2 = some b ∧ cop2 g ρ r1 r2 = some (.val b, ρ) := by
  unfold cop2 at h ⊢
  cases e1 : val ρ r1 with
  | none => rw [e1] at h; exact h.elim
  | some d1 =>
    cases e2 : val ρ r2 with
    | none => rw [e1, e2] at h; exact h.elim
    | some d2 =>
      rw [e1, e2] at h
      cases e3 : g d1 d2 with
      | none => simp only [Option.bind_some, e3, Option.map_none] at h; exact h.elim
      | some b => exact ⟨d1, d2, b, rfl, rfl, e3, by simp [e3]⟩
theorem chn_core {r r' : R2} {g g' : D → D → Option Bool} {f1 f2 f3 : Sem R} (hg : CmD c r g) (hg' : CmD c r' g') {Q : Bool → Hp → Prop} {Q2 : VK} (hq : ∀ b H', Q b H' → Q2 (.bl b) H') (h : tT c W (chnT g g' f1 f2 f3) σ H Q) : tChain r r' (tE c W f1) (tE c W f2) (tE c W f3) σ H Q2 := by
  obtain ⟨ρ, o, P, hR, hP⟩ := h
  refine seq1 base_B hR hP fun r1 ρ1 v1 H1 o1 P1 R1 G1 S1 M1 hP1 => ?_
  refine seq1 base_B R1 hP1 fun r2 ρ2 v2 H2 o2 P2 R2 G2 S2 M2 hP2 => ?_
  have M1' := M1.step R1 S2 G2
  have hx : ∃ d1 d2 b, val ρ2 r1 = some d1 ∧ val ρ2 r2 = some d2 ∧ g d1 d2 = some b ∧ cop2 g ρ2 r1 r2 = some (.val b, ρ2) := by
    unfold cop2 at hP2 ⊢
    cases e1 : val ρ2 r1 with
    | none => rw [e1] at hP2; exact hP2.elim
    | some d1 =>
      cases e2 : val ρ2 r2 with
      | none => rw [e1, e2] at hP2; exact hP2.elim
      | some d2 =>
        rw [e1, e2] at hP2
        cases e3 : g d1 d2 with
        | none => simp only [Option.bind_some, e3, Option.map_none] at hP2; exact hP2.elim
        | some b => exact ⟨d1, d2, b, rfl, rfl, e3, by simp [e3]⟩
  obtain ⟨d1, d2, b, e1, e2, e3, e4⟩ := hx
  rw [e4] at hP2
  refine hg H2 _ d1 d2 v1 v2 b _ R2.und (M1'.read R2 e1) (M2.read R2 e2) e3 ⟨b, rfl, ?_⟩
  cases b with
  | false => exact hq _ _ (hP2.b R2)
  | true =>
    refine seq1 base_B R2 (show Post c W RepB σ H2 o2 P2 (bnd (f3 ρ2) fun r3 ρ4 => cop2 g' ρ4 r2 r3) Q from hP2) fun r3 ρ3 v3 H3 o3 P3 R3 G3 S3 M3 hP3 => ?_
    have M2' := M2.step R2 S3 G3
    obtain ⟨d2', d3, b', f1, f2, f3, f4⟩ := cop2_some hP3
    rw [f4] at hP3
    exact hg' H3 _ d2' d3 v2 v3 b' _ R3.und (M2'.read R3 f1) (M3.read R3 f2) f3 (hq _ _ (hP3.b R3))
theorem td_chain {op op' : CmpOp} {r r' : R2} {g g' : D → D → Option Bool} {ea eb ec : Expr} {pos : Pos} {f1 f2 f3 : Sem R} (ho : OpR X (compareOp op) r) (ho' : OpR X (compareOp op') r') (hg : CmD c r g) (hg' : CmD c r' g') (ha : PE X ea (tE c W f1)) (hb : PE X eb (tE c W f2)) (hc : PE X ec (tE c W f3))
    (hm : lastMarks [op, op'] [eb, ec] = false := by with_unfolding_all rfl) : PT X (.Compare ea [op, op'] [eb, ec] pos) (tT c W (chnT g g' f1 f2 f3)) :=
  pt_of (pt_chain ho ho' ha hb hc hm) fun σ H Q h => chn_core hg hg' (fun b H' q => ⟨b, rfl, q⟩) h
theorem pd_chain {op op' : CmpOp} {r r' : R2} {g g' : D → D → Option Bool} {ea eb ec : Expr} {pos : Pos} {f1 f2 f3 : Sem R} (ho : OpR X (compareOp op) r) (ho' : OpR X (compareOp op') r') (hg : CmD c r g) (hg' : CmD c r' g') (ha : PE X ea (tE c W f1)) (hb : PE X eb (tE c W f2)) (hc : PE X ec (tE c W f3))
    (hm : lastMarks [op, op'] [eb, ec] = false := by with_unfolding_all rfl) : PE X (.Compare ea [op, op'] [eb, ec] pos) (tE c W (bolS (chnT g g' f1 f2 f3))) := by
  refine pe_of (pe_chain ho ho' ha hb hc hm) ?_
  rintro σ H Q ⟨ρ, o, P, hR, hP⟩
  refine chn_core hg hg' (Q := fun b H' => Q (.bl b) H') (fun b H' q => q) (seq1 base_R hR hP fun b ρ1 v1 H1 o1 P1 R1 G1 S1 M1 hP1 => ?_)
  have e : b = v1 := M1
  subst e
  exact hP1.res R1 (.inl ⟨rfl, by unfold Rep; rfl⟩)
end
end Ly
set_option Elab.async false
set_option linter.all false
set_option maxRecDepth 100000
set_option maxHeartbeats 1000000
namespace Ly
open PySem L2

/-! ### 17. calls of built-ins -/
def CalD (c : Cc) (r : List V → Hp → VK → Prop) (g : List D → Option R) : Prop := ∀ (H G : Hp) (ds : List D) (vs : List V) (res : R) (Q : VK), Und G H → All2 (RdV c H G) ds vs → g ds = some res → (∀ v H', RepRes c H G res v H' → Q v H') → r vs H Q
def valsR (ρ : Env) : List R → Option (List D)
  | [] => some []
  | r :: rs => (val ρ r).bind fun d => (valsR ρ rs).map fun ds => d :: ds
def calR (g : List D → Option R) (ρ : Env) (rs : List R) : Option (Out R × Env) := (valsR ρ rs).bind fun ds => (g ds).map fun r => (.val r, ρ)
def calS (g : List D → Option R) (a : Sem (List R)) : Sem R := fun ρ => bnd (a ρ) fun rs ρ1 => calR g ρ1 rs
section
variable {c : Cc} {W : WXX} {X : Cx} {σ : St} {H H1 H' G G' : Hp} {ρ ρ1 ρ' : Env} {o o1 o' : Ownr} {P P1 P2 P' : Prot} {d d1 d2 : D} {v v1 v2 : V} {a : Addr}
theorem RepL.read (hR : Rel c σ H ρ o P') : ∀ {rs : List R} {vs : List V} {ds : List D}, RepL c σ H o P P' rs vs → valsR ρ rs = some ds → All2 (RdV c H (hide H (All o P'))) ds vs
  | _, _, _, .nil, e => by cases e; exact .nil
  | r :: rs, v :: vs, ds, .cons h t, e => by
    have e : (val ρ r).bind (fun d => (valsR ρ rs).map fun ds => d :: ds) = some ds := e
    cases e1 : val ρ r with
    | none => rw [e1] at e; cases e
    | some d =>
      rw [e1] at e
      obtain ⟨es, e2, rfl⟩ := Option.map_eq_some_iff.mp (show (valsR ρ rs).map (fun ds => d :: ds) = some ds from e)
      exact .cons (h.read hR e1) (RepL.read hR t e2)
theorem cal_fin {r : List V → Hp → VK → Prop} {g : List D → Option R} {rs : List R} {vs : List V} {Q : VK} (hg : CalD c r g) (R1 : Rel c σ H1 ρ1 o1 P1) (M1 : RepL c σ H1 o1 P P1 rs vs) (hP1 : Post c W RepR σ H1 o1 P1 (calR g ρ1 rs) Q) : r vs H1 Q := by
  unfold calR at hP1
  cases e1 : valsR ρ1 rs with
  | none => rw [e1] at hP1; exact hP1.elim
  | some ds =>
    cases e2 : g ds with
    | none => simp only [e1, Option.bind_some, e2, Option.map_none] at hP1; exact hP1.elim
    | some z =>
      simp only [e1, Option.bind_some, e2, Option.map_some] at hP1
      exact hg H1 _ ds _ z Q R1.und (RepL.read R1 M1 e1) e2 fun v H' hr => hP1.res R1 hr
theorem cal_core {r : List V → Hp → VK → Prop} {g : List D → Option R} {f : Sem (List R)} {Q : VK} (hg : CalD c r g) (h : tE c W (calS g f) σ H Q) : tCB r (tA c W f) σ H Q := by
  obtain ⟨ρ, o, P, hR, hP⟩ := h
  exact seq1 base_R hR hP fun rs ρ1 vs H1 o1 P1 R1 G1 S1 M1 hP1 => cal_fin hg R1 M1 hP1
theorem pd_callB {id : String} {x : Str} {e : Expr} {es : List Expr} {p pos : Pos} {r : List V → Hp → VK → Prop} {g : List D → Option R} {t : Sem (List R)} (hc : CallR X (.builtin id) r) (hgd : CalD c r g) (hg : Gl X x) (hm : X.mg x = none) (hv : bootBuiltins x = some (.builtin id)) (ha : PA X (e :: es) (tA c W t)) (hn : x ≠ "__name__" := by decide +kernel) (hdb : (x == ("__debug__" : Str)) = false := by decide +kernel)
    (he : starEach (e :: es) X.env = (false, eval e X.env) :: starEach es X.env := by rfl) (hpl : (backTo pos (starEach es X.env)).any (·.1) = false := by rfl) : PE X (.Call (.Name x p) (e :: es) [] pos) (tE c W (calS g t)) :=
  pe_of (pe_callB hc hg hm hv ha hn hdb he hpl) fun σ H Q h => cal_core hgd h
theorem pd_callTy {T : String} {x : Str} {e : Expr} {es : List Expr} {p pos : Pos} {r : List V → Hp → VK → Prop} {g : List D → Option R} {t : Sem (List R)} (hc : CallR X (.type T) r) (hgd : CalD c r g) (hg : Gl X x) (hm : X.mg x = none) (hv : bootBuiltins x = some (.type T)) (ha : PA X (e :: es) (tA c W t)) (hn : x ≠ "__name__" := by decide +kernel) (hdb : (x == ("__debug__" : Str)) = false := by decide +kernel)
    (he : starEach (e :: es) X.env = (false, eval e X.env) :: starEach es X.env := by rfl) (hpl : (backTo pos (starEach es X.env)).any (·.1) = false := by rfl) : PE X (.Call (.Name x p) (e :: es) [] pos) (tE c W (calS g t)) :=
  pe_of (pe_callTy hc hg hm hv ha hn hdb he hpl) fun σ H Q h => cal_core hgd h
theorem All2.one {α β : Type} {r : α → β → Prop} {a : α} {bs : List β} (h : All2 r [a] bs) : ∃ b, bs = [b] ∧ r a b := by
  cases h with
  | cons h t => cases t; exact ⟨_, rfl, h⟩
theorem All2.two {α β : Type} {r : α → β → Prop} {a a' : α} {bs : List β} (h : All2 r [a, a'] bs) : ∃ b b', bs = [b, b'] ∧ r a b ∧ r a' b' := by
  cases h with
  | cons h t =>
    obtain ⟨b, rfl, h2⟩ := t.one
    exact ⟨_, _, rfl, h, h2⟩

def one (g : D → Option R) : List D → Option R
  | [d] => g d
  | _ => none
theorem CalD.one {r : List V → Hp → VK → Prop} {g : D → Option R} (k : ∀ (H G : Hp) (d : D) (v : V) (res : R) (Q : VK), Und G H → RdV c H G d v → g d = some res → (∀ v H', RepRes c H G res v H' → Q v H') → r [v] H Q) : CalD c r (one g) := by
  intro H G ds vs res Q hl h hg hq
  match ds, hg with
  | [], hg => cases hg
  | [d], hg =>
    obtain ⟨v, rfl, h1⟩ := h.one
    exact k H G d v res Q hl h1 hg hq
  | _ :: _ :: _, hg => cases hg

/-! len -/
def len1 : D → Option R
  | .str s => if s.length ≤ 1000000 then some (.fz (.int s.length)) else none
  | .lst xs => some (.fz (.int xs.length))
  | .tup xs => some (.fz (.int xs.length))
  | .dic _ ks _ => some (.fz (.int ks.length))
  | .scr ns => some (.fz (.int ns.length))
  | _ => none
def lenD : List D → Option R := one len1
def rLenA (K : PySem.W.Frag) : List V → Hp → VK → Prop := fun xs H Q => (∃ x n, xs = [x] ∧ LenV K x H n ∧ Q (.int n) H) ∨ (∃ a kvs, xs = [V.ref a] ∧ Rd H a (.dK kvs) ∧ Q (.int (kvs.length : Nat)) H) ∨ ∃ a kvs, xs = [V.ref a] ∧ Rd H a (.dT kvs) ∧ Q (.int (kvs.length : Nat)) H
theorem call_lenA : CallR X (.builtin "len") (rLenA X.K) := by
  refine CallR.or call_len (CallR.or ?_ ?_)
  · intro pins s σ H xs us Q I r h
    obtain ⟨a, kvs, rfl, ha, q⟩ := h
    obtain ⟨u, rfl, ru⟩ := vals1 r
    cases ru
    exact d_len I ha fun t s' I' => ⟨.int kvs.length, H, I', ⟨t, rfl⟩, q⟩
  · intro pins s σ H xs us Q I r h
    obtain ⟨a, kvs, rfl, ha, q⟩ := h
    obtain ⟨u, rfl, ru⟩ := vals1 r
    cases ru
    obtain ⟨z, hd, ys, rel, dd⟩ := dt_rd I.hok ha
    have hl : kvs.length = ys.length := Paired.length rel
    refine call_len_dictH (knd := tupleKind (mixKind X.prog X.w)) hd dd (by rw [← hl]; rw [sizeLine_eq] at z; omega) ?_
    rw [← hl]
    exact ⟨.int ((kvs.length : Nat) : Int), H, I.tok _, ⟨_, rfl⟩, q⟩
theorem k_len : CalD c (rLenA c.K) lenD := by
  refine CalD.one fun H G d v res Q hl h1 hg hq => ?_
  cases d with
  | str s =>
    replace hg : (if s.length ≤ 1000000 then some (R.fz (.int s.length)) else none) = some res := hg
    by_cases hs : s.length ≤ 1000000
    · rw [if_pos hs] at hg; cases hg
      cases (show v = .str _ from h1)
      exact .inl ⟨_, s.length, rfl, ⟨by rw [str_len]; exact m_le hs, by rw [str_len]⟩, res_atom (d := .int s.length) rfl hq⟩
    · rw [if_neg hs] at hg; cases hg
  | lst xs =>
    cases hg
    obtain ⟨a, ys, rfl, h2, h3⟩ := rd_lst h1
    exact .inl ⟨_, xs.length, rfl, .inl ⟨ys, .inl (.inl h2), h3.len⟩, res_atom (d := .int xs.length) rfl hq⟩
  | tup xs =>
    cases hg
    obtain ⟨a, ys, rfl, h2, h3⟩ := rd_tup h1
    exact .inl ⟨_, xs.length, rfl, .inr ⟨ys, .inl (.inl h2), h3.len⟩, res_atom (d := .int xs.length) rfl hq⟩
  | dic t ks ws =>
    cases hg
    cases t with
    | false =>
      obtain ⟨a, kvs, rfl, h2, rfl, h3⟩ := rd_dicK h1
      exact .inr (.inl ⟨a, kvs, rfl, h2, res_atom (d := .int kvs.length) rfl (by simpa using hq)⟩)
    | true =>
      obtain ⟨a, kvs, rfl, h2, rfl, h3⟩ := rd_dicT h1
      exact .inr (.inr ⟨a, kvs, rfl, h2, res_atom (d := .int kvs.length) rfl (by simpa using hq)⟩)
  | scr ns =>
    cases hg
    obtain ⟨a, rfl, h2⟩ := h1
    exact .inl ⟨_, ns.length, rfl, .inl ⟨_, h2, by simp⟩, res_atom (d := .int ns.length) rfl hq⟩
  | _ => cases hg

/-! int, abs -/
def int1 : D → Option R
  | .int i => some (.fz (.int i))
  | .bl k => some (.fz (.int (if k then 1 else 0)))
  | _ => none
def intD : List D → Option R := one int1
def abs1 : D → Option R
  | .int i => some (.fz (.int (if i < 0 then -i else i)))
  | _ => none
def absD : List D → Option R := one abs1
theorem k_int : CalD c (fun xs H Q => (∃ i, xs = [.int i] ∧ Q (.int i) H) ∨ ∃ k, xs = [.bl k] ∧ Q (.int (if k then 1 else 0)) H) intD := by
  refine CalD.one fun H G d v res Q hl h1 hg hq => ?_
  cases d <;> first | (cases hg; done) | skip
  · rename_i i
    cases hg
    cases (show v = .bl _ from h1)
    exact .inr ⟨i, rfl, res_atom (d := .int _) rfl hq⟩
  · rename_i i
    cases hg
    cases (show v = .int _ from h1)
    exact .inl ⟨i, rfl, res_atom (d := .int i) rfl hq⟩
theorem k_abs : CalD c (fun xs H Q => ∃ i, xs = [.int i] ∧ Q (.int (if i < 0 then -i else i)) H) absD := by
  refine CalD.one fun H G d v res Q hl h1 hg hq => ?_
  cases d <;> first | (cases hg; done) | skip
  · rename_i i
    cases hg
    cases (show v = .int _ from h1)
    exact ⟨i, rfl, res_atom (d := .int _) rfl hq⟩

/-! sum, any, all: of a list -/
def intsD : List D → Option (List Int)
  | [] => some []
  | .int i :: r => (intsD r).map fun is => i :: is
  | _ => none
def blsD : List D → Option (List Bool)
  | [] => some []
  | .bl i :: r => (blsD r).map fun is => i :: is
  | _ => none
theorem reps_ints : ∀ {ds : List D} {is : List Int} {vs : List V}, intsD ds = some is → Reps c G ds vs → vs = is.map V.int
  | [], is, vs, e, h => by cases e; exact Reps.nil_iff.mp h
  | d :: ds, is, vs, e, h => by
    cases d <;> first | (cases e; done) | skip
    rename_i i
    obtain ⟨js, e2, rfl⟩ := Option.map_eq_some_iff.mp (show (intsD ds).map (fun is => i :: is) = some is from e)
    obtain ⟨v, r, rfl, h1, h2⟩ := h.cons_inv
    rw [reps_ints e2 h2]
    unfold Rep at h1
    rw [h1]
    rfl
theorem reps_bls : ∀ {ds : List D} {is : List Bool} {vs : List V}, blsD ds = some is → Reps c G ds vs → vs = is.map V.bl
  | [], is, vs, e, h => by cases e; exact Reps.nil_iff.mp h
  | d :: ds, is, vs, e, h => by
    cases d <;> first | (cases e; done) | skip
    rename_i i
    obtain ⟨js, e2, rfl⟩ := Option.map_eq_some_iff.mp (show (blsD ds).map (fun is => i :: is) = some is from e)
    obtain ⟨v, r, rfl, h1, h2⟩ := h.cons_inv
    rw [reps_bls e2 h2]
    unfold Rep at h1
    rw [h1]
    rfl
def sum1 : D → Option R
  | .lst xs => (intsD xs).map fun is => .fz (.int is.sum)
  | _ => none
def sumD : List D → Option R := one sum1
def any1 : D → Option R
  | .lst xs => (blsD xs).map fun is => .fz (.bl (is.any id))
  | _ => none
def anyD : List D → Option R := one any1
def all1 : D → Option R
  | .lst xs => (blsD xs).map fun is => .fz (.bl (is.all id))
  | _ => none
def allD : List D → Option R := one all1
theorem k_sum : CalD c (rSum c.K) sumD := by
  refine CalD.one fun H G d v res Q hl h1 hg hq => ?_
  cases d <;> first | (cases hg; done) | skip
  · rename_i xs
    obtain ⟨is, e, rfl⟩ := Option.map_eq_some_iff.mp (show (intsD xs).map (fun is => R.fz (.int is.sum)) = some res from hg)
    obtain ⟨a, ys, rfl, h2, h3⟩ := rd_lst h1
    rw [reps_ints e h3] at h2
    exact ⟨a, is, rfl, .inl (.inl h2), res_atom (d := .int _) rfl hq⟩
theorem k_any : CalD c (rAny c.K) anyD := by
  refine CalD.one fun H G d v res Q hl h1 hg hq => ?_
  cases d <;> first | (cases hg; done) | skip
  · rename_i xs
    obtain ⟨is, e, rfl⟩ := Option.map_eq_some_iff.mp (show (blsD xs).map (fun is => R.fz (.bl (is.any id))) = some res from hg)
    obtain ⟨a, ys, rfl, h2, h3⟩ := rd_lst h1
    rw [reps_bls e h3] at h2
    exact ⟨a, is, rfl, .inl (.inl h2), res_atom (d := .bl _) rfl hq⟩
theorem k_all : CalD c (rAll c.K) allD := by
  refine CalD.one fun H G d v res Q hl h1 hg hq => ?_
  cases d <;> first | (cases hg; done) | skip
  · rename_i xs
    obtain ⟨is, e, rfl⟩ := Option.map_eq_some_iff.mp (show (blsD xs).map (fun is => R.fz (.bl (is.all id))) = some res from hg)
    obtain ⟨a, ys, rfl, h2, h3⟩ := rd_lst h1
    rw [reps_bls e h3] at h2
    exact ⟨a, is, rfl, .inl (.inl h2), res_atom (d := .bl _) rfl hq⟩

/-! tuple, list -/
def tuple1 : D → Option R
  | .lst xs => some (.fz (.tup xs))
  | .tup xs => some (.fz (.tup xs))
  | _ => none
def tupleD : List D → Option R := one tuple1
def list1 : D → Option R
  | .lst xs => some (.fr (.lst xs))
  | .tup xs => some (.fr (.lst xs))
  | .dic false ks _ => some (.fr (.lst ks))
  | .scr ns => some (.fr (.lst (ns.map .int)))
  | _ => none
def listD : List D → Option R := one list1
theorem k_tuple : CalD c (fun xs H Q => ∃ p ys, xs = [.ref p] ∧ ((SqL c.K H p ys ∧ ∀ l, H l = none → Q (.ref l) (upd H l (.tup ys))) ∨ (SqT c.K H p ys ∧ Q (.ref p) H))) tupleD := by
  refine CalD.one fun H G d v res Q hl h1 hg hq => ?_
  cases d <;> first | (cases hg; done) | skip
  · rename_i xs
    cases hg
    obtain ⟨a, ys, rfl, h2, h3⟩ := rd_tup h1
    refine ⟨a, ys, rfl, .inr ⟨.inl (.inl h2), hq _ _ (.inl ⟨rfl, ?_⟩)⟩⟩
    unfold Rep
    exact ⟨a, ys, rfl, hl.tup _ _ h2, h3⟩
  · rename_i xs
    cases hg
    obtain ⟨a, ys, rfl, h2, h3⟩ := rd_lst h1
    exact ⟨a, ys, rfl, .inl ⟨.inl (.inl h2), res_tup h3 hq⟩⟩
theorem reps_kD : ∀ (ks : List Key), Reps c G (ks.map kD) (ks.map kV)
  | [] => Reps.nil
  | k :: ks => .cons (by cases k <;> (unfold kD Rep; rfl)) (reps_kD ks)
def rListA (K : PySem.W.Frag) : List V → Hp → VK → Prop := fun xs H Q => (∃ p ys, xs = [.ref p] ∧ (SqL K H p ys ∨ SqT K H p ys) ∧ ∀ l, H l = none → Q (.ref l) (upd H l (.lst ys))) ∨
  (∃ (a : Addr) (kvs : List (Key × V)), xs = [.ref a] ∧ Rd H a (.dK kvs) ∧ ∀ p, H p = none → Q (.ref p) (upd H p (.lst (kvs.map fun kv => kV kv.1))))
theorem call_listA (hc : X.calm = true) : CallR X (.type "list") (rListA X.K) := CallR.or call_list_of (call_listD hc)
theorem k_list : CalD c (rListA c.K) listD := by
  refine CalD.one fun H G d v res Q hl h1 hg hq => ?_
  cases d <;> first | (cases hg; done) | skip
  · rename_i xs
    cases hg
    obtain ⟨a, ys, rfl, h2, h3⟩ := rd_tup h1
    exact .inl ⟨a, ys, rfl, .inr (.inl (.inl h2)), res_lst h3 hq⟩
  · rename_i xs
    cases hg
    obtain ⟨a, ys, rfl, h2, h3⟩ := rd_lst h1
    exact .inl ⟨a, ys, rfl, .inl (.inl (.inl h2)), res_lst h3 hq⟩
  · rename_i t ks ws
    cases t with
    | true => cases hg
    | false =>
      cases hg
      obtain ⟨a, kvs, rfl, h2, rfl, h3⟩ := rd_dicK h1
      refine .inr ⟨a, kvs, rfl, h2, res_lst ?_ hq⟩
      have := reps_kD (c := c) (G := G) (kvs.map (·.1))
      rw [List.map_map, List.map_map] at this
      exact this
  · rename_i ns
    cases hg
    obtain ⟨a, rfl, h2⟩ := h1
    exact .inl ⟨a, _, rfl, .inl h2, res_lst (reps_int ns) hq⟩
/-! sorted, min, max: of a list of data -/
def py (d : D) : PyData := (toPy d).getD .none
theorem toPys_map : ∀ {ds : List D} {ps : List PyData}, toPys ds = some ps → ps = ds.map py ∧ ∀ d ∈ ds, toPy d = some (py d)
  | [], ps, e => by
    unfold toPys at e
    cases e
    exact ⟨rfl, nofun⟩
  | d :: ds, ps, e => by
    unfold toPys at e
    cases e1 : toPy d with
    | none => rw [e1] at e; cases e
    | some p =>
      rw [e1] at e
      obtain ⟨qs, e2, rfl⟩ := Option.map_eq_some_iff.mp (show (toPys ds).map (fun ps => p :: ps) = some ps from e)
      obtain ⟨h1, h2⟩ := toPys_map e2
      have e3 : py d = p := by unfold py; rw [e1]; rfl
      refine ⟨by rw [List.map_cons, ← h1, e3], fun x hx => ?_⟩
      rcases List.mem_cons.mp hx with rfl | hx
      · rw [e3]; exact e1
      · exact h2 x hx
def isTup1 : PyData → Bool
  | .tuple (_ :: _) => true
  | _ => false
def noTup : PyData → Bool
  | .tuple _ => false
  | .none => false
  | _ => true
def sortOk (ps : List PyData) : Bool := ps.all (fun p => ps.all fun q => PySem.W.alike p q) && (ps.all isTup1 || ps.all noTup) && ps.all (fun p => decide (p.depth ≤ 60))
theorem sortOk_iff {ps : List PyData} (h : sortOk ps = true) : PySem.W.AllAlike ps ∧ PySem.W.Sortable ps ∧ ∀ p ∈ ps, p.depth ≤ 60 := by
  unfold sortOk at h
  rw [Bool.and_eq_true, Bool.and_eq_true, Bool.or_eq_true] at h
  obtain ⟨⟨h1, h2⟩, h3⟩ := h
  refine ⟨fun d hd d' hd' => List.all_eq_true.mp (List.all_eq_true.mp h1 d hd) d' hd', ?_, fun p hp => of_decide_eq_true (List.all_eq_true.mp h3 p hp)⟩
  rcases h2 with h2 | h2
  · refine .inl fun d hd => ?_
    have := List.all_eq_true.mp h2 d hd
    cases d <;> first | (cases this; done) | skip
    rename_i xs
    cases xs with
    | nil => cases this
    | cons x r => exact ⟨x, r, rfl⟩
  · refine .inr fun d hd => ?_
    have := List.all_eq_true.mp h2 d hd
    exact ⟨fun e => (by subst e; cases this), fun xs e => (by subst e; cases this)⟩
def leD (a b : D) : Bool := !PySem.W.dataLt (py b) (py a)
def sortedL (xs : List D) : Option R := (toPys xs).bind fun ps => if sortOk ps && decide (xs.length ≤ 1000000) then some (.fr (.lst (xs.mergeSort leD))) else none
def sorted1 : D → Option R
  | .lst xs => sortedL xs
  | _ => none
def sortedD : List D → Option R := one sorted1
def rSortedA (c : Cc) : List V → Hp → VK → Prop := fun vs H Q => ∃ (a : Addr) (xs : List (V × PyData)), vs = [V.ref a] ∧ SqL c.K H a (xs.map (·.1)) ∧ DpAll c.K H (xs.map (·.1)) (xs.map (·.2)) ∧ sortOk (xs.map (·.2)) = true ∧ xs.length ≤ 1000000 ∧
  ∀ p, H p = none → Q (.ref p) (upd H p (.lst ((xs.mergeSort fun a b => !PySem.W.dataLt b.2 a.2).map (·.1))))
theorem each_vals : ∀ {xs : List (V × PyData)} {us : List Value}, Vals (xs.map (·.1)) us → PySem.W.EachIs (fun u (p : V × PyData) => RelV p.1 u) us xs
  | [], _, .nil => .nil
  | _ :: _, _, .cons r t => .cons r (each_vals t)
theorem vals_each : ∀ {xs : List (V × PyData)} {us : List Value}, PySem.W.EachIs (fun u (p : V × PyData) => RelV p.1 u) us xs → Vals (xs.map (·.1)) us
  | [], _, .nil => .nil
  | _ :: _, _, .cons r t => .cons r (vals_each t)
theorem dpAll_at : ∀ {vs : List V} {ps : List PyData}, DpAll c.K H vs ps → vs.length = ps.length
  | _, _, .nil => rfl
  | _, _, .cons _ t => by simp [dpAll_at t]
theorem each_reads {pins : List (Addr × Obj)} {s : Shared} (I : Inv X pins σ H s) : ∀ {xs : List (V × PyData)} {us : List Value}, DpAll X.K H (xs.map (·.1)) (xs.map (·.2)) → Vals (xs.map (·.1)) us → PySem.W.EachIs (fun u (p : V × PyData) => ∃ as, Reads s.heap u p.2 as) us xs
  | [], _, _, .nil => .nil
  | x :: xs, _, .cons h1 h2, .cons r t => .cons (Dp.reads I _ _ _ h1 r) (each_reads I h2 t)
theorem call_sortedA (hu : X.A.units + 150 < cLine) (hK : c.K = X.K) : CallR X (.builtin "sorted") (rSortedA c) := by
  intro pins s σ H vs us Q I r h
  obtain ⟨a, xs, rfl, hs, hd, hok, hlen, q⟩ := h
  rw [hK] at hs hd
  obtain ⟨its, rv, hl, hz⟩ := I.list hs
  rw [Vals.ref1 r]
  obtain ⟨k1, k2, k3⟩ := sortOk_iff hok
  have hzz : xs.length ≤ sizeLine := m_le hlen
  refine PySem.W.sorted_data (vs := its) (bs := xs) (enc := (·.2)) (R := fun u (p : V × PyData) => RelV p.1 u) hl.isList (each_vals rv) (each_reads I hd rv) k1 k2 hzz (fun b hb => ?_) fun out h1 h2 => ?_
  · have := k3 b.2 (List.mem_map.mpr ⟨b, hb, rfl⟩)
    omega
  · obtain ⟨ep, he'⟩ := PyProof.Rows.sortedAll_at s.heap its out.toArray
    have e3 : (xs.mergeSort (PySem.W.dataLe false (·.2))) = xs.mergeSort fun a b => !PySem.W.dataLt b.2 a.2 := by
      rw [PySem.W.dataLe_eq]; rfl
    rw [e3] at h2
    have hv := vals_each h2
    refine ⟨.ref _, upd H (s.heap.objs.size + 1) (.lst ((xs.mergeSort fun a b => !PySem.W.dataLt b.2 a.2).map (·.1))), I.laid (t' := s.toks) (fun _ _ => PyProof.Rows.sortedAll_old) (Nat.le_succ _) ⟨?_, out, ep, hv, he'⟩, rfl, q _ (I.hok.fresh (Nat.le_succ _))⟩
    rw [List.length_map, List.length_mergeSort]
    exact hzz
theorem zip_reps : ∀ {xs : List D} {ys : List V}, Reps c G xs ys → (xs.zip ys).map (·.1) = xs ∧ (xs.zip ys).map (·.2) = ys ∧ ∀ p ∈ xs.zip ys, Rep c G p.1 p.2
  | [], ys, h => by cases Reps.nil_iff.mp h; exact ⟨rfl, rfl, nofun⟩
  | x :: xs, ys, h => by
    obtain ⟨v, r, rfl, h1, h2⟩ := h.cons_inv
    obtain ⟨a, b, d⟩ := zip_reps h2
    refine ⟨by rw [List.zip_cons_cons, List.map_cons, a], by rw [List.zip_cons_cons, List.map_cons, b], fun p hp => ?_⟩
    rw [List.zip_cons_cons] at hp
    rcases List.mem_cons.mp hp with rfl | hp
    · exact h1
    · exact d p hp
theorem reps_zip : ∀ {xs : List (D × V)}, (∀ p ∈ xs, Rep c G p.1 p.2) → Reps c G (xs.map (·.1)) (xs.map (·.2))
  | [], _ => Reps.nil
  | x :: xs, h => .cons (h x (.head _)) (reps_zip fun p hp => h p (.tail _ hp))
theorem k_sorted : CalD c (rSortedA c) sortedD := by
  refine CalD.one fun H G d v res Q hl h1 hg hq => ?_
  cases d <;> first | (cases hg; done) | skip
  · rename_i xs
    have hg : (toPys xs).bind (fun ps => if sortOk ps && decide (xs.length ≤ 1000000) then some (R.fr (.lst (xs.mergeSort leD))) else none) = some res := hg
    cases e : toPys xs with
    | none => rw [e] at hg; cases hg
    | some ps =>
      rw [e] at hg
      have hg : (if sortOk ps && decide (xs.length ≤ 1000000) then some (R.fr (.lst (xs.mergeSort leD))) else none) = some res := hg
      by_cases hc : (sortOk ps && decide (xs.length ≤ 1000000)) = true
      · rw [if_pos hc] at hg; cases hg
        rw [Bool.and_eq_true, decide_eq_true_eq] at hc
        obtain ⟨a, ys, rfl, h2, h3⟩ := rd_lst h1
        obtain ⟨e1, _⟩ := toPys_map e
        obtain ⟨z1, z2, z3⟩ := zip_reps h3
        have hdp : DpAll c.K H ys ps := (Reps.dp xs ys ps (Reps.mono hl.le _ _ h3) e)
        have m1 : ((xs.zip ys).map fun p => (p.2, py p.1)).map (·.1) = ys := by rw [List.map_map]; exact z2
        have m2 : ((xs.zip ys).map fun p => (p.2, py p.1)).map (·.2) = ps := by
          rw [List.map_map]
          show (xs.zip ys).map (fun p => py p.1) = ps
          rw [e1]
          conv => rhs; rw [← z1, List.map_map]
          rfl
        refine ⟨a, (xs.zip ys).map fun p => (p.2, py p.1), rfl, .inl (.inl (by rw [m1]; exact h2)), by rw [m1, m2]; exact hdp, by rw [m2]; exact hc.1, ?_, ?_⟩
        · have := congrArg List.length m2
          have e4 := congrArg List.length e1
          simp only [List.length_map] at this e4 ⊢
          omega
        · have s1 : ((xs.zip ys).map fun p => (p.2, py p.1)).mergeSort (fun a b => !PySem.W.dataLt b.2 a.2) = ((xs.zip ys).mergeSort fun a b => leD a.1 b.1).map fun p => (p.2, py p.1) :=
            (List.map_mergeSort (r := fun a b => leD a.1 b.1) (s := fun a b => !PySem.W.dataLt b.2 a.2) (f := fun p : D × V => (p.2, py p.1)) (fun a _ b _ => rfl)).symm
          have s2 : xs.mergeSort leD = ((xs.zip ys).mergeSort fun a b => leD a.1 b.1).map (·.1) := by
            rw [List.map_mergeSort (r := fun a b => leD a.1 b.1) (s := leD) (f := fun p : D × V => p.1) (fun a _ b _ => rfl)]
            show xs.mergeSort leD = ((xs.zip ys).map (·.1)).mergeSort leD
            rw [z1]
          rw [s1, List.map_map]
          refine res_lst (ds := xs.mergeSort leD) ?_ hq
          rw [s2]
          exact reps_zip fun p hp => z3 p (List.mem_mergeSort.mp hp)
      · rw [if_neg hc] at hg; cases hg
end
end Ly
set_option Elab.async false
set_option linter.all false
set_option maxRecDepth 100000
set_option maxHeartbeats 1000000
namespace Ly
open PySem L2

/-! ### 18. statements -/
inductive Fl where
  | nx | bk | ct
  | ret (r : R)
  | exc (x : XD)
abbrev SemS := Env → Option (Fl × Env)
def Kept (io : Nat → Bool) (σ σ' : St) : Prop := ∀ i, io i = true → σ'[i]? = σ[i]?
theorem Kept.refl {io : Nat → Bool} {σ : St} : Kept io σ σ := fun _ _ => rfl
theorem Kept.trans {io : Nat → Bool} {σ σ1 σ2 : St} (a : Kept io σ σ1) (b : Kept io σ1 σ2) : Kept io σ σ2 := fun i h => (b i h).trans (a i h)

def PostS (c : Cc) (W : WXX) (io : Nat → Bool) (σ : St) (H : Hp) (o : Ownr) (P : Prot) (res : Option (Fl × Env)) (En : Ends) : Prop :=
  match res with
  | none => False
  | some (.nx, ρ') => ∀ σ' H' o', Rel c σ' H' ρ' o' P → Step H o H' o' → Kept io σ σ' → En.nx σ' H'
  | some (.bk, ρ') => ∀ σ' H' o', Rel c σ' H' ρ' o' P → Step H o H' o' → Kept io σ σ' → En.bk σ' H'
  | some (.ct, ρ') => ∀ σ' H' o', Rel c σ' H' ρ' o' P → Step H o H' o' → Kept io σ σ' → En.ct σ' H'
  | some (.ret r, ρ') => ∀ v σ' H' o' P', Rel c σ' H' ρ' o' P' → Grow H P P' → Step H o H' o' → Kept io σ σ' → RepR c σ' H' o' P P' r v → En.rt v H'
  | some (.exc x, ρ') => ∀ cl dd σ' H' o', Rel c σ' H' ρ' o' P → Step H o H' o' → Kept io σ σ' → XRep c H' (hide H' (All o' P)) x cl dd → W cl dd σ' H'
def tS (c : Cc) (W : WXX) (io : Nat → Bool) (f : SemS) : TS := fun En σ H => ∃ ρ o P, Rel c σ H ρ o P ∧ PostS c W io σ H o P (f ρ) En
theorem ps_of {X : Cx} {st : Stmt} {t t' : TS} (h : PS X st t) (k : ∀ En σ H, t' En σ H → t En σ H) : PS X st t' := ⟨fun pins s σ H En I q => h.run pins s σ H En I (k En σ H q)⟩
theorem pss_of {X : Cx} {st : List Stmt} {t t' : TS} (h : PSs X st t) (k : ∀ En σ H, t' En σ H → t En σ H) : PSs X st t' := ⟨fun pins s σ H En I q => h.run pins s σ H En I (k En σ H q)⟩

def nextS : SemS := fun ρ => some (.nx, ρ)
def breakS : SemS := fun ρ => some (.bk, ρ)
def contS : SemS := fun ρ => some (.ct, ρ)
def seqS (f g : SemS) : SemS := fun ρ => match f ρ with
  | some (.nx, ρ1) => g ρ1
  | r => r
def bndS {α : Type} (m : Option (Out α × Env)) (k : α → Env → Option (Fl × Env)) : Option (Fl × Env) :=
  match m with
  | none => none
  | some (.val a, ρ) => k a ρ
  | some (.exc x, ρ) => some (.exc x, ρ)
def exprS (f : Sem R) : SemS := fun ρ => bndS (f ρ) fun _ ρ1 => some (.nx, ρ1)
def retS (f : Sem R) : SemS := fun ρ => bndS (f ρ) fun r ρ1 => some (.ret r, ρ1)
def retNS : SemS := fun ρ => some (.ret (.fz .non), ρ)
def iteS (t : Sem Bool) (f g : SemS) : SemS := fun ρ => bndS (t ρ) fun b ρ1 => if b then f ρ1 else g ρ1
/-- a slot is set -/
def stoR (i : Nat) (ρ : Env) : R → Option Env
  | .fr d => if i < ρ.length then some (ρ.set i (.ow d)) else none
  | r => (frz ρ r).bind fun p => if i < p.2.length then some (p.2.set i (.fz p.1)) else none
def setS (i : Nat) (f : Sem R) : SemS := fun ρ => bndS (f ρ) fun r ρ1 => (stoR i ρ1 r).map fun ρ2 => (.nx, ρ2)

section
variable {c : Cc} {W : WXX} {io : Nat → Bool} {X : Cx} {σ σ1 : St} {H H0 H1 H' G G' : Hp} {ρ ρ1 ρ' : Env} {o o0 o1 o' : Ownr} {P P1 P2 P' : Prot} {d d1 d2 : D} {v v1 v2 : V} {r : R} {a : Addr} {e : Expr} {f : Sem R} {t : Sem Bool} {En : Ends}

theorem PostS.later {res : Option (Fl × Env)} (h : PostS c W io σ H o P res En) (s : Step H o H1 o1) (k : Kept io σ σ1) : PostS c W io σ1 H1 o1 P res En := by
  match res, h with
  | some (.nx, ρ'), h => exact fun σ' H' o' R' s' k' => h σ' H' o' R' (s.trans s') (k.trans k')
  | some (.bk, ρ'), h => exact fun σ' H' o' R' s' k' => h σ' H' o' R' (s.trans s') (k.trans k')
  | some (.ct, ρ'), h => exact fun σ' H' o' R' s' k' => h σ' H' o' R' (s.trans s') (k.trans k')
  | some (.ret r, ρ'), h => exact fun v σ' H' o' P' R' g' s' k' q => h v σ' H' o' P' R' (Grow.refl.trans s g') (s.trans s') (k.trans k') q
  | some (.exc x, ρ'), h => exact fun cl dd σ' H' o' R' s' k' q => h cl dd σ' H' o' R' (s.trans s') (k.trans k') q
/-- a part of a statement -/
theorem stm {α β : Type} {rel : RR α β} {f : Sem α} {k : α → Env → Option (Fl × Env)} {K : β → Hp → Prop} (hR : Rel c σ H1 ρ o1 P1) (g0 : Grow H P P1) (s0 : Step H o H1 o1) (h : PostS c W io σ H o P (bndS (f ρ) k) En)
    (hk : ∀ r ρ2 v H2 o2 P2, Rel c σ H2 ρ2 o2 P2 → Grow H P P2 → Step H o H2 o2 → rel c σ H2 o2 P1 P2 r v → PostS c W io σ H o P (k r ρ2) En → K v H2) : tG c W rel f σ H1 K := by
  refine ⟨ρ, o1, P1, hR, ?_⟩
  cases e : f ρ with
  | none => rw [e] at h; exact h
  | some p =>
    obtain ⟨q, ρ1⟩ := p
    rw [e] at h
    cases q with
    | val r => exact fun v H2 o2 P2 R2 G2 S2 M2 => hk r ρ1 v H2 o2 P2 R2 (g0.trans s0 G2) (s0.trans S2) M2 h
    | exc x =>
      intro cl dd H' o' R' s' q
      exact h cl dd σ H' o' (R'.shrink g0.sub) (s0.trans s') Kept.refl (q.mono (hide_mono fun a u e n => ⟨e, fun z => n (z.elim (fun z => .inl (g0.sub a z)) .inr)⟩))

theorem ds_nil : PSs X [] (tS c W io nextS) := pss_of pss_nil fun En σ H ⟨ρ, o, P, hR, hP⟩ => hP σ H o hR Step.refl Kept.refl
theorem ds_pass {pos : Pos} : PS X (.Pass pos) (tS c W io nextS) := ps_of ps_pass fun En σ H ⟨ρ, o, P, hR, hP⟩ => hP σ H o hR Step.refl Kept.refl
theorem ds_break {pos : Pos} : PS X (.Break pos) (tS c W io breakS) := ps_of ps_break fun En σ H ⟨ρ, o, P, hR, hP⟩ => hP σ H o hR Step.refl Kept.refl
theorem ds_cont {pos : Pos} : PS X (.Continue pos) (tS c W io contS) := ps_of ps_continue fun En σ H ⟨ρ, o, P, hR, hP⟩ => hP σ H o hR Step.refl Kept.refl
theorem seq_core {f g : SemS} (h : tS c W io (seqS f g) En σ H) : tS c W io f { En with nx := tS c W io g En } σ H := by
  obtain ⟨ρ, o, P, hR, hP⟩ := h
  refine ⟨ρ, o, P, hR, ?_⟩
  unfold seqS at hP
  cases e : f ρ with
  | none => rw [e] at hP; exact hP
  | some p =>
    obtain ⟨q, ρ1⟩ := p
    rw [e] at hP
    cases q with
    | nx => exact fun σ' H' o' R' s' k' => ⟨ρ1, o', P, R', hP.later s' k'⟩
    | bk => exact hP
    | ct => exact hP
    | ret r => exact hP
    | exc x => exact hP
theorem ds_cons {st : Stmt} {rest : List Stmt} {f g : SemS} (h1 : PS X st (tS c W io f)) (h2 : PSs X rest (tS c W io g)) : PSs X (st :: rest) (tS c W io (seqS f g)) :=
  pss_of (pss_cons h1 h2) fun En σ H h => seq_core h
theorem ds_one {st : Stmt} {f : SemS} (h1 : PS X st (tS c W io f)) : PSs X [st] (tS c W io f) := pss_one h1
theorem Step.shr (s : Step H0 o0 H o) : Step H0 o0 H o := s
theorem ds_expr {pos : Pos} (he : PE X e (tE c W f)) (hs : swapsWith e none pos.line X.env = pure false := by rfl) : PS X (.Expr e pos) (tS c W io (exprS f)) := by
  refine ps_of (ps_expr he hs) ?_
  rintro En σ H ⟨ρ, o, P, hR, hP⟩
  exact stm hR Grow.refl Step.refl hP fun r ρ2 v H2 o2 P2 R2 G2 S2 M2 hP2 => hP2 σ H2 o2 (R2.shrink G2.sub) S2 Kept.refl
theorem ds_doc {x : Str} {j : Nat} {pos pos' : Pos} : PS X (.Expr (.Constant (.str x) j pos) pos') (tS c W io nextS) := ps_of ps_doc fun En σ H ⟨ρ, o, P, hR, hP⟩ => hP σ H o hR Step.refl Kept.refl
theorem ds_ret {pos : Pos} (he : PE X e (tE c W f)) : PS X (.Return (some e) pos) (tS c W io (retS f)) := by
  refine ps_of (ps_ret he) ?_
  rintro En σ H ⟨ρ, o, P, hR, hP⟩
  exact stm hR Grow.refl Step.refl hP fun r ρ2 v H2 o2 P2 R2 G2 S2 M2 hP2 => hP2 v σ H2 o2 P2 R2 G2 S2 Kept.refl M2
theorem ds_retN {pos : Pos} : PS X (.Return none pos) (tS c W io retNS) := by
  refine ps_of ps_retN ?_
  rintro En σ H ⟨ρ, o, P, hR, hP⟩
  exact hP .non σ H o P hR Grow.refl Step.refl Kept.refl (show Rep c (hide H (All o P)) .non .non by unfold Rep; rfl)
theorem ds_if {ec : Expr} {a b : List Stmt} {pos : Pos} {f g : SemS} (hc : PT X ec (tT c W t)) (ha : PSs X a (tS c W io f)) (hb : PSs X b (tS c W io g)) : PS X (.If ec a b pos) (tS c W io (iteS t f g)) := by
  refine ps_of (ps_if hc ha hb) ?_
  rintro En σ H ⟨ρ, o, P, hR, hP⟩
  refine stm hR Grow.refl Step.refl hP fun r ρ2 v H2 o2 P2 R2 G2 S2 M2 hP2 => ?_
  have e : r = v := M2
  subst e
  have R2' := R2.shrink G2.sub
  cases r with
  | true => rw [if_pos rfl]; exact ⟨ρ2, o2, P, R2', hP2.later S2 Kept.refl⟩
  | false => rw [if_neg (by decide)]; exact ⟨ρ2, o2, P, R2', hP2.later S2 Kept.refl⟩

/-- the slot i is let go -/
theorem Rel.put (hR : Rel c σ H ρ o P) {i : Nat} {s : Slot} {v : V} {S : Addr → Prop} (hi : i < ρ.length) (hS : ∀ x, S x → ¬ P x) (hn : ∀ j x, j ≠ i → o j x → ¬ S x) (hok : ∀ G, Le (hide H (All o fun x => P x ∨ S x)) G → (∀ x u, S x → H x = some u → True) → G = hide H (All (fun j => if j = i then S else o j) P) → SlotOk c H G (some (some v)) (some s) S) (hle : Le (hide H (All o P)) (hide H (All (fun j => if j = i then S else o j) P)) ) :
    Rel c (σ.set i (some v)) H (ρ.set i s) (fun j => if j = i then S else o j) P := by
  have hs : i < σ.length := hR.len ▸ hi
  refine ⟨by rw [List.length_set, List.length_set]; exact hR.len, fun j => ?_, fun j k a h1 h2 => ?_, fun j a h1 => ?_, hR.prot⟩
  · by_cases hj : j = i
    · subst hj
      rw [List.getElem?_set_self hs, List.getElem?_set_self hi, if_pos rfl]
      refine hok _ (hide_mono fun b u e n => ⟨e, fun q => n ?_⟩) (fun _ _ _ _ => True.intro) rfl
      rcases q with q | ⟨k, q⟩
      · exact .inl (.inl q)
      · by_cases hk : k = j
        · rw [if_pos hk] at q; exact .inl (.inr q)
        · rw [if_neg hk] at q; exact .inr ⟨k, q⟩
    · rw [List.getElem?_set_ne (fun z => hj z.symm), List.getElem?_set_ne (fun z => hj z.symm), if_neg hj]
      exact slotOk_mono hle (hR.slot j)
  · by_cases hj : j = i <;> by_cases hk : k = i
    · rw [hj, hk]
    · rw [if_pos hj] at h1; rw [if_neg hk] at h2; exact (hn k a hk h2 h1).elim
    · rw [if_neg hj] at h1; rw [if_pos hk] at h2; exact (hn j a hj h1 h2).elim
    · rw [if_neg hj] at h1; rw [if_neg hk] at h2; exact hR.disj j k a h1 h2
  · by_cases hj : j = i
    · rw [if_pos hj] at h1; exact hS a h1
    · rw [if_neg hj] at h1; exact hR.dP j a h1
/-- a frozen value is stored -/
theorem Rel.putF (hR : Rel c σ H ρ o P) {i : Nat} (hi : i < ρ.length) (hM : Rep c (hide H (All o P)) d v) : Rel c (σ.set i (some v)) H (ρ.set i (.fz d)) (fun j => if j = i then fun _ => False else o j) P ∧ Step H o H (fun j => if j = i then fun _ => False else o j) := by
  have hle : Le (hide H (All o P)) (hide H (All (fun j => if j = i then fun _ => False else o j) P)) := hide_mono fun b u e n => ⟨e, fun q => n (by
    rcases q with q | ⟨k, q⟩
    · exact .inl q
    · by_cases hk : k = i
      · rw [if_pos hk] at q; exact q.elim
      · rw [if_neg hk] at q; exact .inr ⟨k, q⟩)⟩
  refine ⟨hR.put hi (fun _ z => z.elim) (fun _ _ _ _ z => z) (fun G _ _ e => ⟨fun _ z => z, v, rfl, by rw [e]; exact Rep.mono hle _ _ hM⟩) hle, fun _ _ h _ => h, fun k a q => ?_, fun a u h => ⟨u, h⟩⟩
  by_cases hk : k = i
  · rw [if_pos hk] at q; exact q.elim
  · rw [if_neg hk] at q; exact .inl q
/-- a result is stored -/
theorem sto_ok (hR : Rel c σ H ρ o P1) (hM : RepR c σ H o P P1 r v) (g : Grow H0 P P1) (s : Step H0 o0 H o) {i : Nat} (e : stoR i ρ r = some ρ') :
    ∃ o', Rel c (σ.set i (some v)) H ρ' o' P ∧ Step H0 o0 H o' := by
  have viaF : ∀ r, (stoR i ρ r = (frz ρ r).bind fun p => if i < p.2.length then some (p.2.set i (.fz p.1)) else none) → RepR c σ H o P P1 r v → stoR i ρ r = some ρ' → ∃ o', Rel c (σ.set i (some v)) H ρ' o' P ∧ Step H0 o0 H o' := fun r e1 hM e => by
    rw [e1] at e
    cases e2 : frz ρ r with
    | none => rw [e2] at e; cases e
    | some p =>
      obtain ⟨d, ρ2⟩ := p
      rw [e2] at e
      have e : (if i < ρ2.length then some (ρ2.set i (.fz d)) else none) = some ρ' := e
      by_cases hi : i < ρ2.length
      · rw [if_pos hi] at e; cases e
        obtain ⟨o2, P2, R2, b1, b2, S2, M2⟩ := frz_ok hR hM g.sub e2
        have R3 := R2.shrink b1
        have M3 : Rep c (hide H (All o2 P)) d v := Rep.mono (hide_mono fun a u e n => ⟨e, fun z => n (z.elim (fun z => .inl (b1 a z)) .inr)⟩) _ _ M2
        obtain ⟨R4, S4⟩ := R3.putF hi M3
        exact ⟨_, R4, (s.trans S2).trans S4⟩
      · rw [if_neg hi] at e; cases e
  cases r with
  | fz d => exact viaF _ rfl hM e
  | sl j => exact viaF _ rfl hM e
  | fr d =>
    have e : (if i < ρ.length then some (ρ.set i (.ow d)) else none) = some ρ' := e
    by_cases hi : i < ρ.length
    · rw [if_pos hi] at e; cases e
      obtain ⟨a, S, rfl, h1, h2⟩ := hM
      have R3 := hR.shrink g.sub
      have hle : Le (hide H (All o P1)) (hide H (All (fun j => if j = i then S else o j) P)) := hide_mono fun b u e n => ⟨e, fun q => n (by
        rcases q with q | ⟨k, q⟩
        · exact .inl (g.sub b q)
        · by_cases hk : k = i
          · rw [if_pos hk] at q; exact .inl (h2 b q).1
          · rw [if_neg hk] at q; exact .inr ⟨k, q⟩)⟩
      refine ⟨fun j => if j = i then S else o j, ?_, fun b u hb hn => s.keep b u hb hn, fun k b q => ?_, s.there⟩
      · -- all slots again, from what was protected with the new thing
        have hs : i < σ.length := hR.len ▸ hi
        refine ⟨by rw [List.length_set, List.length_set]; exact hR.len, fun j => ?_, fun j k x q1 q2 => ?_, fun j x q1 => ?_, R3.prot⟩
        · by_cases hj : j = i
          · subst hj
            rw [List.getElem?_set_self hs, List.getElem?_set_self hi, if_pos rfl]
            exact ⟨a, rfl, h1.mono_G hle⟩
          · rw [List.getElem?_set_ne (fun z => hj z.symm), List.getElem?_set_ne (fun z => hj z.symm), if_neg hj]
            exact slotOk_mono hle (hR.slot j)
        · by_cases hj : j = i <;> by_cases hk : k = i
          · rw [hj, hk]
          · rw [if_pos hj] at q1; rw [if_neg hk] at q2; exact (hR.dP k x q2 (h2 x q1).1).elim
          · rw [if_neg hj] at q1; rw [if_pos hk] at q2; exact (hR.dP j x q1 (h2 x q2).1).elim
          · rw [if_neg hj] at q1; rw [if_neg hk] at q2; exact hR.disj j k x q1 q2
        · by_cases hj : j = i
          · rw [if_pos hj] at q1; exact (h2 x q1).2
          · rw [if_neg hj] at q1; exact R3.dP j x q1
      · by_cases hk : k = i
        · rw [if_pos hk] at q
          exact .inr ((g.new b (h2 b q).1).elim (fun z => ((h2 b q).2 z).elim) id)
        · rw [if_neg hk] at q; exact s.news k b q
    · rw [if_neg hi] at e; cases e
theorem ds_set {i : Nat} {x : Str} {pos pos' : Pos} (hio : io i = false) (hN : X.N.Nodup) (hi : X.N[i]? = some x) (hx : Loc X.env.scope x) (he : PE X e (tE c W f)) (hs : swapsWith e (some (.Name x pos')) pos.line X.env = pure false := by rfl) (hf : X.fn x = true ∨ X.env.scope.names.lookup x = some .local := by first | exact .inl rfl | exact .inr rfl | assumption) :
    PS X (.Assign [.Name x pos'] e pos) (tS c W io (setS i f)) := by
  refine ps_of (ps_set hN hi hx he hs hf) ?_
  rintro En σ H ⟨ρ, o, P, hR, hP⟩
  refine stm hR Grow.refl Step.refl hP fun r ρ2 v H2 o2 P2 R2 G2 S2 M2 hP2 => ?_
  cases es : stoR i ρ2 r with
  | none => rw [es] at hP2; exact hP2.elim
  | some ρ3 =>
    rw [es] at hP2
    obtain ⟨o3, R3, S3⟩ := sto_ok R2 M2 G2 S2 es
    refine hP2 _ H2 o3 R3 S3 fun j hj => ?_
    rw [List.getElem?_set_ne]
    intro z; subst z; rw [hio] at hj; cases hj

/-! targets -/
structure TgOk (c : Cc) (io : Nat → Bool) (t : TG) (g : D → Env → Option Env) : Prop where
  run : ∀ (σ : St) (H : Hp) (ρ : Env) (o : Ownr) (P : Prot) (d : D) (v : V) (ρ' : Env) (Q : St → Hp → Prop), Rel c σ H ρ o P → Rep c (hide H (All o P)) d v → g d ρ = some ρ' →
    (∀ σ' o', Rel c σ' H ρ' o' P → Step H o H o' → Kept io σ σ' → Q σ' H) → t v σ H Q
  len : ∀ d ρ ρ', g d ρ = some ρ' → ρ'.length = ρ.length
structure TgsOk (c : Cc) (io : Nat → Bool) (t : TGs) (g : List D → Env → Option Env) : Prop where
  run : ∀ (σ : St) (H : Hp) (ρ : Env) (o : Ownr) (P : Prot) (ds : List D) (vs : List V) (ρ' : Env) (Q : St → Hp → Prop), Rel c σ H ρ o P → Reps c (hide H (All o P)) ds vs → g ds ρ = some ρ' →
    (∀ σ' o', Rel c σ' H ρ' o' P → Step H o H o' → Kept io σ σ' → Q σ' H) → t vs σ H Q
  len : ∀ d ρ ρ', g d ρ = some ρ' → ρ'.length = ρ.length
def tgName (i : Nat) (d : D) (ρ : Env) : Option Env := if i < ρ.length then some (ρ.set i (.fz d)) else none
def tgsNil : List D → Env → Option Env
  | [], ρ => some ρ
  | _, _ => none
def tgsCons (g : D → Env → Option Env) (h : List D → Env → Option Env) : List D → Env → Option Env
  | d :: ds, ρ => (g d ρ).bind fun ρ1 => h ds ρ1
  | _, _ => none
def tgTup (h : List D → Env → Option Env) : D → Env → Option Env
  | .tup ds, ρ => h ds ρ
  | _, _ => none
theorem tg_name {i : Nat} (hio : io i = false) : TgOk c io (gName i) (tgName i) := ⟨fun σ H ρ o P d v ρ' Q hR hM e k => by
  have e : (if i < ρ.length then some (ρ.set i (.fz d)) else none) = some ρ' := e
  by_cases hi : i < ρ.length
  · rw [if_pos hi] at e; cases e
    obtain ⟨R2, S2⟩ := hR.putF hi hM
    refine k _ _ R2 S2 fun j hj => ?_
    rw [List.getElem?_set_ne]
    intro z; subst z; rw [hio] at hj; cases hj
  · rw [if_neg hi] at e; (cases e), fun d ρ ρ' e => by
  have e : (if i < ρ.length then some (ρ.set i (.fz d)) else none) = some ρ' := e
  by_cases hi : i < ρ.length
  · rw [if_pos hi] at e; cases e; rw [List.length_set]
  · rw [if_neg hi] at e; cases e⟩
theorem tgs_nil : TgsOk c io gNil tgsNil := ⟨fun σ H ρ o P ds vs ρ' Q hR hM e k => by
  cases ds with
  | nil => cases e; exact ⟨Reps.nil_iff.mp hM, k σ o hR Step.refl Kept.refl⟩
  | cons d ds => (cases e), fun ds ρ ρ' e => by
  cases ds with
  | nil => cases e; rfl
  | cons d ds => cases e⟩
theorem tgs_cons {t : TG} {u : TGs} {g : D → Env → Option Env} {h : List D → Env → Option Env} (h1 : TgOk c io t g) (h2 : TgsOk c io u h) : TgsOk c io (gCons t u) (tgsCons g h) := ⟨fun σ H ρ o P ds vs ρ' Q hR hM e k => by
  cases ds with
  | nil => cases e
  | cons d ds =>
    obtain ⟨v, r, rfl, m1, m2⟩ := hM.cons_inv
    have e : (g d ρ).bind (fun ρ1 => h ds ρ1) = some ρ' := e
    cases e1 : g d ρ with
    | none => rw [e1] at e; cases e
    | some ρ1 =>
      rw [e1] at e
      refine ⟨v, r, rfl, h1.run σ H ρ o P d v ρ1 _ hR m1 e1 fun σ1 o1 R1 S1 K1 => ?_⟩
      exact h2.run σ1 H ρ1 o1 P ds r ρ' Q R1 (Reps.mono (S1.hide fun a z => .inl z) _ _ m2) e fun σ2 o2 R2 S2 K2 => k σ2 o2 R2 (S1.trans S2) (K1.trans K2), fun ds ρ ρ' e => by
  cases ds with
  | nil => cases e
  | cons d ds =>
    have e : (g d ρ).bind (fun ρ1 => h ds ρ1) = some ρ' := e
    cases e1 : g d ρ with
    | none => rw [e1] at e; cases e
    | some ρ1 => rw [e1] at e; exact (h2.len ds ρ1 ρ' e).trans (h1.len d ρ ρ1 e1)⟩
theorem tg_tup {n : Nat} {u : TGs} {h : List D → Env → Option Env} (h2 : TgsOk c io u h) (hn : ∀ ds ρ ρ', h ds ρ = some ρ' → ds.length = n) : TgOk c io (gTup c.K n u) (tgTup h) := ⟨fun σ H ρ o P d v ρ' Q hR hM e k => by
  cases d <;> first | (cases e; done) | skip
  rename_i ds
  unfold Rep at hM
  obtain ⟨a, xs, rfl, m1, m2⟩ := hM
  exact ⟨a, xs, rfl, .inl (.inl (hide_some.mp m1).1), by rw [← m2.len]; exact hn ds ρ ρ' e, h2.run σ H ρ o P ds xs ρ' Q hR m2 e k⟩, fun d ρ ρ' e => by
  cases d <;> first | (cases e; done) | exact h2.len _ ρ ρ' e⟩
theorem len_nil : ∀ ds ρ ρ', tgsNil ds ρ = some ρ' → ds.length = 0 := fun ds ρ ρ' e => by
  cases ds with
  | nil => rfl
  | cons d ds => cases e
theorem len_cons {n : Nat} {g : D → Env → Option Env} {h : List D → Env → Option Env} (k : ∀ ds ρ ρ', h ds ρ = some ρ' → ds.length = n) : ∀ ds ρ ρ', tgsCons g h ds ρ = some ρ' → ds.length = n + 1 := fun ds ρ ρ' e => by
  cases ds with
  | nil => cases e
  | cons d ds =>
    have e : (g d ρ).bind (fun ρ1 => h ds ρ1) = some ρ' := e
    cases e1 : g d ρ with
    | none => rw [e1] at e; cases e
    | some ρ1 => rw [e1] at e; rw [List.length_cons, k ds ρ1 ρ' e]
/-- target = e -/
def asgS (g : D → Env → Option Env) (f : Sem R) : SemS := fun ρ => bndS (frzS f ρ) fun d ρ1 => (g d ρ1).map fun ρ2 => (.nx, ρ2)
theorem ds_asg {tg : Expr} {t : TG} {g : D → Env → Option Env} {pos : Pos} (he : PE X e (tE c W f)) (hg : PG X tg t) (ht : TgOk c io t g) (hs : swapsWithSole [tg] e pos.line X.env = pure false := by rfl) (hw : swappedStores [tg] e X.env = pure none := by rfl)
    (h1 : (assignEach [tg] X.env).map (·.2) = [assign tg X.env] := by rfl) : PS X (.Assign [tg] e pos) (tS c W io (asgS g f)) := by
  refine ps_of (ps_asg (fd_of he) hg hs hw h1) ?_
  rintro En σ H ⟨ρ, o, P, hR, hP⟩
  refine stm hR Grow.refl Step.refl hP fun d ρ2 v H2 o2 P2 R2 G2 S2 M2 hP2 => ?_
  have M2 : Rep c (hide H2 (All o2 P2)) d v := M2
  have R3 := R2.shrink G2.sub
  have M3 : Rep c (hide H2 (All o2 P)) d v := Rep.mono (hide_mono fun a u e n => ⟨e, fun z => n (z.elim (fun z => .inl (G2.sub a z)) .inr)⟩) _ _ M2
  cases es : g d ρ2 with
  | none => rw [es] at hP2; exact hP2.elim
  | some ρ3 =>
    rw [es] at hP2
    exact ht.run σ H2 ρ2 o2 P d v ρ3 _ R3 M3 es fun σ' o' R' S' K' => hP2 σ' H2 o' R' (S2.trans S') K'

/-! ### 19. loops -/
structure ItOk (c : Cc) (J : It) (Hd : Hp → Prop) (ds : List D) : Prop where
  mono : ∀ G G', Le G G' → Hd G → Hd G'
  go : ∀ G H i, Und G H → Hd G → i < ds.length → J.go i H
  stop : ∀ G H, Und G H → Hd G → J.stop ds.length H
  yld : ∀ G H i x H' d, Und G H → Hd G → ds[i]? = some d → J.yld i H x H' → RepRes c H G (.fz d) x H'
def RepI : RR (List D) It := fun c σ H o P P' ds J => ∃ Hd, ItOk c J Hd ds ∧ Hd (hide H (All o P'))
theorem base_I : Base RepI := fun c σ H o P P1 P' a b hp h => h
abbrev tI (c : Cc) (W : WXX) (f : Sem (List D)) : TI := tG c W RepI f
theorem pi_of {tg it : Expr} {w w' : TI} (h : PI X tg it w) (k : ∀ σ H R, w' σ H R → w σ H R) : PI X tg it w' := ⟨fun pins s σ H R I q => h.run pins s σ H R I (k σ H R q)⟩
theorem pi_or2 {tg it : Expr} {w w' : TI} (h : PI X tg it w) (h' : PI X tg it w') : PI X tg it (fun σ H R => w σ H R ∨ w' σ H R) := ⟨fun pins s σ H R I q => q.elim (h.run pins s σ H R I) (h'.run pins s σ H R I)⟩
def loopS (g : D → Env → Option Env) (body : SemS) : List D → SemS
  | [], ρ => some (.nx, ρ)
  | d :: ds, ρ => match g d ρ with
    | none => none
    | some ρ1 => match body ρ1 with
      | some (.nx, ρ2) => loopS g body ds ρ2
      | some (.ct, ρ2) => loopS g body ds ρ2
      | some (.bk, ρ2) => some (.nx, ρ2)
      | r => r
def forS (it : Sem (List D)) (g : D → Env → Option Env) (body : SemS) : SemS := fun ρ => bndS (it ρ) fun ds ρ1 => loopS g body ds ρ1
theorem resF (hR : Rel c σ H ρ o P) {x : V} (h : RepRes c H (hide H (All o P)) (.fz d) x H') : Rel c σ H' ρ o P ∧ Step H o H' o ∧ Rep c (hide H' (All o P)) d x := by
  have key : Post c (fun _ _ _ _ => False) RepR σ H o P (some (.val (.fz d), ρ)) (fun v H' => Rel c σ H' ρ o P ∧ Step H o H' o ∧ Rep c (hide H' (All o P)) d v) ∨ True := .inr True.intro
  rcases h with ⟨rfl, h⟩ | ⟨p, xs, rfl, e, rfl, h⟩
  · exact ⟨hR, Step.refl, h⟩
  · have k := le_new (u := .tup xs) e
    have le : Le (hide H (All o P)) (hide (upd H p (.tup xs)) (All o P)) := hide_mono fun b w q n => ⟨k b w q, n⟩
    refine ⟨hR.grow k, Step.le k, rdV_self.mpr ?_⟩
    have h' := h.mono le
    have hp : (hide (upd H p (.tup xs)) (All o P)) p = some (.tup xs) := hide_some.mpr ⟨upd_same, hR.new e⟩
    cases d with
    | tup ds => exact ⟨p, _, rfl, hp, h'⟩
    | dic t ks vs => cases t <;> exact h.elim
    | _ => exact h.elim
theorem loop_core {ds : List D} {J : It} {Hd : Hp → Prop} {t : TG} {g : D → Env → Option Env} {body : SemS} {σ1 : St} {H1 : Hp} {ρ1 : Env} {o1 : Ownr} (ht : TgOk c io t g) (hI : ItOk c J Hd ds) (R1 : Rel c σ1 H1 ρ1 o1 P) (S1 : Step H o H1 o1) (K1 : Kept io σ σ1) (hd : Hd (hide H1 (All o1 P))) (hP1 : PostS c W io σ H o P (loopS g body ds ρ1) En) :
    ∃ Wv : Nat → Nat → St → Hp → Prop, (∃ m, Wv 0 m σ1 H1) ∧ ∀ i m σ' H', Wv i m σ' H' →
  (J.stop i H' ∧ En.nx σ' H') ∨ (J.go i H' ∧ ∃ N : St → Hp → Prop, (∀ σ2 H2, N σ2 H2 → ∃ m', m' < m ∧ Wv (i + 1) m' σ2 H2) ∧ ∀ x H2, J.yld i H' x H2 → t x σ' H2 fun σ3 H3 => tS c W io body { En with nx := N, ct := N, bk := En.nx } σ3 H3) := by
  -- the loop's own invariant
  refine ⟨fun i m σ' H' => i + m = ds.length ∧ ∃ ρ' o', Rel c σ' H' ρ' o' P ∧ Step H o H' o' ∧ Kept io σ σ' ∧ Hd (hide H' (All o' P)) ∧ PostS c W io σ H o P (loopS g body (ds.drop i) ρ') En, ⟨ds.length, by omega, ρ1, o1, R1, S1, K1, hd, by simpa using hP1⟩, ?_⟩
  rintro i m σ2 H2 ⟨him, ρ2, o2, R2, S2, K2, hd2, hP2⟩
  have und := R2.und
  by_cases hi : i < ds.length
  · refine .inr ⟨hI.go _ _ i und hd2 hi, fun σ' H' => (i + 1) + (m - 1) = ds.length ∧ ∃ ρ' o', Rel c σ' H' ρ' o' P ∧ Step H o H' o' ∧ Kept io σ σ' ∧ Hd (hide H' (All o' P)) ∧ PostS c W io σ H o P (loopS g body (ds.drop (i + 1)) ρ') En, fun σ' H' hq => ⟨m - 1, by omega, hq⟩, fun x H3 hy => ?_⟩
    have hdi : ds.drop i = ds[i] :: ds.drop (i + 1) := List.drop_eq_getElem_cons hi
    rw [hdi] at hP2
    have hres := hI.yld _ _ i x H3 ds[i] und hd2 (List.getElem?_eq_getElem hi) hy
    obtain ⟨R3, S3, M3⟩ := resF R2 hres
    have hd3 : Hd (hide H3 (All o2 P)) := hI.mono _ _ (S3.hide fun a z => .inl z) hd2
    show t x σ2 H3 _
    unfold loopS at hP2
    cases e1 : g ds[i] ρ2 with
    | none => rw [e1] at hP2; exact hP2.elim
    | some ρ3 =>
      rw [e1] at hP2
      refine ht.run σ2 H3 ρ2 o2 P _ x ρ3 _ R3 M3 e1 fun σ4 o4 R4 S4 K4 => ?_
      have S24 := (S2.trans S3).trans S4
      have K24 := K2.trans K4
      have hd4 : Hd (hide H3 (All o4 P)) := hI.mono _ _ (S4.hide fun a z => .inl z) hd3
      refine ⟨ρ3, o4, P, R4, ?_⟩
      have again : ∀ {ρ5}, PostS c W io σ H o P (loopS g body (ds.drop (i + 1)) ρ5) En → ∀ σ' H' o', Rel c σ' H' ρ5 o' P → Step H3 o4 H' o' → Kept io σ4 σ' → (i + 1) + (m - 1) = ds.length ∧ ∃ ρ' o', Rel c σ' H' ρ' o' P ∧ Step H o H' o' ∧ Kept io σ σ' ∧ Hd (hide H' (All o' P)) ∧ PostS c W io σ H o P (loopS g body (ds.drop (i + 1)) ρ') En := fun {ρ5} q σ' H' o' R' S' K' =>
        ⟨by omega, ρ5, o', R', S24.trans S', K24.trans K', hI.mono _ _ (S'.hide fun a z => .inl z) hd4, q⟩
      cases e2 : body ρ3 with
      | none => simp only [e2] at hP2; exact hP2.elim
      | some p =>
        obtain ⟨q, ρ5⟩ := p
        simp only [e2] at hP2
        cases q with
        | nx => exact fun σ' H' o' R' S' K' => again hP2 σ' H' o' R' S' K'
        | ct => exact fun σ' H' o' R' S' K' => again hP2 σ' H' o' R' S' K'
        | bk => exact fun σ' H' o' R' S' K' => hP2 σ' H' o' R' (S24.trans S') (K24.trans K')
        | ret r => exact PostS.later (res := some (.ret r, ρ5)) (En := En) hP2 S24 K24
        | exc z => exact PostS.later (res := some (.exc z, ρ5)) (En := En) hP2 S24 K24
  · have hl : i = ds.length := by omega
    subst hl
    refine .inl ⟨hI.stop _ _ und hd2, ?_⟩
    rw [List.drop_length] at hP2
    exact hP2 σ2 H2 o2 R2 S2 K2
theorem for_core {it : Sem (List D)} {t : TG} {g : D → Env → Option Env} {body : SemS} (ht : TgOk c io t g) (h : tS c W io (forS it g body) En σ H) : tFor (tI c W it) t (tS c W io body) En σ H := by
  obtain ⟨ρ, o, P, hR, hP⟩ := h
  refine stm hR Grow.refl Step.refl hP fun ds ρ1 J H1 o1 P1 R1 G1 S1 M1 hP1 => ?_
  obtain ⟨Hd, hI, hd⟩ := M1
  have R1 := R1.shrink G1.sub
  have hd : Hd (hide H1 (All o1 P)) := hI.mono _ _ (hide_mono fun a u e n => ⟨e, fun z => n (z.elim (fun z => .inl (G1.sub a z)) .inr)⟩) hd
  exact loop_core ht hI R1 S1 Kept.refl hd hP1
theorem ds_for {iter tg : Expr} {body : List Stmt} {pos : Pos} {it : Sem (List D)} {t : TG} {g : D → Env → Option Env} {f : SemS} (hp : PassesOwn (model X.prog X.w) X.A X.env X.xe) (k : Okc c X) (hi : PI X tg iter (tI c W it)) (hg : PG X tg t) (ht : TgOk c io t g) (hb : PSs X body (tS c W io f))
    (hs : ∀ x, foldedSetIterable iter X.env x = pure x := by intro _; rfl) : PS X (.For tg iter body [] pos) (tS c W io (forS it g f)) :=
  ps_of (ps_for hp k.calm hi hg hb hs) fun En σ H h => for_core ht h

/-! while -/
def whileN (t : Sem Bool) (body : SemS) : Nat → SemS
  | 0, _ => none
  | n + 1, ρ => bndS (t ρ) fun b ρ1 => if b then match body ρ1 with
      | some (.nx, ρ2) => whileN t body n ρ2
      | some (.ct, ρ2) => whileN t body n ρ2
      | some (.bk, ρ2) => some (.nx, ρ2)
      | r => r
    else some (.nx, ρ1)
def whileS (t : Sem Bool) (body : SemS) : SemS := whileN t body 1000000000
theorem while_core {body : SemS} {n : Nat} (h : tS c W io (whileN t body n) En σ H) : tWhile (tT c W t) (tS c W io body) En σ H := by
  obtain ⟨ρ, o, P, hR, hP⟩ := h
  refine ⟨fun m σ' H' => ∃ ρ' o', Rel c σ' H' ρ' o' P ∧ Step H o H' o' ∧ Kept io σ σ' ∧ PostS c W io σ H o P (whileN t body m ρ') En, ⟨n, ρ, o, hR, Step.refl, Kept.refl, hP⟩, ?_⟩
  rintro m σ2 H2 ⟨ρ2, o2, R2, S2, K2, hP2⟩
  cases m with
  | zero => exact hP2.elim
  | succ m =>
    have hP2' := PostS.later (res := whileN t body (m + 1) ρ2) (En := En) hP2 S2 K2
    unfold whileN at hP2'
    -- the exits seen from the start, too
    have back : ∀ {σ' H' o'}, Step H2 o2 H' o' → Kept io σ2 σ' → Step H o H' o' ∧ Kept io σ σ' := fun s k => ⟨S2.trans s, K2.trans k⟩
    have hall : ∀ b ρ3, t ρ2 = some (.val b, ρ3) → PostS c W io σ H o P (if b then match body ρ3 with
      | some (.nx, ρ2) => whileN t body m ρ2
      | some (.ct, ρ2) => whileN t body m ρ2
      | some (.bk, ρ2) => some (.nx, ρ2)
      | r => r
    else some (.nx, ρ3)) En := fun b ρ3 e => by
      have := hP2
      unfold whileN at this
      rw [e] at this
      exact this
    refine ⟨ρ2, o2, P, R2, ?_⟩
    cases e : t ρ2 with
    | none => rw [e] at hP2'; exact hP2'
    | some p =>
      obtain ⟨q, ρ3⟩ := p
      cases q with
      | exc x =>
        rw [e] at hP2'
        intro cl dd H' o' R' s' q
        exact hP2' cl dd σ2 H' o' R' s' Kept.refl q
      | val b =>
        have hP3 := hall b ρ3 e
        intro b' H3 o3 P3 R3 G3 S3 M3
        have eb : b = b' := M3
        subst eb
        have R3 := R3.shrink G3.sub
        have S23 := S2.trans S3
        cases b with
        | false => exact hP3 σ2 H3 o3 R3 S23 K2
        | true =>
          refine ⟨fun σ' H' => ∃ ρ' o', Rel c σ' H' ρ' o' P ∧ Step H o H' o' ∧ Kept io σ σ' ∧ PostS c W io σ H o P (whileN t body m ρ') En, fun σ' H' hq => ⟨m, by omega, hq⟩, ρ3, o3, P, R3, ?_⟩
          simp only [if_true] at hP3
          cases e2 : body ρ3 with
          | none => simp only [e2] at hP3; exact hP3.elim
          | some p =>
            obtain ⟨q, ρ5⟩ := p
            simp only [e2] at hP3
            cases q with
            | nx => exact fun σ' H' o' R' S' K' => ⟨ρ5, o', R', S23.trans S', K2.trans K', hP3⟩
            | ct => exact fun σ' H' o' R' S' K' => ⟨ρ5, o', R', S23.trans S', K2.trans K', hP3⟩
            | bk => exact fun σ' H' o' R' S' K' => hP3 σ' H' o' R' (S23.trans S') (K2.trans K')
            | ret r => exact PostS.later (res := some (.ret r, ρ5)) (En := En) hP3 S23 K2
            | exc z => exact PostS.later (res := some (.exc z, ρ5)) (En := En) hP3 S23 K2
theorem ds_while {ec : Expr} {body : List Stmt} {pos : Pos} {f : SemS} (hp : PassesOwn (model X.prog X.w) X.A X.env X.xe) (hc : PT X ec (tT c W t)) (hb : PSs X body (tS c W io f)) : PS X (.While ec body [] pos) (tS c W io (whileS t f)) :=
  ps_of (ps_while hp hc hb) fun En σ H h => while_core h
end
end Ly
set_option Elab.async false
set_option linter.all false
set_option maxRecDepth 100000
set_option maxHeartbeats 1000000
namespace Ly
open PySem L2

/-! ### 20. what is gone through -/
def iterD : D → Option (List D)
  | .lst xs => some xs
  | .tup xs => some xs
  | .str s => some (s.map fun k => .str [k])
  | .scr ns => some (ns.map .int)
  | _ => none
def itS (f : Sem R) : Sem (List D) := fun ρ => bnd (frzS f ρ) fun d ρ1 => (iterD d).map fun ds => (.val ds, ρ1)
def rng (i j : Int) : List D := (List.range (j - i).toNat).map fun k => .int (i + (k : Nat))
def small62 (i : Int) : Bool := decide (-4611686018427387904 ≤ i) && decide (i < 4611686018427387904)
def rng1S (f : Sem R) : Sem (List D) := fun ρ => bnd (f ρ) fun r ρ1 => (val ρ1 r).bind fun d => match d with
  | .int j => if small62 j then some (.val (rng 0 j), ρ1) else none
  | _ => none
def rng2S (f g : Sem R) : Sem (List D) := fun ρ => bnd (f ρ) fun r ρ1 => bnd (g ρ1) fun r2 ρ2 => (val ρ2 r).bind fun d => (val ρ2 r2).bind fun d2 => match d with
  | .int i => (match d2 with
    | .int j => if small62 i && small62 j then some (.val (rng i j), ρ2) else none
    | _ => none)
  | _ => none
def enumD : List D → Option (List D)
  | [.lst xs] => some ((List.range xs.length).map fun i => .tup [.int (i : Nat), xs.getD i .non])
  | _ => none
def zipD : List D → Option (List D)
  | [.lst xs, .lst ys] => some ((xs.zip ys).map fun p => .tup [p.1, p.2])
  | [.tup xs, .tup ys] => some ((xs.zip ys).map fun p => .tup [p.1, p.2])
  | _ => none
def itA (g : List D → Option (List D)) (a : Sem (List D)) : Sem (List D) := fun ρ => bnd (a ρ) fun ds ρ1 => (g ds).map fun z => (.val z, ρ1)
section
variable {c : Cc} {W : WXX} {io : Nat → Bool} {X : Cx} {σ σ1 : St} {H H0 H1 H' G G' : Hp} {ρ ρ1 ρ' : Env} {o o0 o1 o' : Ownr} {P P1 P2 P' : Prot} {d d1 d2 : D} {v v1 v2 : V} {r : R} {a b : Addr} {e : Expr} {f : Sem R} {t : Sem Bool} {En : Ends} {ds xs ys : List D}
theorem rep_lst (h : Rep c G (.lst ds) v) : ∃ a vs, v = .ref a ∧ G a = some (.lst vs) ∧ Reps c G ds vs := by unfold Rep at h; exact h
theorem rep_tup (h : Rep c G (.tup ds) v) : ∃ a vs, v = .ref a ∧ G a = some (.tup vs) ∧ Reps c G ds vs := by unfold Rep at h; exact h
theorem ito_lst : ItOk c (Itl c.K a) (fun G => Rep c G (.lst ds) (.ref a)) ds := by
  refine ⟨fun G G' e h => Rep.mono e _ _ h, fun G H i u h hi => ?_, fun G H u h => ?_, fun G H i x H' d u h hd hy => ?_⟩
  all_goals
    obtain ⟨a', vs, e1, h1, h2⟩ := rep_lst h
    cases e1
  · obtain ⟨v, e2, _⟩ := h2.get (List.getElem?_eq_getElem hi)
    exact ⟨vs, v, .of (u.le _ _ h1), e2⟩
  · exact ⟨vs, .of (u.le _ _ h1), Nat.le_of_eq h2.len.symm⟩
  · obtain ⟨rfl, hy⟩ := hy
    obtain ⟨v, e2, r⟩ := h2.get hd
    have := hy vs (.of (u.le _ _ h1))
    rw [e2] at this; cases this
    exact .inl ⟨rfl, r⟩
theorem ito_tup : ItOk c (Itt c.K a) (fun G => Rep c G (.tup ds) (.ref a)) ds := by
  refine ⟨fun G G' e h => Rep.mono e _ _ h, fun G H i u h hi => ?_, fun G H u h => ?_, fun G H i x H' d u h hd hy => ?_⟩
  all_goals
    obtain ⟨a', vs, e1, h1, h2⟩ := rep_tup h
    cases e1
  · obtain ⟨v, e2, _⟩ := h2.get (List.getElem?_eq_getElem hi)
    exact ⟨vs, v, .of (u.le _ _ h1), e2⟩
  · exact ⟨vs, .of (u.le _ _ h1), Nat.le_of_eq h2.len.symm⟩
  · obtain ⟨rfl, hy⟩ := hy
    obtain ⟨v, e2, r⟩ := h2.get hd
    have := hy vs (.of (u.le _ _ h1))
    rw [e2] at this; cases this
    exact .inl ⟨rfl, r⟩
theorem ito_scr {ns : List Int} : ItOk c (Itl c.K a) (fun G => SqL c.K G a (ns.map V.int)) (ns.map .int) := by
  refine ⟨fun G G' e h => e.sq h, fun G H i u h hi => ?_, fun G H u h => ?_, fun G H i x H' d u h hd hy => ?_⟩
  · exact ⟨_, .int ns[i]!, u.le.sq h, by simp at hi; simp [hi]⟩
  · exact ⟨_, u.le.sq h, by simp⟩
  · obtain ⟨rfl, hy⟩ := hy
    have := hy _ (u.le.sq h)
    rw [List.getElem?_map] at this hd
    cases e : ns[i]? with
    | none => rw [e] at hd; cases hd
    | some n =>
      rw [e] at this hd; cases this; cases hd
      exact .inl ⟨rfl, by unfold Rep; rfl⟩
theorem ito_str {s : List Nat} : ItOk c (Its ⟨s.toArray⟩) (fun _ => True) (s.map fun k => .str [k]) := by
  refine ⟨fun G G' e h => h, fun G H i u h hi => ?_, fun G H u h => ?_, fun G H i x H' d u h hd hy => ?_⟩
  · show i < s.toArray.size; simpa using hi
  · show s.toArray.size ≤ _; simp
  · obtain ⟨rfl, k, e1, rfl⟩ := hy
    rw [List.getElem?_map] at hd
    have e1 : s.toArray[i]? = some k := e1
    rw [List.getElem?_toArray] at e1
    rw [e1] at hd; cases hd
    exact .inl ⟨rfl, by unfold Rep; rfl⟩
theorem ito_rng {i j : Int} : ItOk c (Itr i (j - i).toNat) (fun _ => True) (rng i j) := by
  refine ⟨fun G G' e h => h, fun G H k u h hi => ?_, fun G H u h => ?_, fun G H k x H' d u h hd hy => ?_⟩
  · show k < (j - i).toNat; simpa [rng] using hi
  · show (j - i).toNat ≤ _; simp [rng]
  · obtain ⟨rfl, rfl⟩ := hy
    unfold rng at hd
    rw [List.getElem?_map] at hd
    cases e : (List.range (j - i).toNat)[k]? with
    | none => rw [e] at hd; cases hd
    | some n =>
      rw [e] at hd; cases hd
      have : n = k := by
        have := List.getElem?_eq_some_iff.mp e
        obtain ⟨_, q⟩ := this
        simpa using q.symm
      subst this
      exact .inl ⟨rfl, by unfold Rep; rfl⟩
theorem ito_enum : ItOk c (Ite c.K a) (fun G => Rep c G (.lst xs) (.ref a)) ((List.range xs.length).map fun i => .tup [.int (i : Nat), xs.getD i .non]) := by
  refine ⟨fun G G' e h => Rep.mono e _ _ h, fun G H i u h hi => ?_, fun G H u h => ?_, fun G H i x H' d u h hd hy => ?_⟩
  all_goals
    obtain ⟨a', vs, e1, h1, h2⟩ := rep_lst h
    cases e1
  · have hi : i < xs.length := by simpa using hi
    obtain ⟨v, e2, _⟩ := h2.get (List.getElem?_eq_getElem hi)
    exact ⟨vs, v, .of (u.le _ _ h1), e2⟩
  · exact ⟨vs, .of (u.le _ _ h1), by simp; exact Nat.le_of_eq h2.len.symm⟩
  · obtain ⟨T, y, rfl, hT, rfl, hy⟩ := hy
    have hy := hy vs (.of (u.le _ _ h1))
    obtain ⟨d', e2, r⟩ := h2.getV hy
    have hi : i < xs.length := (List.getElem?_eq_some_iff.mp e2).1
    rw [List.getElem?_map, List.getElem?_range hi] at hd
    cases hd
    refine .inr ⟨T, _, rfl, hT, rfl, ?_⟩
    show Reps c G [.int (i : Nat), xs.getD i .non] [.int (i : Nat), y]
    refine .cons (by unfold Rep; rfl) (.cons ?_ .nil)
    rw [List.getD_eq_getElem?_getD, e2]
    exact r
theorem zip_at {α β : Type} {xs : List α} {ys : List β} {i : Nat} {p : α × β} (h : (xs.zip ys)[i]? = some p) : xs[i]? = some p.1 ∧ ys[i]? = some p.2 := by
  rw [List.getElem?_zip_eq_some] at h
  exact h
theorem ito_zip : ItOk c (Itz c.K a b) (fun G => Rep c G (.lst xs) (.ref a) ∧ Rep c G (.lst ys) (.ref b)) ((xs.zip ys).map fun p => .tup [p.1, p.2]) := by
  refine ⟨fun G G' e h => ⟨Rep.mono e _ _ h.1, Rep.mono e _ _ h.2⟩, fun G H i u h hi => ?_, fun G H u h => ?_, fun G H i x H' d u h hd hy => ?_⟩
  all_goals
    obtain ⟨h, h'⟩ := h
    obtain ⟨a', vs, e1, h1, h2⟩ := rep_lst h
    cases e1
    obtain ⟨b', ws, e1, h3, h4⟩ := rep_lst h'
    cases e1
  · have hi : i < min xs.length ys.length := by simpa using hi
    obtain ⟨v, e2, _⟩ := h2.get (List.getElem?_eq_getElem (show i < xs.length by omega))
    obtain ⟨w, e3, _⟩ := h4.get (List.getElem?_eq_getElem (show i < ys.length by omega))
    exact ⟨vs, ws, v, w, .of (u.le _ _ h1), .of (u.le _ _ h3), e2, e3⟩
  · refine ⟨vs, ws, .of (u.le _ _ h1), .of (u.le _ _ h3), ?_⟩
    have := h2.len
    have := h4.len
    simp
    omega
  · obtain ⟨T, y, z, rfl, hT, rfl, hy, hz⟩ := hy
    have hy := hy vs (.of (u.le _ _ h1))
    have hz := hz ws (.of (u.le _ _ h3))
    rw [List.getElem?_map] at hd
    cases e2 : (xs.zip ys)[i]? with
    | none => rw [e2] at hd; cases hd
    | some p =>
      rw [e2] at hd; cases hd
      obtain ⟨q1, q2⟩ := zip_at e2
      obtain ⟨v', f1, r1⟩ := h2.get q1
      obtain ⟨w', f2, r2⟩ := h4.get q2
      rw [hy] at f1; cases f1
      rw [hz] at f2; cases f2
      exact .inr ⟨T, _, rfl, hT, rfl, (show Reps c G [p.1, p.2] [y, z] from .cons r1 (.cons r2 .nil))⟩
theorem ito_zipT : ItOk c (RZ.ItzT c.K a b) (fun G => Rep c G (.tup xs) (.ref a) ∧ Rep c G (.tup ys) (.ref b)) ((xs.zip ys).map fun p => .tup [p.1, p.2]) := by
  refine ⟨fun G G' e h => ⟨Rep.mono e _ _ h.1, Rep.mono e _ _ h.2⟩, fun G H i u h hi => ?_, fun G H u h => ?_, fun G H i x H' d u h hd hy => ?_⟩
  all_goals
    obtain ⟨h, h'⟩ := h
    obtain ⟨a', vs, e1, h1, h2⟩ := rep_tup h
    cases e1
    obtain ⟨b', ws, e1, h3, h4⟩ := rep_tup h'
    cases e1
  · have hi : i < min xs.length ys.length := by simpa using hi
    obtain ⟨v, e2, _⟩ := h2.get (List.getElem?_eq_getElem (show i < xs.length by omega))
    obtain ⟨w, e3, _⟩ := h4.get (List.getElem?_eq_getElem (show i < ys.length by omega))
    exact ⟨vs, ws, v, w, .of (u.le _ _ h1), .of (u.le _ _ h3), e2, e3⟩
  · refine ⟨vs, ws, .of (u.le _ _ h1), .of (u.le _ _ h3), ?_⟩
    have := h2.len
    have := h4.len
    simp
    omega
  · obtain ⟨T, y, z, rfl, hT, rfl, hy, hz⟩ := hy
    have hy := hy vs (.of (u.le _ _ h1))
    have hz := hz ws (.of (u.le _ _ h3))
    rw [List.getElem?_map] at hd
    cases e2 : (xs.zip ys)[i]? with
    | none => rw [e2] at hd; cases hd
    | some p =>
      rw [e2] at hd; cases hd
      obtain ⟨q1, q2⟩ := zip_at e2
      obtain ⟨v', f1, r1⟩ := h2.get q1
      obtain ⟨w', f2, r2⟩ := h4.get q2
      rw [hy] at f1; cases f1
      rw [hz] at f2; cases f2
      exact .inr ⟨T, _, rfl, hT, rfl, (show Reps c G [p.1, p.2] [y, z] from .cons r1 (.cons r2 .nil))⟩

/-- a list, a tuple, a text, the script -/
theorem id_seq {tg : Expr} (k : Okc c X) (he : PE X e (tE c W f)) : PI X tg e (tI c W (itS f)) := by
  have hf := fd_of he
  refine pi_of (pi_or2 (pi_list hf) (pi_or2 (pi_tup hf) (pi_str hf))) ?_
  rintro σ H R ⟨ρ, o, P, hR, hP⟩
  unfold itS at hP
  -- by what comes
  have go : ∀ (t : TI) (Kd : V → Hp → Prop), (tF c W (frzS f) σ H Kd → t σ H R) → (∀ d ρ1, frzS f ρ = some (.val d, ρ1) → ∀ v H1 o1 P1, Rel c σ H1 ρ1 o1 P1 → Grow H P P1 → Step H o H1 o1 → Rep c (hide H1 (All o1 P1)) d v → Post c W RepI σ H1 o1 P1 ((iterD d).map fun ds => (.val ds, ρ1)) R → Kd v H1) → t σ H R := fun t Kd h1 h2 => h1 ⟨ρ, o, P, hR, by
    cases e : frzS f ρ with
    | none => rw [e] at hP; exact hP.elim
    | some p =>
      obtain ⟨q, ρ1⟩ := p
      rw [e] at hP
      cases q with
      | exc x => exact hP
      | val d => exact fun v H1 o1 P1 R1 G1 S1 M1 => h2 d ρ1 e v H1 o1 P1 R1 G1 S1 M1 (Post.later (res := (iterD d).map fun ds => (.val ds, ρ1)) base_I hP S1 G1)⟩
  cases e : frzS f ρ with
  | none => rw [e] at hP; exact hP.elim
  | some p =>
    obtain ⟨q, ρ1⟩ := p
    cases q with
    | exc x => exact .inl (go (iList X.K _) _ id fun d ρ1 e2 => by rw [e] at e2; cases e2)
    | val d =>
      cases d with
      | lst ds => 
        refine .inl (go (iList X.K _) _ id fun d ρ1 e2 v H1 o1 P1 R1 G1 S1 M1 hP1 => ?_)
        rw [e] at e2; cases e2
        obtain ⟨a, vs, rfl, h1, h2⟩ := rep_lst M1
        exact ⟨a, rfl, ⟨vs, .of (hide_le _ _ h1)⟩, hP1 _ H1 o1 P1 R1 Grow.refl Step.refl ⟨_, k.hK ▸ ito_lst, M1⟩⟩
      | scr ns =>
        refine .inl (go (iList X.K _) _ id fun d ρ1 e2 v H1 o1 P1 R1 G1 S1 M1 hP1 => ?_)
        rw [e] at e2; cases e2
        unfold Rep at M1
        obtain ⟨a, rfl, h1⟩ := M1
        exact ⟨a, rfl, ⟨_, k.hK ▸ (Le.sq hide_le h1)⟩, hP1 _ H1 o1 P1 R1 Grow.refl Step.refl ⟨_, k.hK ▸ (ito_scr (c := c) (a := a) (ns := ns)), k.hK ▸ h1⟩⟩
      | tup ds =>
        refine .inr (.inl (go (iTup X.K _) _ id fun d ρ1 e2 v H1 o1 P1 R1 G1 S1 M1 hP1 => ?_))
        rw [e] at e2; cases e2
        obtain ⟨a, vs, rfl, h1, h2⟩ := rep_tup M1
        exact ⟨a, rfl, ⟨vs, .of (hide_le _ _ h1)⟩, hP1 _ H1 o1 P1 R1 Grow.refl Step.refl ⟨_, k.hK ▸ ito_tup, M1⟩⟩
      | str s =>
        refine .inr (.inr (go (iStr _) _ id fun d ρ1 e2 v H1 o1 P1 R1 G1 S1 M1 hP1 => ?_))
        rw [e] at e2; cases e2
        unfold Rep at M1
        exact ⟨_, M1, hP1 _ H1 o1 P1 R1 Grow.refl Step.refl ⟨_, ito_str, True.intro⟩⟩
      | non => rw [e] at hP; exact hP.elim
      | bl b => rw [e] at hP; exact hP.elim
      | int b => rw [e] at hP; exact hP.elim
      | dic a b c => rw [e] at hP; exact hP.elim
      | obj a b => rw [e] at hP; exact hP.elim
      | pool a b c => rw [e] at hP; exact hP.elim
      | dls a b c => rw [e] at hP; exact hP.elim
theorem small62_iff {i : Int} (h : small62 i = true) : -(2 ^ 62) ≤ i ∧ i < 2 ^ 62 := by
  unfold small62 at h
  rw [Bool.and_eq_true, decide_eq_true_eq, decide_eq_true_eq] at h
  have e : (2 : Int) ^ 62 = 4611686018427387904 := by decide
  rw [e]; exact h
theorem id_rng1 {tg ea : Expr} {p pos : Pos} (hg : Gl X "range") (hm : X.mg "range" = none) (ha : PE X ea (tE c W f)) (hs : starEach [ea] X.env = [(false, eval ea X.env)] := by rfl) : PI X tg (.Call (.Name "range" p) [ea] [] pos) (tI c W (rng1S f)) := by
  refine pi_of (pi_range1 hg hm (pa_cons ha pa_nil (by rw [hs]; rfl)) hs) ?_
  rintro σ H R ⟨ρ, o, P, hR, hP⟩
  refine seq1 base_I hR hP fun r ρ1 v H1 o1 P1 R1 G1 S1 M1 hP1 => ?_
  cases e1 : val ρ1 r with
  | none => rw [e1] at hP1; exact hP1.elim
  | some d =>
    rw [e1] at hP1
    have rd := M1.read R1 e1
    cases d <;> first | exact hP1.elim | skip
    rename_i j
    cases (show v = .int j from rd)
    by_cases hs : small62 j = true
    · simp only [Option.bind_some, hs, if_true] at hP1
      obtain ⟨a1, a2⟩ := small62_iff hs
      have hi := ito_rng (c := c) (i := 0) (j := j)
      rw [Int.sub_zero] at hi
      exact ⟨j, rfl, a1, a2, hP1 _ H1 o1 P1 R1 Grow.refl Step.refl ⟨_, hi, True.intro⟩⟩
    · simp only [Option.bind_some, hs] at hP1; exact hP1.elim
theorem id_rng2 {tg ea eb : Expr} {p pos : Pos} {g : Sem R} (hg : Gl X "range") (hm : X.mg "range" = none) (ha : PE X ea (tE c W f)) (hb : PE X eb (tE c W g)) (hs : starEach [ea, eb] X.env = [(false, eval ea X.env), (false, eval eb X.env)] := by rfl) (hs2 : starEach [eb] X.env = [(false, eval eb X.env)] := by rfl) :
    PI X tg (.Call (.Name "range" p) [ea, eb] [] pos) (tI c W (rng2S f g)) := by
  refine pi_of (pi_range2 hg hm (pa_cons ha (pa_cons hb pa_nil (by rw [hs2]; rfl)) (by rw [hs, hs2])) hs hs2) ?_
  rintro σ H R ⟨ρ, o, P, hR, hP⟩
  refine seq1 base_I hR hP fun r ρ1 v H1 o1 P1 R1 G1 S1 M1 hP1 => ?_
  refine seq1 base_I R1 hP1 fun r2 ρ2 v2 H2 o2 P2 R2 G2 S2 M2 hP2 => ?_
  have M1' := M1.step R1 S2 G2
  cases e1 : val ρ2 r with
  | none => rw [e1] at hP2; exact hP2.elim
  | some d =>
    cases e2 : val ρ2 r2 with
    | none => rw [e1, e2] at hP2; exact hP2.elim
    | some d2 =>
      rw [e1, e2] at hP2
      have rd := M1'.read R2 e1
      have rd2 := M2.read R2 e2
      cases d <;> first | exact hP2.elim | skip
      cases d2 <;> first | exact hP2.elim | skip
      rename_i i j
      cases (show v = .int i from rd)
      cases (show v2 = .int j from rd2)
      by_cases hs : (small62 i && small62 j) = true
      · simp only [Option.bind_some, hs, if_true] at hP2
        rw [Bool.and_eq_true] at hs
        obtain ⟨a1, a2⟩ := small62_iff hs.1
        obtain ⟨a3, a4⟩ := small62_iff hs.2
        exact ⟨i, j, rfl, ⟨a1, a2, a3, a4⟩, hP2 _ H2 o2 P2 R2 Grow.refl Step.refl ⟨_, ito_rng, True.intro⟩⟩
      · simp only [Option.bind_some, hs] at hP2; exact hP2.elim
theorem id_enum {elts : List Expr} {kk : Nat} {p pos tpos : Pos} {g : Sem (List D)} (k : Okc c X) (hg : Gl X "enumerate") (hm : X.mg "enumerate" = none) (ha : PA X [e] (tFs c W g)) (hs : starEach [e] X.env = [(false, eval e X.env)] := by rfl) :
    PI X (.Tuple elts kk tpos) (.Call (.Name "enumerate" p) [e] [] pos) (tI c W (itA enumD g)) := by
  refine pi_of (pi_enum hg hm ha hs) ?_
  rintro σ H R ⟨ρ, o, P, hR, hP⟩
  refine seq1 base_I hR hP fun ds ρ1 vs H1 o1 P1 R1 G1 S1 M1 hP1 => ?_
  have M1 : Reps c (hide H1 (All o1 P1)) ds vs := M1
  match ds, M1, hP1 with
  | [.lst xs], M1, hP1 =>
    obtain ⟨v, r, rfl, m1, m2⟩ := M1.cons_inv
    cases Reps.nil_iff.mp m2
    obtain ⟨a, ws, rfl, h1, h2⟩ := rep_lst m1
    exact ⟨a, ws, rfl, .of (hide_le _ _ h1), hP1 _ H1 o1 P1 R1 Grow.refl Step.refl ⟨_, k.hK ▸ ito_enum, m1⟩⟩
  | [], _, hP1 => exact hP1.elim
  | [.non], _, hP1 => exact hP1.elim
  | [.bl _], _, hP1 => exact hP1.elim
  | [.int _], _, hP1 => exact hP1.elim
  | [.str _], _, hP1 => exact hP1.elim
  | [.tup _], _, hP1 => exact hP1.elim
  | [.dic _ _ _], _, hP1 => exact hP1.elim
  | [.obj _ _], _, hP1 => exact hP1.elim
  | [.pool _ _ _], _, hP1 => exact hP1.elim
  | [.scr _], _, hP1 => exact hP1.elim
  | [.dls _ _ _], _, hP1 => exact hP1.elim
  | x :: _ :: _, _, hP1 => cases x <;> exact hP1.elim
theorem zipD_some {z : List D} (h : zipD ds = some z) : ∃ xs ys, (ds = [.lst xs, .lst ys] ∨ ds = [.tup xs, .tup ys]) ∧ z = (xs.zip ys).map fun p => .tup [p.1, p.2] := by
  unfold zipD at h
  split at h
  · cases h; exact ⟨_, _, .inl rfl, rfl⟩
  · cases h; exact ⟨_, _, .inr rfl, rfl⟩
  · cases h
theorem id_zip {e2 : Expr} {elts : List Expr} {kk : Nat} {p pos tpos : Pos} {g : Sem (List D)} (k : Okc c X) (hg : Gl X "zip") (hm : X.mg "zip" = none) (ha : PA X [e, e2] (tFs c W g))
    (hs : starEach [e, e2] X.env = (false, eval e X.env) :: starEach [e2] X.env := by rfl) (hpl : (backTo pos (starEach [e2] X.env)).any (·.1) = false := by rfl) : PI X (.Tuple elts kk tpos) (.Call (.Name "zip" p) [e, e2] [] pos) (tI c W (itA zipD g)) := by
  refine pi_of (RZ.pi_zipA hg hm ha hs hpl) ?_
  rintro σ H R ⟨ρ, o, P, hR, hP⟩
  refine seq1 base_I hR hP fun ds ρ1 vs H1 o1 P1 R1 G1 S1 M1 hP1 => ?_
  have M1 : Reps c (hide H1 (All o1 P1)) ds vs := M1
  cases ez : zipD ds with
  | none => rw [ez] at hP1; exact hP1.elim
  | some z =>
    rw [ez] at hP1
    obtain ⟨xs, ys, hd, rfl⟩ := zipD_some ez
    rcases hd with rfl | rfl
    · obtain ⟨v, r, rfl, m1, m2⟩ := M1.cons_inv
      obtain ⟨v2, r2, rfl, m3, m4⟩ := m2.cons_inv
      cases Reps.nil_iff.mp m4
      obtain ⟨a, ws, rfl, h1, h2⟩ := rep_lst m1
      obtain ⟨b, us, rfl, h3, h4⟩ := rep_lst m3
      exact ⟨a, b, ws, us, rfl, .inl ⟨.of (hide_le _ _ h1), .of (hide_le _ _ h3), hP1 _ H1 o1 P1 R1 Grow.refl Step.refl ⟨_, k.hK ▸ ito_zip, m1, m3⟩⟩⟩
    · obtain ⟨v, r, rfl, m1, m2⟩ := M1.cons_inv
      obtain ⟨v2, r2, rfl, m3, m4⟩ := m2.cons_inv
      cases Reps.nil_iff.mp m4
      obtain ⟨a, ws, rfl, h1, h2⟩ := rep_tup m1
      obtain ⟨b, us, rfl, h3, h4⟩ := rep_tup m3
      exact ⟨a, b, ws, us, rfl, .inr ⟨.of (hide_le _ _ h1), .of (hide_le _ _ h3), hP1 _ H1 o1 P1 R1 Grow.refl Step.refl ⟨_, k.hK ▸ ito_zipT, m1, m3⟩⟩⟩
end
end Ly
set_option Elab.async false
set_option linter.all false
set_option maxRecDepth 100000
set_option maxHeartbeats 1000000
namespace Ly
open PySem L2

/-! ### 21. dicts that are locked -/
def isDicH : HO → Bool
  | .dK _ => true
  | .dT _ => true
  | _ => false
/-- the same but for locks on dicts -/
def LeR (G G' : Hp) : Prop := ∀ a u, G a = some u → G' a = some u ∨ ∃ v o, isDicH v = true ∧ ((u = v ∧ G' a = some (.frz o v)) ∨ (u = .frz o v ∧ G' a = some v))
section
variable {c : Cc} {W : WXX} {io : Nat → Bool} {X : Cx} {σ σ1 : St} {H H0 H1 H' G G' : Hp} {ρ ρ1 ρ' : Env} {o o0 o1 o' : Ownr} {P P1 P2 P' : Prot} {d d1 d2 : D} {v v1 v2 : V} {r : R} {a b : Addr} {u w : HO} {e : Expr} {f : Sem R} {t : Sem Bool} {En : Ends} {ds xs ys : List D}
theorem LeR.rd (h : LeR G G') (hd : isDicH u = true) (e : Rd G a u) : Rd G' a u := by
  rcases e with e | ⟨o, e⟩
  · rcases h a u e with q | ⟨v, o, hv, ⟨e1, q⟩ | ⟨e1, q⟩⟩
    · exact .inl q
    · subst e1; exact .inr ⟨o, q⟩
    · subst e1; cases hd
  · rcases h a _ e with q | ⟨v, o', hv, ⟨e1, q⟩ | ⟨e1, q⟩⟩
    · exact .inr ⟨o, q⟩
    · subst e1; cases hv
    · injection e1 with e2 e3
      subst e3; exact .inl q
theorem LeR.ex (h : LeR G G') (hd : isDicH u = false) (hf : ∀ o v, u = .frz o v → isDicH v = false) (e : G a = some u) : G' a = some u := by
  rcases h a u e with q | ⟨v, o, hv, ⟨e1, q⟩ | ⟨e1, q⟩⟩
  · exact q
  · subst e1; rw [hd] at hv; cases hv
  · rw [hf o v e1] at hv; cases hv
theorem LeR.sq {K : PySem.W.Frag} {vs : List V} (h : LeR G G') (e : SqL K G a vs) : SqL K G' a vs := by
  rcases e with (e | ⟨o, e⟩) | e
  · exact .inl (.inl (h.ex rfl (fun _ _ => nofun) e))
  · exact .inl (.inr ⟨o, h.ex rfl (fun o v q => by cases q; rfl) e⟩)
  · exact .inr e
mutual
theorem Rep.monoR {c : Cc} {G G' : Hp} (e : LeR G G') : ∀ (d : D) (v : V), Rep c G d v → Rep c G' d v
  | .non, _, h => by unfold Rep at h ⊢; exact h
  | .bl _, _, h => by unfold Rep at h ⊢; exact h
  | .int _, _, h => by unfold Rep at h ⊢; exact h
  | .str _, _, h => by unfold Rep at h ⊢; exact h
  | .tup ds, v, h => by
    unfold Rep at h ⊢
    obtain ⟨a, xs, r, h1, h2⟩ := h
    exact ⟨a, xs, r, e.ex rfl (fun _ _ => nofun) h1, Reps.monoR e ds xs h2⟩
  | .lst ds, v, h => by
    unfold Rep at h ⊢
    obtain ⟨a, xs, r, h1, h2⟩ := h
    exact ⟨a, xs, r, e.ex rfl (fun _ _ => nofun) h1, Reps.monoR e ds xs h2⟩
  | .dic false ks ds, v, h => by
    unfold Rep at h ⊢
    obtain ⟨a, kvs, r, h1, h2, h3⟩ := h
    exact ⟨a, kvs, r, e.rd rfl h1, h2, Reps.monoR e ds _ h3⟩
  | .dic true ks ds, v, h => by
    unfold Rep at h ⊢
    obtain ⟨a, kvs, r, h1, h2, h3⟩ := h
    exact ⟨a, kvs, r, e.rd rfl h1, h2, Reps.monoR e ds _ h3⟩
  | .obj k ds, v, h => by
    unfold Rep at h ⊢
    obtain ⟨a, dx, fs, r, h1, h2, h3⟩ := h
    exact ⟨a, dx, fs, r, e.ex rfl (fun _ _ => nofun) h1, h2, Reps.monoR e ds _ h3⟩
  | .pool _ _ _, _, h => by unfold Rep at h ⊢; exact h
  | .dls _ _ _, _, h => by unfold Rep at h ⊢; exact h
  | .scr ns, _, h => by
    unfold Rep at h ⊢
    obtain ⟨a, r, h1⟩ := h
    exact ⟨a, r, e.sq h1⟩
theorem Reps.monoR {c : Cc} {G G' : Hp} (e : LeR G G') : ∀ (ds : List D) (vs : List V), Reps c G ds vs → Reps c G' ds vs
  | [], _, h => by unfold Reps at h ⊢; exact h
  | d :: ds, vs, h => by
    unfold Reps at h ⊢
    obtain ⟨v, r, e1, h1, h2⟩ := h
    exact ⟨v, r, e1, Rep.monoR e d v h1, Reps.monoR e ds r h2⟩
end
theorem CellOf.monoR (e : LeR G G') (h : CellOf c G d u) : CellOf c G' d u := by
  cases d with
  | dic t ks vs =>
    cases t <;> cases u <;> first | exact h.elim | skip
    · exact ⟨h.1, Reps.monoR e _ _ h.2⟩
    · exact ⟨h.1, Reps.monoR e _ _ h.2⟩
  | _ =>
  cases u <;> first | exact h.elim | exact Reps.monoR e _ _ h | exact ⟨h.1, h.2.1, Reps.monoR e _ _ h.2.2⟩
/-- its cells stay: it stays -/
theorem Lsts.keepR (e : LeR G G') : ∀ {ds : List D} {las : List Addr}, Lsts c H G ds las → (∀ x u, x ∈ las → H x = some u → H1 x = some u) → Lsts c H1 G' ds las
  | [], las, h, _ => h
  | d :: ds, las, ⟨l, r, dd, xs, e1, e2, h1, h2, h3⟩, k => ⟨l, r, dd, xs, e1, e2, k _ _ (by rw [e1]; exact .head _) h1, Reps.monoR e _ _ h2, Lsts.keepR e h3 fun x u hx => k x u (by rw [e1]; exact .tail _ hx)⟩
theorem Own.keepR {S : Addr → Prop} (h : Own c H G d a S) (k : ∀ x u, S x → H x = some u → H1 x = some u) (e : LeR G G') : Own c H1 G' d a S := by
  have ha := h.here
  cases d <;> first | exact h.elim | skip
  · obtain ⟨⟨u, h1, h2⟩, h3⟩ := h; exact ⟨⟨u, k _ _ ha h1, h2.monoR e⟩, h3⟩
  · obtain ⟨⟨u, h1, h2⟩, h3⟩ := h; exact ⟨⟨u, k _ _ ha h1, h2.monoR e⟩, h3⟩
  · obtain ⟨⟨u, h1, h2⟩, h3⟩ := h; exact ⟨⟨u, k _ _ ha h1, h2.monoR e⟩, h3⟩
  · obtain ⟨b, h1, h2, h3, h4⟩ := h
    exact ⟨b, h1, k _ _ ha h2, k _ _ ((h4 b).mpr (.inr rfl)) h3, h4⟩
  · obtain ⟨u, las, h1, h2, h3, h5, h6, h4⟩ := h
    exact ⟨u, las, k _ _ ha h1, h2, h3.keepR e fun x u hx q => k x u ((h4 x).mpr (.inr hx)) q, h5, h6, h4⟩
/-- one dict locked, or unlocked -/
def Relock (u w : HO) : Prop := ∃ v o, isDicH v = true ∧ ((u = v ∧ w = .frz o v) ∨ (u = .frz o v ∧ w = v))
theorem Relock.leR {O : Addr → Prop} (h : Relock u w) (e : H a = some u) (n : ¬ O a) : LeR (hide H O) (hide (upd H a w) O) := fun b x q => by
  obtain ⟨q1, q2⟩ := hide_some.mp q
  by_cases hb : b = a
  · subst hb
    rw [e] at q1; cases q1
    obtain ⟨v, o, hv, hh⟩ := h
    refine .inr ⟨v, o, hv, ?_⟩
    rcases hh with ⟨h1, h2⟩ | ⟨h1, h2⟩
    · exact .inl ⟨h1, hide_some.mpr ⟨by rw [upd_same, h2], n⟩⟩
    · exact .inr ⟨h1, hide_some.mpr ⟨by rw [upd_same, h2], n⟩⟩
  · exact .inl (hide_some.mpr ⟨by rw [upd_ne hb]; exact q1, q2⟩)
theorem Rel.relock (h : Rel c σ H ρ o P) (e : H a = some u) (n : ¬ All o P a) (k : Relock u w) : Rel c σ (upd H a w) ρ o P := by
  have le := k.leR (O := All o P) e n
  refine ⟨h.len, fun i => ?_, h.disj, h.dP, fun b z => ?_⟩
  · have q := h.slot i
    unfold SlotOk at q ⊢
    split
    · rename_i es
      rw [es] at q
      obtain ⟨h1, v, h2, h3⟩ := q
      exact ⟨h1, v, h2, Rep.monoR le _ _ h3⟩
    · rename_i es
      rw [es] at q
      obtain ⟨b, h1, h2⟩ := q
      refine ⟨b, h1, h2.keepR (fun x z hx hz => ?_) le⟩
      have : x ≠ a := fun q => n (q ▸ .inr ⟨i, hx⟩)
      rw [upd_ne this]; exact hz
    · rename_i h1 h2
      split at q
      · rename_i es; exact (h1 _ es).elim
      · rename_i es; exact (h2 _ es).elim
      · exact q
  · obtain ⟨x, h1, h2⟩ := h.prot b z
    have : b ≠ a := fun q => n (q ▸ .inl z)
    exact ⟨x, by rw [upd_ne this]; exact h1, h2⟩
theorem RepR.relock (hM : RepR c σ H o P P' r v) (hR : Rel c σ H ρ o P') (e : H a = some u) (n : ¬ All o P' a) (k : Relock u w) : RepR c σ (upd H a w) o P P' r v := by
  have le := k.leR (O := All o P') e n
  cases r with
  | fz d => exact Rep.monoR le _ _ hM
  | fr d =>
    obtain ⟨b, S, e1, h1, h2⟩ := hM
    refine ⟨b, S, e1, h1.keepR (fun x z hx hz => ?_) le, h2⟩
    have : x ≠ a := fun q => n (q ▸ .inl (h2 x hx).1)
    rw [upd_ne this]; exact hz
  | sl i => exact hM
/-- a step between locking and unlocking is a step -/
theorem Step.relock {H2 : Hp} (s : Step (upd H a w) o H2 o') (e : H a = some u) (n : ∀ i, ¬ o i a) : H2 a = some w ∧ Step H o (upd H2 a u) o' := by
  refine ⟨s.keep a w upd_same n, fun b x hb hn => ?_, fun i b hb => ?_, fun b x hb => ?_⟩
  · by_cases h : b = a
    · subst h; rw [upd_same]; rw [e] at hb; exact hb
    · rw [upd_ne h]
      exact s.keep b x (by rw [upd_ne h]; exact hb) hn
  · rcases s.news i b hb with q | q
    · exact .inl q
    · by_cases h : b = a
      · subst h; rw [upd_same] at q; cases q
      · rw [upd_ne h] at q; exact .inr q
  · by_cases h : b = a
    · subst h; exact ⟨u, upd_same⟩
    · rw [upd_ne h]
      exact s.there b x (by rw [upd_ne h]; exact hb)
theorem Grow.relock (g : Grow (upd H a w) P P') (e : H a = some u) : Grow H P P' := ⟨g.sub, fun b hb => (g.new b hb).elim .inl fun q => .inr (by
  by_cases h : b = a
  · subst h; rw [upd_same] at q; cases q
  · rw [upd_ne h] at q; exact q)⟩

/-! keys gone through: the dict stands in a slot -/
def keysOf : D → Option (List D)
  | .dic _ ks _ => some ks
  | _ => none
def keyIt (i : Nat) : Sem (List D) := fun ρ => (frz ρ (.sl i)).bind fun p => (keysOf p.1).map fun ks => (.val ks, p.2)
def noExc (x : Option (Fl × Env)) : Option (Fl × Env) := match x with
  | some (.exc _, _) => none
  | r => r
def forKS (i : Nat) (g : D → Env → Option Env) (body : SemS) : SemS := fun ρ => noExc (forS (keyIt i) g body ρ)
theorem ito_keys {ob : Obj} {kvs : List (Key × V)} : ItOk c (Itk a ob kvs) (fun G => G a = some (.frz ob (.dK kvs))) (kvs.map fun p => kD p.1) := by
  refine ⟨fun G G' e h => e _ _ h, fun G H i u h hi => ⟨u.le _ _ h, by simpa using hi⟩, fun G H u h => ⟨u.le _ _ h, by simp⟩, fun G H i x H' d u h hd hy => ?_⟩
  obtain ⟨rfl, k, v, e1, rfl⟩ := hy
  rw [List.getElem?_map, e1] at hd
  cases hd
  refine .inl ⟨rfl, ?_⟩
  have := reps_kD (c := c) (G := G) [k]
  exact (this.cons_inv).elim fun v ⟨r, e, h, _⟩ => by
    injection e with e1 e2
    rw [e1]; exact h
theorem ito_keysT {ob : Obj} {kvs : List (List Key × V)} : ItOk c (Itkt a ob kvs) (fun G => G a = some (.frz ob (.dT kvs))) (kvs.map fun p => .tup (p.1.map kD)) := by
  refine ⟨fun G G' e h => e _ _ h, fun G H i u h hi => ⟨u.le _ _ h, by simpa using hi⟩, fun G H u h => ⟨u.le _ _ h, by simp⟩, fun G H i x H' d u h hd hy => ?_⟩
  obtain ⟨rfl, k, v, q, e1, rfl, hq⟩ := hy
  rw [List.getElem?_map, e1] at hd
  cases hd
  refine .inl ⟨rfl, ?_⟩
  unfold Rep
  exact ⟨q, _, rfl, u.tup _ _ hq, reps_kD k⟩
/-- the iterator's rule, the dict locked -/
theorem keyIt_locked {i : Nat} {x : Str} {pos : Pos} {tg : Expr} (hN : X.N[i]? = some x) (hv : Vis X.env.scope x) (hd : (x == ("__debug__" : Str)) = false := by decide +kernel) (hcd : (x == ("__classdict__" : Str)) = false := by decide +kernel) : PI X tg (.Name x pos) (iKeys (tVar i)) := pi_keys (pe_var hN hv hd hcd)
/-- what the loop's wish is, the dict locked -/
theorem keyIt_core {i : Nat} {ks : List D} {R : It → Hp → Prop} (hR : Rel c σ H ρ o P) {k : Bool} {ws : List D} {ob : Obj} {u : HO} (hs : σ[i]? = some (some (.ref a))) (hu : isDicH u = true) (hH : H a = some (.frz ob u)) (hn : ¬ All o P a) (hc : CellOf c (hide H (All o P)) (.dic k ks ws) u)
    (h : ∀ J Hd, ItOk c J Hd ks → Hd (hide H (All o P)) → R J H) : iKeys (tVar i) σ H R := by
  refine ⟨_, hs, a, ob, rfl, ?_⟩
  cases k with
  | false =>
    cases u <;> first | exact hc.elim | skip
    rename_i kvs
    refine .inl ⟨kvs, hH, h _ _ (hc.1 ▸ ito_keys) (hide_some.mpr ⟨hH, hn⟩)⟩
  | true =>
    cases u <;> first | exact hc.elim | skip
    rename_i kvs
    refine .inr ⟨kvs, hH, h _ _ (hc.1 ▸ ito_keysT) (hide_some.mpr ⟨hH, hn⟩)⟩
theorem keysOf_some {ks : List D} (h : keysOf d = some ks) : ∃ k ws, d = .dic k ks ws := by
  cases d <;> first | (cases h; done) | skip
  cases h; exact ⟨_, _, rfl⟩
/-- what a dict in a slot is -/
theorem key_slot {i : Nat} {ks : List D} (hR : Rel c σ H ρ o P) (e : keyIt i ρ = some (.val ks, ρ')) : ∃ o' k ws a u, Rel c σ H ρ' o' P ∧ Step H o H o' ∧ σ[i]? = some (some (.ref a)) ∧ isDicH u = true ∧ Rd H a u ∧ ¬ All o' P a ∧ CellOf c (hide H (All o' P)) (.dic k ks ws) u := by
  unfold keyIt at e
  cases e1 : frz ρ (.sl i) with
  | none => rw [e1] at e; cases e
  | some p =>
    obtain ⟨d, ρ2⟩ := p
    rw [e1] at e
    cases e2 : keysOf d with
    | none => simp only [Option.bind_some, e2, Option.map_none] at e; cases e
    | some ks' =>
      simp only [Option.bind_some, e2, Option.map_some] at e
      cases e
      obtain ⟨k, ws, rfl⟩ := keysOf_some e2
      have hsl : ∃ v, σ[i]? = some (some v) := by
        have q := hR.slot i
        unfold SlotOk at q
        simp only [frz] at e1
        cases hs : ρ[i]? with
        | none => rw [hs] at e1; cases e1
        | some s =>
          rw [hs] at e1 q
          cases s with
          | no => cases e1
          | fz d' => obtain ⟨_, v, h1, _⟩ := q; exact ⟨v, h1⟩
          | ow d' => obtain ⟨a, h1, _⟩ := q; exact ⟨_, h1⟩
      obtain ⟨v, hv⟩ := hsl
      obtain ⟨o2, P2, R2, b1, b2, S2, M2⟩ := frz_ok (P := P) hR (show RepR c σ H o P P (.sl i) v from hv) (fun _ h => h) e1
      have R3 := R2.shrink b1
      have M3 : Rep c (hide H (All o2 P)) (.dic k ks ws) v := Rep.mono (hide_mono fun a u e n => ⟨e, fun z => n (z.elim (fun z => .inl (b1 a z)) .inr)⟩) _ _ M2
      obtain ⟨a, u, rfl, h1, h2⟩ := rdV_self.mp M3
      have hu : isDicH u = true := by
        cases k <;> cases u <;> first | rfl | exact h2.elim
      refine ⟨o2, k, ws, a, u, R3, S2, hv, hu, ?_, ?_, h2⟩
      · rcases h1 with h1 | ⟨z, h1⟩
        · exact .inl (hide_some.mp h1).1
        · exact .inr ⟨z, (hide_some.mp h1).1⟩
      · rcases h1 with h1 | ⟨z, h1⟩
        · exact (hide_some.mp h1).2
        · exact (hide_some.mp h1).2
theorem keyIt_val {i : Nat} : keyIt i ρ = none ∨ ∃ ks ρ', keyIt i ρ = some (.val ks, ρ') := by
  unfold keyIt
  cases frz ρ (.sl i) with
  | none => exact .inl rfl
  | some p =>
    cases h : keysOf p.1 with
    | none => simp [h]
    | some ks => simp [h]
/-- the loop over keys, locked already -/
theorem forK_inner {i : Nat} {t : TG} {g : D → Env → Option Env} {body : SemS} (ht : TgOk c io t g) {ks : List D} {k : Bool} {ws : List D} {ob : Obj} {u : HO} (hR : Rel c σ H ρ o P) (hs : σ[i]? = some (some (.ref a))) (hu : isDicH u = true) (hH : H a = some (.frz ob u)) (hn : ¬ All o P a)
    (hc : CellOf c (hide H (All o P)) (.dic k ks ws) u) (hP : PostS c W io σ H o P (loopS g body ks ρ) En) : tFor (iKeys (tVar i)) t (tS c W io body) En σ H := by
  refine keyIt_core hR hs hu hH hn hc fun J Hd hI hd => ?_
  exact loop_core ht hI hR Step.refl Kept.refl hd hP
theorem mut_dic (h : isDicH u = true) : Mut (some u) := by cases u <;> first | (cases h; done) | exact True.intro
/-- for target in x: .., x a dict in a slot -/
theorem ds_forK {i : Nat} {x : Str} {tg : Expr} {body : List Stmt} {p pos : Pos} {t : TG} {g : D → Env → Option Env} {f : SemS} (hp : PassesOwn (model X.prog X.w) X.A X.env X.xe) (k : Okc c X) (hN : X.N[i]? = some x) (hv : Vis X.env.scope x) (hg : PG X tg t) (ht : TgOk c io t g) (hb : PSs X body (tS c W io f))
    (hd : (x == ("__debug__" : Str)) = false := by decide +kernel) (hcd : (x == ("__classdict__" : Str)) = false := by decide +kernel) (hs : ∀ y, foldedSetIterable (.Name x p) X.env y = pure y := by intro _; rfl) : PS X (.For tg (.Name x p) body [] pos) (tS c W io (forKS i g f)) := by
  have h1 := ps_for (pos := pos) hp k.calm (keyIt_locked (pos := p) (tg := tg) hN hv hd hcd) hg hb hs
  have h2 := ps_lock h1
  refine ⟨fun pins s σ H En I hw => ?_⟩
  obtain ⟨ρ, o, P, hR, hP⟩ := hw
  unfold forKS forS at hP
  rcases keyIt_val (ρ := ρ) (i := i) with e | ⟨ks, ρ1, e⟩
  · rw [e] at hP; exact hP.elim
  · rw [e] at hP
    obtain ⟨o1, kk, ws, a, u, R1, S1, hsl, hu, hrd, hna, hc⟩ := key_slot hR e
    have hP : PostS c W io σ H o P (noExc (loopS g f ks ρ1)) En := hP
    have hP1 := PostS.later (res := noExc (loopS g f ks ρ1)) (En := En) hP S1 Kept.refl
    rcases hrd with hH | ⟨ob, hH⟩
    · -- not locked yet
      refine h2.run pins s σ H En I ⟨a, u, hH, mut_dic hu, fun od => ?_⟩
      have rk : Relock u (.frz od u) := ⟨u, od, hu, .inl ⟨rfl, rfl⟩⟩
      have rk' : Relock (.frz od u) u := ⟨u, od, hu, .inr ⟨rfl, rfl⟩⟩
      have R2 := R1.relock hH hna rk
      have hno : ∀ i, ¬ o1 i a := fun i z => hna (.inr ⟨i, z⟩)
      refine forK_inner ht R2 hsl hu upd_same hna (hc.monoR (rk.leR hH hna)) ?_
      have fin : ∀ {ρ' : Env} {K : St → Hp → Prop}, (∀ σ' H' o', Rel c σ' H' ρ' o' P → Step H o1 H' o' → Kept io σ σ' → K σ' H') → ∀ σ' H' o', Rel c σ' H' ρ' o' P → Step (upd H a (.frz od u)) o1 H' o' → Kept io σ σ' → H' a = some (.frz od u) ∧ K σ' (upd H' a u) := fun {ρ' K} h σ' H' o' R' S' K' => by
        obtain ⟨e1, S3⟩ := S'.relock hH hno
        have hna' : ¬ All o' P a := fun z => by
          rcases z with z | ⟨j, z⟩
          · exact hna (.inl z)
          · rcases S'.news j a z with q | q
            · exact hno j q
            · rw [upd_same] at q; cases q
        exact ⟨e1, h σ' _ o' (R'.relock e1 hna' rk') S3 K'⟩
      cases el : loopS g f ks ρ1 with
      | none => rw [el] at hP1; exact hP1
      | some p =>
        obtain ⟨q, ρ2⟩ := p
        rw [el] at hP1
        cases q with
        | nx => exact fin hP1
        | bk => exact fin hP1
        | ct => exact fin hP1
        | exc z => exact hP1.elim
        | ret r =>
          intro v σ' H' o' P' R' G' S' K' M'
          obtain ⟨e1, S3⟩ := S'.relock hH hno
          have hna' : ¬ All o' P' a := fun z => by
            rcases z with z | ⟨j, z⟩
            · rcases G'.new a z with q | q
              · exact hna (.inl q)
              · rw [upd_same] at q; cases q
            · rcases S'.news j a z with q | q
              · exact hno j q
              · rw [upd_same] at q; cases q
          exact ⟨e1, hP1 v σ' _ o' P' (R'.relock e1 hna' rk') (G'.relock hH) S3 K' (M'.relock R' e1 hna' rk')⟩
    · refine h1.run pins s σ H En I (forK_inner ht R1 hsl hu hH hna hc ?_)
      cases el : loopS g f ks ρ1 with
      | none => rw [el] at hP1; exact hP1
      | some p =>
        obtain ⟨q, ρ2⟩ := p
        rw [el] at hP1
        cases q with
        | exc z => exact hP1.elim
        | nx => exact hP1
        | bk => exact hP1
        | ct => exact hP1
        | ret r => exact hP1
end
end Ly
set_option Elab.async false
set_option linter.all false
set_option maxRecDepth 100000
set_option maxHeartbeats 1000000
namespace Ly
open PySem L2

/-! ### 22. comprehensions -/
def wipeE (ρ : Env) : List Nat → Env
  | [] => ρ
  | v :: vs => (wipeE ρ vs).set v .no
def backE (ρ0 ρ : Env) : List Nat → Env
  | [] => ρ
  | v :: vs => (backE ρ0 ρ vs).set v (ρ0.getD v .no)
def noOw (ρ : Env) (vs : List Nat) : Bool := vs.all fun v => match ρ[v]? with
  | some (.ow _) => false
  | _ => true
abbrev WF : WXX := fun _ _ _ _ => False
def yesT : Sem Bool := fun ρ => some (.val true, ρ)
def lcLoop (g : D → Env → Option Env) (tt : Sem Bool) (f : Sem R) (vs : List Nat) : List D → List D → Env → Option (List D × Env)
  | [], acc, ρ => some (acc, ρ)
  | d :: ds, acc, ρ => (g d ρ).bind fun ρ1 => match tt ρ1 with
    | some (.val true, ρ2) => (match frzS f ρ2 with
      | some (.val x, ρ3) => if acc.length < 1000000 then lcLoop g tt f vs ds (acc ++ [x]) (wipeE ρ3 vs) else none
      | _ => none)
    | some (.val false, ρ2) => lcLoop g tt f vs ds acc (wipeE ρ2 vs)
    | _ => none
def lcS (it : Sem (List D)) (g : D → Env → Option Env) (tt : Sem Bool) (f : Sem R) (vs : List Nat) : Sem R := fun ρ => bnd (it ρ) fun ds ρ1 =>
  if noOw ρ1 vs then (lcLoop g tt f vs ds [] (wipeE ρ1 vs)).map fun p => (.val (.fr (.lst p.1)), backE ρ1 p.2 vs) else none
/-- the slots that a block keeps -/
def blkIo (vs : List Nat) (i : Nat) : Bool := !vs.contains i
section
variable {c : Cc} {W : WXX} {io : Nat → Bool} {X : Cx} {σ σ1 σ2 : St} {H H0 H1 H' G G' : Hp} {ρ ρ0 ρ1 ρ2 ρ' : Env} {o o0 o1 o2 o' : Ownr} {P P1 P2 P' : Prot} {d d1 d2 : D} {v v1 v2 : V} {r : R} {a b p : Addr} {u w : HO} {e : Expr} {f : Sem R} {t : Sem Bool} {En : Ends} {ds xs ys : List D} {vs : List Nat}
theorem wipeE_len : ∀ vs, (wipeE ρ vs).length = ρ.length
  | [] => rfl
  | v :: vs => by unfold wipeE; rw [List.length_set, wipeE_len vs]
theorem backE_len : ∀ vs, (backE ρ0 ρ vs).length = ρ.length
  | [] => rfl
  | v :: vs => by unfold backE; rw [List.length_set, backE_len vs]
theorem wipeE_in {i : Nat} : ∀ {vs}, i ∈ vs → i < ρ.length → (wipeE ρ vs)[i]? = some .no
  | v :: vs, h, hi => by
    unfold wipeE
    by_cases e : v = i
    · subst e; rw [List.getElem?_set_self (by rw [wipeE_len]; exact hi)]
    · rw [List.getElem?_set_ne e]
      exact wipeE_in ((List.mem_cons.mp h).resolve_left fun z => e z.symm) hi
theorem wipeE_out {i : Nat} : ∀ {vs}, i ∉ vs → (wipeE ρ vs)[i]? = ρ[i]?
  | [], _ => rfl
  | v :: vs, h => by
    unfold wipeE
    rw [List.getElem?_set_ne (fun e => h (List.mem_cons.mpr (.inl e.symm)))]
    exact wipeE_out fun z => h (List.mem_cons.mpr (.inr z))
theorem wipe_out {i : Nat} : ∀ {vs}, i ∉ vs → (wipe σ vs)[i]? = σ[i]?
  | [], _ => rfl
  | v :: vs, h => by
    unfold wipe
    rw [List.getElem?_set_ne (fun e => h (List.mem_cons.mpr (.inl e.symm)))]
    exact wipe_out fun z => h (List.mem_cons.mpr (.inr z))
theorem wipe_in {i : Nat} : ∀ {vs}, i ∈ vs → i < σ.length → (wipe σ vs)[i]? = some none
  | v :: vs, h, hi => by
    unfold wipe
    by_cases e : v = i
    · subst e; rw [List.getElem?_set_self (by rw [wipe_length]; exact hi)]
    · rw [List.getElem?_set_ne e]
      exact wipe_in ((List.mem_cons.mp h).resolve_left fun z => e z.symm) hi
theorem backE_out {i : Nat} : ∀ {vs}, i ∉ vs → (backE ρ0 ρ vs)[i]? = ρ[i]?
  | [], _ => rfl
  | v :: vs, h => by
    unfold backE
    rw [List.getElem?_set_ne (fun e => h (List.mem_cons.mpr (.inl e.symm)))]
    exact backE_out fun z => h (List.mem_cons.mpr (.inr z))
theorem backE_in {i : Nat} : ∀ {vs}, i ∈ vs → i < ρ.length → (backE ρ0 ρ vs)[i]? = some (ρ0.getD i .no)
  | v :: vs, h, hi => by
    unfold backE
    by_cases e : v = i
    · subst e; rw [List.getElem?_set_self (by rw [backE_len]; exact hi)]
    · rw [List.getElem?_set_ne e]
      exact backE_in ((List.mem_cons.mp h).resolve_left fun z => e z.symm) hi
/-- slots let go: those that own nothing, or all of them -/
theorem Rel.wipeG (h : Rel c σ H ρ o P) : Rel c (wipe σ vs) H (wipeE ρ vs) (fun i a => i ∉ vs ∧ o i a) P ∧ Step H o H (fun i a => i ∉ vs ∧ o i a) := by
  have le : Le (hide H (All o P)) (hide H (All (fun i a => i ∉ vs ∧ o i a) P)) := hide_mono fun b u e n => ⟨e, fun q => n (q.elim .inl fun ⟨i, z⟩ => .inr ⟨i, z.2⟩)⟩
  refine ⟨⟨by rw [wipe_length, wipeE_len]; exact h.len, fun i => ?_, fun i j a x y => h.disj i j a x.2 y.2, fun i a x => h.dP i a x.2, h.prot⟩, fun _ _ h _ => h, fun i a x => .inl x.2, fun a u h => ⟨u, h⟩⟩
  by_cases hi : i ∈ vs
  · by_cases hl : i < ρ.length
    · rw [wipeE_in hi hl]
      exact fun a z => z.1 hi
    · rw [show (wipeE ρ vs)[i]? = none from List.getElem?_eq_none (by rw [wipeE_len]; omega)]
      exact fun a z => z.1 hi
  · rw [wipe_out hi, wipeE_out hi]
    have q := slotOk_mono le (h.slot i)
    have e : (fun a => i ∉ vs ∧ o i a) = o i := by funext a; simp [hi]
    rw [e]
    exact q
theorem noOw_none (h : Rel c σ H ρ o P) (hn : noOw ρ vs = true) {i : Nat} (hi : i ∈ vs) : ∀ a, ¬ o i a := by
  have q := h.slot i
  have := List.all_eq_true.mp hn i hi
  unfold SlotOk at q
  split at q
  · exact q.1
  · rename_i d e
    rw [e] at this; cases this
  · exact q
theorem wipe_kept (hk : Kept (blkIo vs) (wipe σ vs) σ2) (hl : σ2.length = σ.length) : wipe σ2 vs = wipe σ vs := by
  refine List.ext_getElem? fun i => ?_
  by_cases hi : i ∈ vs
  · by_cases hlt : i < σ.length
    · rw [wipe_in hi hlt, wipe_in hi (hl ▸ hlt)]
    · rw [List.getElem?_eq_none (by rw [wipe_length]; omega), List.getElem?_eq_none (by rw [wipe_length]; omega)]
  · rw [wipe_out hi, hk i (by unfold blkIo; simp [hi])]
/-- back in the def: the block's slots as they were -/
theorem Rel.backG (h0 : Rel c σ H0 ρ0 o0 P) (hn : noOw ρ0 vs = true) (h : Rel c (wipe σ vs) H ρ o P1) (g : Grow H0 P P1) (s : Step H0 o0 H o) (hv : ∀ i ∈ vs, ∀ a, ¬ o i a) : Rel c σ H (backE ρ0 ρ vs) o P1 := by
  have hl : ρ.length = σ.length := by rw [← h.len, wipe_length]
  refine ⟨by rw [backE_len]; exact hl.symm, fun i => ?_, h.disj, h.dP, h.prot⟩
  by_cases hi : i ∈ vs
  · by_cases hlt : i < ρ.length
    · rw [backE_in hi hlt]
      have hlt0 : i < ρ0.length := by rw [← h0.len, ← hl]; exact hlt
      have e0 : ρ0[i]? = some (ρ0.getD i .no) := by
        rw [List.getD_eq_getElem?_getD, List.getElem?_eq_getElem hlt0]; rfl
      have q := h0.slot i
      have nw := List.all_eq_true.mp hn i hi
      rw [e0] at q nw
      unfold SlotOk at q ⊢
      cases hs : ρ0.getD i .no with
      | no => exact hv i hi
      | fz d =>
        rw [hs] at q
        obtain ⟨_, v, h1, h2⟩ := q
        exact ⟨hv i hi, v, h1, Rep.mono (s.hide g.new) _ _ h2⟩
      | ow d => rw [hs] at nw; cases nw
    · rw [show (backE ρ0 ρ vs)[i]? = none from List.getElem?_eq_none (by rw [backE_len]; omega)]
      exact hv i hi
  · rw [backE_out hi]
    have q := h.slot i
    rw [wipe_out hi] at q
    exact q
/-- a protected thing is written -/
theorem Rel.fill (hR : Rel c σ H ρ o P) (hp : P p) (hn : ∀ xs, u ≠ .tup xs) : Rel c σ (upd H p u) ρ o P ∧ Le (hide H (All o P)) (hide (upd H p u) (All o P)) := by
  have hle : Le (hide H (All o P)) (hide (upd H p u) (All o P)) := hide_mono fun b x e n => ⟨by
    have : b ≠ p := fun z => n (.inl (z ▸ hp))
    rw [upd_ne this]; exact e, n⟩
  refine ⟨⟨hR.len, fun i => ?_, hR.disj, hR.dP, fun b z => ?_⟩, hle⟩
  · have q := hR.slot i
    unfold SlotOk at q ⊢
    split
    · rename_i es
      rw [es] at q
      obtain ⟨q1, v, q2, q3⟩ := q
      exact ⟨q1, v, q2, Rep.mono hle _ _ q3⟩
    · rename_i es
      rw [es] at q
      obtain ⟨b, q1, q2⟩ := q
      refine ⟨b, q1, q2.keep (fun x w hx hw => ?_) hle⟩
      have : x ≠ p := fun z => hR.dP i x hx (z ▸ hp)
      rw [upd_ne this]; exact hw
    · rename_i n1 n2
      split at q
      · rename_i es; exact (n1 _ es).elim
      · rename_i es; exact (n2 _ es).elim
      · exact q
  · by_cases hb : b = p
    · rw [hb]; exact ⟨u, upd_same, hn⟩
    · obtain ⟨x, z1, z2⟩ := hR.prot b z
      exact ⟨x, by rw [upd_ne hb]; exact z1, z2⟩
theorem Step.fill (s : Step H0 o0 H o) (e : H0 p = none) : Step H0 o0 (upd H p u) o := by
  refine ⟨fun b x hb hn => ?_, s.news, fun b x hb => ?_⟩
  · rw [upd_ne (ne_of_none hb e)]; exact s.keep b x hb hn
  · rw [upd_ne (ne_of_none hb e)]; exact s.there b x hb
abbrev tTT (c : Cc) (W : WXX) (f : Sem Bool) : TT := tT c W f
/-- the loop of a list comprehension -/
theorem lc_loop {g : D → Env → Option Env} {tt : Sem Bool} {t : TG} {J : It} {Hd : Hp → Prop} {Q : VK} {L : Addr} (ht : TgOk c (blkIo vs) t g) (hI : ItOk c J Hd ds) (h0 : Rel c σ H ρ o P) (hn : noOw ρ vs = true) (hL : H L = none) (hd : Hd (hide H (All o P)))
    (hP : Post c W RepR σ H o P ((lcLoop g tt f vs ds [] (wipeE ρ vs)).map fun p => (.val (.fr (.lst p.1)), backE ρ p.2 vs)) Q) :
    ∃ Wv : Nat → Nat → Hp → Prop, (∃ m, Wv 0 m (upd H L (.lst []))) ∧ ∀ i m H, Wv i m H →
  (J.stop i H ∧ Q (.ref L) H) ∨ (J.go i H ∧ ∃ Nx : Hp → Prop, (∀ H', Nx H' → ∃ m', m' < m ∧ Wv (i + 1) m' H') ∧ ∀ x H', J.yld i H x H' → t x (wipe σ vs) H' fun σ2 H2 => wipe σ2 vs = wipe σ vs ∧ tT c WF tt σ2 H2 fun b H3 =>
    if b = true then tF c WF (frzS f) σ2 H3 fun y H4 => ∃ acc, H4 L = some (.lst acc) ∧ acc.length < sizeLine ∧ Nx (upd H4 L (.lst (acc ++ [y]))) else Nx H3) := by
  obtain ⟨R0, le0, G0, S0⟩ := h0.lay (u := .lst []) hL (fun _ => nofun)
  obtain ⟨Rw, Sw⟩ := R0.wipeG (vs := vs)
  -- what a turn leaves
  let In : Nat → Hp → Prop := fun i H' => ∃ ρ' o' acc av, Rel c (wipe σ vs) H' ρ' o' (fun x => P x ∨ x = L) ∧ Step H o H' o' ∧ (∀ i ∈ vs, ∀ a, ¬ o' i a) ∧ Hd (hide H' (All o' fun x => P x ∨ x = L)) ∧ H' L = some (.lst av) ∧ Reps c (hide H' (All o' fun x => P x ∨ x = L)) acc av ∧
    Post c W RepR σ H o P ((lcLoop g tt f vs (ds.drop i) acc ρ').map fun p => (.val (.fr (.lst p.1)), backE ρ p.2 vs)) Q
  refine ⟨fun i m H' => i + m = ds.length ∧ In i H', ⟨ds.length, by omega, wipeE ρ vs, _, [], [], Rw, S0.trans Sw, fun i hi a z => z.1 hi, ?_, upd_same, Reps.nil, by simpa using hP⟩, ?_⟩
  · exact hI.mono _ _ (Sw.hide fun a z => .inl z) (hI.mono _ _ le0 hd)
  rintro i m H2 ⟨him, ρ2, o2, acc, av, R2, S2, nv2, hd2, hL2, hacc, hP2⟩
  have und := R2.und
  by_cases hi : i < ds.length
  · refine .inr ⟨hI.go _ _ i und hd2 hi, fun H' => (i + 1) + (m - 1) = ds.length ∧ In (i + 1) H', fun H' hq => ⟨m - 1, by omega, hq⟩, fun x H3 hy => ?_⟩
    have hdi : ds.drop i = ds[i] :: ds.drop (i + 1) := List.drop_eq_getElem_cons hi
    rw [hdi] at hP2
    obtain ⟨R3, S3, M3⟩ := resF R2 (hI.yld _ _ i x H3 ds[i] und hd2 (List.getElem?_eq_getElem hi) hy)
    have hd3 : Hd (hide H3 (All o2 fun x => P x ∨ x = L)) := hI.mono _ _ (S3.hide fun a z => .inl z) hd2
    have ha3 : Reps c (hide H3 (All o2 fun x => P x ∨ x = L)) acc av := Reps.mono (S3.hide fun a z => .inl z) _ _ hacc
    have nL2 : ∀ i, ¬ o2 i L := fun i z => R2.dP i L z (.inr rfl)
    have hL3 : H3 L = some (.lst av) := S3.keep L _ hL2 nL2
    unfold lcLoop at hP2
    cases e1 : g ds[i] ρ2 with
    | none => simp only [e1, Option.bind_none, Option.map_none] at hP2; exact hP2.elim
    | some ρ3 =>
      simp only [e1, Option.bind_some] at hP2
      refine ht.run _ H3 ρ2 o2 _ _ x ρ3 _ R3 M3 e1 fun σ4 o4 R4 S4 K4 => ?_
      have hl4 : σ4.length = σ.length := by
        rw [R4.len, ht.len _ _ _ e1, ← R3.len, wipe_length]
      refine ⟨wipe_kept K4 hl4, ?_⟩
      have hd4 : Hd (hide H3 (All o4 fun x => P x ∨ x = L)) := hI.mono _ _ (S4.hide fun a z => .inl z) hd3
      have ha4 : Reps c (hide H3 (All o4 fun x => P x ∨ x = L)) acc av := Reps.mono (S4.hide fun a z => .inl z) _ _ ha3
      have S24 := (S2.trans S3).trans S4
      have nL4 : ∀ i, ¬ o4 i L := fun i z => R4.dP i L z (.inr rfl)
      -- the turn's end
      have wk : wipe σ4 vs = wipe σ vs := wipe_kept K4 hl4
      have fin : ∀ {ρ5 o5 H5 acc2 av2}, Rel c σ4 H5 ρ5 o5 (fun x => P x ∨ x = L) → Step H o H5 o5 → Hd (hide H5 (All o5 fun x => P x ∨ x = L)) → H5 L = some (.lst av2) → Reps c (hide H5 (All o5 fun x => P x ∨ x = L)) acc2 av2 →
          Post c W RepR σ H o P ((lcLoop g tt f vs (ds.drop (i + 1)) acc2 (wipeE ρ5 vs)).map fun p => (.val (.fr (.lst p.1)), backE ρ p.2 vs)) Q → (i + 1) + (m - 1) = ds.length ∧ In (i + 1) H5 := fun {ρ5 o5 H5 acc2 av2} R5 S5 hd5 hL5 ha5 hP5 => by
        obtain ⟨Rw5, Sw5⟩ := R5.wipeG (vs := vs)
        rw [wk] at Rw5
        exact ⟨by omega, _, _, acc2, av2, Rw5, S5.trans Sw5, fun i hi a z => z.1 hi, hI.mono _ _ (Sw5.hide fun a z => .inl z) hd5, hL5, Reps.mono (Sw5.hide fun a z => .inl z) _ _ ha5, hP5⟩
      refine ⟨ρ3, o4, _, R4, ?_⟩
      cases e2 : tt ρ3 with
      | none => simp only [e2, Option.map_none] at hP2; exact hP2.elim
      | some q =>
        obtain ⟨q, ρ5⟩ := q
        cases q with
        | exc z => simp only [e2, Option.map_none] at hP2; exact hP2.elim
        | val bb =>
          intro b' H5 o5 P5 R5 G5 S5 M5
          have eb : bb = b' := M5
          subst eb
          have R5 := R5.shrink G5.sub
          have S25 := S24.trans S5
          have hd5 : Hd (hide H5 (All o5 fun x => P x ∨ x = L)) := hI.mono _ _ (S5.hide fun a z => .inl z) hd4
          have ha5 : Reps c (hide H5 (All o5 fun x => P x ∨ x = L)) acc av := Reps.mono (S5.hide fun a z => .inl z) _ _ ha4
          have hL5 : H5 L = some (.lst av) := S5.keep L _ hL3 nL4
          have nL5 : ∀ i, ¬ o5 i L := fun i z => R5.dP i L z (.inr rfl)
          cases bb with
          | false =>
            simp only [e2] at hP2
            exact fin R5 S25 hd5 hL5 ha5 hP2
          | true =>
            simp only [e2] at hP2
            show tF c WF (frzS f) σ4 H5 _
            refine ⟨ρ5, o5, _, R5, ?_⟩
            cases e3 : frzS f ρ5 with
            | none => simp only [e3, Option.map_none] at hP2; exact hP2.elim
            | some q =>
              obtain ⟨q, ρ6⟩ := q
              cases q with
              | exc z => simp only [e3, Option.map_none] at hP2; exact hP2.elim
              | val xd =>
                simp only [e3] at hP2
                by_cases hlen : acc.length < 1000000
                · rw [if_pos hlen] at hP2
                  intro y H6 o6 P6 R6 G6 S6 M6
                  have M6 : Rep c (hide H6 (All o6 P6)) xd y := M6
                  have R6' := R6.shrink G6.sub
                  have M6' : Rep c (hide H6 (All o6 fun x => P x ∨ x = L)) xd y := Rep.mono (hide_mono fun a u e n => ⟨e, fun z => n (z.elim (fun z => .inl (G6.sub a z)) .inr)⟩) _ _ M6
                  have hL6 : H6 L = some (.lst av) := S6.keep L _ hL5 nL5
                  have ha6 : Reps c (hide H6 (All o6 fun x => P x ∨ x = L)) acc av := Reps.mono (S6.hide fun a z => .inl z) _ _ ha5
                  have hd6 : Hd (hide H6 (All o6 fun x => P x ∨ x = L)) := hI.mono _ _ (S6.hide fun a z => .inl z) hd5
                  have hav : av.length < sizeLine := by rw [← hacc.len]; exact m_lt hlen
                  obtain ⟨R7, le7⟩ := R6'.fill (p := L) (u := .lst (av ++ [y])) (.inr rfl) (fun _ => nofun)
                  exact ⟨av, hL6, hav, fin R7 ((S25.trans S6).fill hL) (hI.mono _ _ le7 hd6) upd_same ((Reps.mono le7 _ _ ha6).append (.cons (Rep.mono le7 _ _ M6') .nil)) hP2⟩
                · rw [if_neg hlen] at hP2; exact hP2.elim
  · have hl : i = ds.length := by omega
    subst hl
    refine .inl ⟨hI.stop _ _ und hd2, ?_⟩
    rw [List.drop_length] at hP2
    have R3 := h0.backG hn R2 (P1 := fun x => P x ∨ x = L) ⟨fun _ z => .inl z, fun b z => z.elim .inl fun z => .inr (z ▸ hL)⟩ S2 nv2
    refine hP2 (.ref L) H2 o2 (fun x => P x ∨ x = L) R3 ⟨fun _ z => .inl z, fun b z => z.elim .inl fun z => .inr (z ▸ hL)⟩ S2 ⟨L, fun x => x = L, rfl, cell_own hL2 hacc (fun _ => nofun), fun x hx => ⟨.inr hx, fun q => ?_⟩⟩
    obtain ⟨w, q1, _⟩ := h0.prot x q
    rw [hx, hL] at q1; cases q1
end
end Ly
set_option Elab.async false
set_option linter.all false
set_option maxRecDepth 100000
set_option maxHeartbeats 1000000
namespace Ly
open PySem L2

section
variable {c : Cc} {W : WXX} {io : Nat → Bool} {X : Cx} {σ σ1 σ2 : St} {H H0 H1 H' G G' : Hp} {ρ ρ0 ρ1 ρ2 ρ' : Env} {o o0 o1 o2 o' : Ownr} {P P1 P2 P' : Prot} {d d1 d2 : D} {v v1 v2 : V} {r : R} {a b p : Addr} {u w : HO} {e : Expr} {f : Sem R} {t : Sem Bool} {En : Ends} {ds xs ys : List D} {vs : List Nat}
theorem Okc.blk (k : Okc c X) (s : Shared) (H : Hp) (scope : Scope) (ce : PySem.Env) (fp : List Addr) : Okc c (X.blk s H scope ce fp) := ⟨k.hK, k.hu, k.calm, k.hN⟩
theorem pts_of {ifs : List Expr} {t t' : TT} (h : PTs X ifs t) (k : ∀ σ H Q, t' σ H Q → t σ H Q) : PTs X ifs t' := ⟨fun pins s σ H Q I q => h.run pins s σ H Q I (k σ H Q q)⟩
theorem td_nil : PTs X [] (tT c W yesT) := pts_of pts_nil fun σ H Q ⟨ρ, o, P, hR, hP⟩ => hP true H o P hR Grow.refl Step.refl rfl
theorem td_one {ec : Expr} {t : Sem Bool} (h : PT X ec (tT c W t)) : PTs X [ec] (tT c W t) := pts_one h
/-- what a block's derivation is for -/
abbrev AllBlk (X : Cx) (scope : Scope) (C : Cx → Prop) : Prop := ∀ (s : Shared) (H : Hp) (C0 : Addr) (cl : List (Str × Addr)) (fp : List Addr), C (X.blk s H scope (compEnvC scope cl C0 X.env) fp)
theorem lc_core' {it : Sem (List D)} {g : D → Env → Option Env} {tt : Sem Bool} {t : TG} {Q : VK} (ht : TgOk c (blkIo vs) t g) (h : tE c W (lcS it g tt f vs) σ H Q) : tLc (tI c W it) t (tT c WF tt) (tF c WF (frzS f)) vs σ H Q := by
  obtain ⟨ρ, o, P, hR, hP⟩ := h
  refine seq1 base_R hR hP fun ds ρ1 J H1 o1 P1 R1 G1 S1 M1 hP1 => ?_
  obtain ⟨Hd, hI, hd⟩ := M1
  intro L hL
  by_cases hn : noOw ρ1 vs = true
  · simp only [hn, if_true] at hP1
    exact lc_loop ht hI R1 hn hL hd hP1
  · simp only [hn] at hP1; exact hP1.elim
theorem pd_lc {elt tg iter : Expr} {ifs : List Expr} {scope : Scope} {own : List (Str × Nat)} {pos : Pos} {it : Sem (List D)} {g : D → Env → Option Env} {tt : Sem Bool} {t : TG} (k : Okc c X) (hi : PI X tg iter (tI c W it)) (ok : BlkOk X.N X.env.scope scope own)
    (hg : AllBlk X scope fun B => PG B tg t) (ht : TgOk c (blkIo (own.map (·.2))) t g) (htt : AllBlk X scope fun B => PTs B ifs (tT c WF tt)) (he : AllBlk X scope fun B => PE B elt (tE c WF f)) (hs : ∀ x, foldedSetIterable iter X.env x = pure x := by intro _; rfl) :
    PE X (.ListComp elt [⟨tg, iter, ifs, 0⟩] scope pos) (tE c W (lcS it g tt f (own.map (·.2)))) :=
  pe_of (pe_lc k.calm k.hN hi ok hg htt (fun s H C cl fp => fd_of (he s H C cl fp)) hs) fun σ H Q h => lc_core' ht h
/-- y = [..] in one line: a step of its own -/
theorem set_core {i : Nat} {x : Str} (hio : io i = false) (h : tS c W io (setS i f) En σ H) : tAsg (tE c W f) (gName i) En σ H := by
  obtain ⟨ρ, o, P, hR, hP⟩ := h
  refine stm hR Grow.refl Step.refl hP fun r ρ2 v H2 o2 P2 R2 G2 S2 M2 hP2 => ?_
  cases es : stoR i ρ2 r with
  | none => rw [es] at hP2; exact hP2.elim
  | some ρ3 =>
    rw [es] at hP2
    obtain ⟨o3, R3, S3⟩ := sto_ok R2 M2 G2 S2 es
    refine hP2 _ H2 o3 R3 S3 fun j hj => ?_
    rw [List.getElem?_set_ne]
    intro z; subst z; rw [hio] at hj; cases hj
theorem tAsg_of {te te' : TE} {g : TG} (h : ∀ σ H Q, te' σ H Q → te σ H Q) : ∀ En σ H, tAsg te' g En σ H → tAsg te g En σ H := fun En σ H q => h _ _ _ q
theorem ds_setLc {i : Nat} {y : Str} {py : Pos} {elt tg iter : Expr} {ifs : List Expr} {scope : Scope} {own : List (Str × Nat)} {pos spos : Pos} {it : Sem (List D)} {g : D → Env → Option Env} {tt : Sem Bool} {t : TG} (k : Okc c X) (hio : io i = false) (hy : X.N[i]? = some y) (hyl : X.env.scope.names.lookup y = some .local)
    (hsw : swapsWith (.ListComp elt [⟨tg, iter, ifs, 0⟩] scope pos) (some (.Name y py)) spos.line X.env = pure true) (hi : PI X tg iter (tI c W it)) (ok : BlkOk X.N X.env.scope scope own)
    (hg : AllBlk X scope fun B => PG B tg t) (ht : TgOk c (blkIo (own.map (·.2))) t g) (htt : AllBlk X scope fun B => PTs B ifs (tT c WF tt)) (he : AllBlk X scope fun B => PE B elt (tE c WF f)) (hs : ∀ x, foldedSetIterable iter X.env x = pure x := by intro _; rfl) :
    PS X (.Assign [.Name y py] (.ListComp elt [⟨tg, iter, ifs, 0⟩] scope pos) spos) (tS c W io (setS i (lcS it g tt f (own.map (·.2))))) :=
  ps_of (ps_setLc k.calm k.hN hy hyl hsw hi ok hg htt (fun s H C cl fp => fd_of (he s H C cl fp)) hs) fun En σ H h => tAsg_of (fun σ H Q h => lc_core' ht h) En σ H (set_core (x := y) hio h)

/-! over the keys of a dict in a slot -/
def lcKS (i : Nat) (g : D → Env → Option Env) (tt : Sem Bool) (f : Sem R) (vs : List Nat) : Sem R := lcS (keyIt i) g tt f vs
theorem lcK_lock {i : Nat} {x : Str} {tg elt : Expr} {ifs : List Expr} {scope : Scope} {own : List (Str × Nat)} {p pos : Pos} {g : D → Env → Option Env} {tt : Sem Bool} {t : TG} (k : Okc c X) (hN : X.N[i]? = some x) (hv : Vis X.env.scope x) (ok : BlkOk X.N X.env.scope scope own)
    (hg : AllBlk X scope fun B => PG B tg t) (ht : TgOk c (blkIo (own.map (·.2))) t g) (htt : AllBlk X scope fun B => PTs B ifs (tT c WF tt)) (he : AllBlk X scope fun B => PE B elt (tE c WF f)) (hd : (x == ("__debug__" : Str)) = false := by decide +kernel) (hcd : (x == ("__classdict__" : Str)) = false := by decide +kernel)
    (hs : ∀ y, foldedSetIterable (.Name x p) X.env y = pure y := by intro _; rfl) : PE X (.ListComp elt [⟨tg, .Name x p, ifs, 0⟩] scope pos) (tE c W (lcKS i g tt f (own.map (·.2)))) := by
  have h1 := pe_lc (pos := pos) k.calm k.hN (keyIt_locked (pos := p) (tg := tg) hN hv hd hcd) ok hg htt (fun s H C cl fp => fd_of (he s H C cl fp)) hs
  have h2 := pe_lock h1
  refine ⟨fun pins s σ H Q I hw => ?_⟩
  obtain ⟨ρ, o, P, hR, hP⟩ := hw
  unfold lcKS lcS at hP
  rcases keyIt_val (ρ := ρ) (i := i) with e | ⟨ks, ρ1, e⟩
  · rw [e] at hP; exact hP.elim
  · rw [e] at hP
    obtain ⟨o1, kk, ws, a, u, R1, S1, hsl, hu, hrd, hna, hc⟩ := key_slot hR e
    by_cases hn : noOw ρ1 (own.map (·.2)) = true
    · simp only [bnd, hn, if_true] at hP
      have hP1 := Post.later (res := (lcLoop g tt f (own.map (·.2)) ks [] (wipeE ρ1 (own.map (·.2)))).map fun p => (.val (.fr (.lst p.1)), backE ρ1 p.2 (own.map (·.2)))) base_R hP S1 (Grow.refl (P := P))
      rcases hrd with hH | ⟨ob, hH⟩
      · refine h2.run pins s σ H Q I ⟨a, u, hH, mut_dic hu, fun od => ?_⟩
        have rk : Relock u (.frz od u) := ⟨u, od, hu, .inl ⟨rfl, rfl⟩⟩
        have rk' : Relock (.frz od u) u := ⟨u, od, hu, .inr ⟨rfl, rfl⟩⟩
        have R2 := R1.relock hH hna rk
        have hno : ∀ i, ¬ o1 i a := fun i z => hna (.inr ⟨i, z⟩)
        refine keyIt_core R2 hsl hu upd_same hna (hc.monoR (rk.leR hH hna)) fun J Hd hI hd L hL => ?_
        refine lc_loop (W := W) (g := g) (tt := tt) (f := f) (Q := fun v H' => H' a = some (HO.frz od u) ∧ Q v (upd H' a u)) ht hI R2 hn hL hd ?_
        cases el : lcLoop g tt f (own.map (·.2)) ks [] (wipeE ρ1 (own.map (·.2))) with
        | none => rw [el] at hP1; exact hP1
        | some q =>
          rw [el] at hP1
          intro v H' o' P' R' G' S' M'
          obtain ⟨e1, S3⟩ := S'.relock hH hno
          have hna' : ¬ All o' P' a := fun z => by
            rcases z with z | ⟨j, z⟩
            · rcases G'.new a z with q | q
              · exact hna (.inl q)
              · rw [upd_same] at q; cases q
            · rcases S'.news j a z with q | q
              · exact hno j q
              · rw [upd_same] at q; cases q
          exact ⟨e1, hP1 v _ o' P' (R'.relock e1 hna' rk') (G'.relock hH) S3 (M'.relock R' e1 hna' rk')⟩
      · refine h1.run pins s σ H Q I (keyIt_core R1 hsl hu hH hna hc fun J Hd hI hd L hL => ?_)
        exact lc_loop ht hI R1 hn hL hd hP1
    · simp only [bnd, hn] at hP; exact hP.elim

/-! dict comprehensions, keys ints or texts -/
def dcLoop (g : D → Env → Option Env) (tt : Sem Bool) (fk f : Sem R) (vs : List Nat) : List D → List D × List D → Env → Option ((List D × List D) × Env)
  | [], acc, ρ => some (acc, ρ)
  | d :: ds, acc, ρ => (g d ρ).bind fun ρ1 => match tt ρ1 with
    | some (.val true, ρ2) => (match frzS fk ρ2 with
      | some (.val y, ρ3) => (match frzS f ρ3 with
        | some (.val x, ρ4) => (match kOf y with
          | some q => if acc.1.length < 1000000 then dcLoop g tt fk f vs ds (dput false acc.1 acc.2 (.k q) y x) (wipeE ρ4 vs) else none
          | none => none)
        | _ => none)
      | _ => none)
    | some (.val false, ρ2) => dcLoop g tt fk f vs ds acc (wipeE ρ2 vs)
    | _ => none
def dcS (it : Sem (List D)) (g : D → Env → Option Env) (tt : Sem Bool) (fk f : Sem R) (vs : List Nat) : Sem R := fun ρ => bnd (it ρ) fun ds ρ1 =>
  if noOw ρ1 vs then (dcLoop g tt fk f vs ds ([], []) (wipeE ρ1 vs)).map fun p => (.val (.fr (.dic false p.1.1 p.1.2)), backE ρ1 p.2 vs) else none
theorem dc_loop {g : D → Env → Option Env} {tt : Sem Bool} {fk : Sem R} {t : TG} {J : It} {Hd : Hp → Prop} {Q : VK} {L : Addr} (ht : TgOk c (blkIo vs) t g) (hI : ItOk c J Hd ds) (h0 : Rel c σ H ρ o P) (hn : noOw ρ vs = true) (hL : H L = none) (hd : Hd (hide H (All o P)))
    (hP : Post c W RepR σ H o P ((dcLoop g tt fk f vs ds ([], []) (wipeE ρ vs)).map fun p => (.val (.fr (.dic false p.1.1 p.1.2)), backE ρ p.2 vs)) Q) :
    ∃ Wv : Nat → Nat → Hp → Prop, (∃ m, Wv 0 m (upd H L (.dK []))) ∧ ∀ i m H, Wv i m H →
  (J.stop i H ∧ Q (.ref L) H) ∨ (J.go i H ∧ ∃ Nx : Hp → Prop, (∀ H', Nx H' → ∃ m', m' < m ∧ Wv (i + 1) m' H') ∧ ∀ x H', J.yld i H x H' → t x (wipe σ vs) H' fun σ2 H2 => wipe σ2 vs = wipe σ vs ∧ tT c WF tt σ2 H2 fun b H3 =>
    if b = true then tF c WF (frzS fk) σ2 H3 fun y H4 => tF c WF (frzS f) σ2 H4 fun z H5 => ∃ kvs k, y = kV k ∧ H5 L = some (.dK kvs) ∧ kvs.length < sizeLine ∧ Nx (upd H5 L (.dK (putK kvs k z))) else Nx H3) := by
  obtain ⟨R0, le0, G0, S0⟩ := h0.lay (u := .dK []) hL (fun _ => nofun)
  obtain ⟨Rw, Sw⟩ := R0.wipeG (vs := vs)
  let In : Nat → Hp → Prop := fun i H' => ∃ ρ' o' acc av, Rel c (wipe σ vs) H' ρ' o' (fun x => P x ∨ x = L) ∧ Step H o H' o' ∧ (∀ i ∈ vs, ∀ a, ¬ o' i a) ∧ Hd (hide H' (All o' fun x => P x ∨ x = L)) ∧ H' L = some (.dK av) ∧ acc.1 = av.map (fun p => kD p.1) ∧ Reps c (hide H' (All o' fun x => P x ∨ x = L)) acc.2 (av.map (·.2)) ∧
    Post c W RepR σ H o P ((dcLoop g tt fk f vs (ds.drop i) acc ρ').map fun p => (.val (.fr (.dic false p.1.1 p.1.2)), backE ρ p.2 vs)) Q
  refine ⟨fun i m H' => i + m = ds.length ∧ In i H', ⟨ds.length, by omega, wipeE ρ vs, _, ([], []), [], Rw, S0.trans Sw, fun i hi a z => z.1 hi, ?_, upd_same, rfl, Reps.nil, by simpa using hP⟩, ?_⟩
  · exact hI.mono _ _ (Sw.hide fun a z => .inl z) (hI.mono _ _ le0 hd)
  rintro i m H2 ⟨him, ρ2, o2, acc, av, R2, S2, nv2, hd2, hL2, hak, hacc, hP2⟩
  have und := R2.und
  by_cases hi : i < ds.length
  · refine .inr ⟨hI.go _ _ i und hd2 hi, fun H' => (i + 1) + (m - 1) = ds.length ∧ In (i + 1) H', fun H' hq => ⟨m - 1, by omega, hq⟩, fun x H3 hy => ?_⟩
    have hdi : ds.drop i = ds[i] :: ds.drop (i + 1) := List.drop_eq_getElem_cons hi
    rw [hdi] at hP2
    obtain ⟨R3, S3, M3⟩ := resF R2 (hI.yld _ _ i x H3 ds[i] und hd2 (List.getElem?_eq_getElem hi) hy)
    have hd3 : Hd (hide H3 (All o2 fun x => P x ∨ x = L)) := hI.mono _ _ (S3.hide fun a z => .inl z) hd2
    have ha3 : Reps c (hide H3 (All o2 fun x => P x ∨ x = L)) acc.2 (av.map (·.2)) := Reps.mono (S3.hide fun a z => .inl z) _ _ hacc
    have nL2 : ∀ i, ¬ o2 i L := fun i z => R2.dP i L z (.inr rfl)
    have hL3 : H3 L = some (.dK av) := S3.keep L _ hL2 nL2
    unfold dcLoop at hP2
    cases e1 : g ds[i] ρ2 with
    | none => simp only [e1, Option.bind_none, Option.map_none] at hP2; exact hP2.elim
    | some ρ3 =>
      simp only [e1, Option.bind_some] at hP2
      refine ht.run _ H3 ρ2 o2 _ _ x ρ3 _ R3 M3 e1 fun σ4 o4 R4 S4 K4 => ?_
      have hl4 : σ4.length = σ.length := by
        rw [R4.len, ht.len _ _ _ e1, ← R3.len, wipe_length]
      refine ⟨wipe_kept K4 hl4, ?_⟩
      have hd4 : Hd (hide H3 (All o4 fun x => P x ∨ x = L)) := hI.mono _ _ (S4.hide fun a z => .inl z) hd3
      have ha4 : Reps c (hide H3 (All o4 fun x => P x ∨ x = L)) acc.2 (av.map (·.2)) := Reps.mono (S4.hide fun a z => .inl z) _ _ ha3
      have S24 := (S2.trans S3).trans S4
      have nL4 : ∀ i, ¬ o4 i L := fun i z => R4.dP i L z (.inr rfl)
      have wk : wipe σ4 vs = wipe σ vs := wipe_kept K4 hl4
      have fin : ∀ {ρ5 o5 H5 acc2 av2}, Rel c σ4 H5 ρ5 o5 (fun x => P x ∨ x = L) → Step H o H5 o5 → Hd (hide H5 (All o5 fun x => P x ∨ x = L)) → H5 L = some (.dK av2) → acc2.1 = av2.map (fun p => kD p.1) → Reps c (hide H5 (All o5 fun x => P x ∨ x = L)) acc2.2 (av2.map (·.2)) →
          Post c W RepR σ H o P ((dcLoop g tt fk f vs (ds.drop (i + 1)) acc2 (wipeE ρ5 vs)).map fun p => (.val (.fr (.dic false p.1.1 p.1.2)), backE ρ p.2 vs)) Q → (i + 1) + (m - 1) = ds.length ∧ In (i + 1) H5 := fun {ρ5 o5 H5 acc2 av2} R5 S5 hd5 hL5 hk5 ha5 hP5 => by
        obtain ⟨Rw5, Sw5⟩ := R5.wipeG (vs := vs)
        rw [wk] at Rw5
        exact ⟨by omega, _, _, acc2, av2, Rw5, S5.trans Sw5, fun i hi a z => z.1 hi, hI.mono _ _ (Sw5.hide fun a z => .inl z) hd5, hL5, hk5, Reps.mono (Sw5.hide fun a z => .inl z) _ _ ha5, hP5⟩
      refine ⟨ρ3, o4, _, R4, ?_⟩
      cases e2 : tt ρ3 with
      | none => simp only [e2, Option.map_none] at hP2; exact hP2.elim
      | some q =>
        obtain ⟨q, ρ5⟩ := q
        cases q with
        | exc z => simp only [e2, Option.map_none] at hP2; exact hP2.elim
        | val bb =>
          intro b' H5 o5 P5 R5 G5 S5 M5
          have eb : bb = b' := M5
          subst eb
          have R5 := R5.shrink G5.sub
          have S25 := S24.trans S5
          have hd5 : Hd (hide H5 (All o5 fun x => P x ∨ x = L)) := hI.mono _ _ (S5.hide fun a z => .inl z) hd4
          have ha5 : Reps c (hide H5 (All o5 fun x => P x ∨ x = L)) acc.2 (av.map (·.2)) := Reps.mono (S5.hide fun a z => .inl z) _ _ ha4
          have hL5 : H5 L = some (.dK av) := S5.keep L _ hL3 nL4
          have nL5 : ∀ i, ¬ o5 i L := fun i z => R5.dP i L z (.inr rfl)
          cases bb with
          | false =>
            simp only [e2] at hP2
            exact fin R5 S25 hd5 hL5 hak ha5 hP2
          | true =>
            simp only [e2] at hP2
            show tF c WF (frzS fk) σ4 H5 _
            refine ⟨ρ5, o5, _, R5, ?_⟩
            cases e3 : frzS fk ρ5 with
            | none => simp only [e3, Option.map_none] at hP2; exact hP2.elim
            | some q =>
              obtain ⟨q, ρ6⟩ := q
              cases q with
              | exc z => simp only [e3, Option.map_none] at hP2; exact hP2.elim
              | val yd =>
                simp only [e3] at hP2
                intro y H6 o6 P6 R6 G6 S6 M6
                have M6 : Rep c (hide H6 (All o6 P6)) yd y := M6
                have R6' := R6.shrink G6.sub
                have M6' : Rep c (hide H6 (All o6 fun x => P x ∨ x = L)) yd y := Rep.mono (hide_mono fun a u e n => ⟨e, fun z => n (z.elim (fun z => .inl (G6.sub a z)) .inr)⟩) _ _ M6
                have hL6 : H6 L = some (.dK av) := S6.keep L _ hL5 nL5
                have nL6 : ∀ i, ¬ o6 i L := fun i z => R6'.dP i L z (.inr rfl)
                have ha6 : Reps c (hide H6 (All o6 fun x => P x ∨ x = L)) acc.2 (av.map (·.2)) := Reps.mono (S6.hide fun a z => .inl z) _ _ ha5
                have hd6 : Hd (hide H6 (All o6 fun x => P x ∨ x = L)) := hI.mono _ _ (S6.hide fun a z => .inl z) hd5
                refine ⟨ρ6, o6, _, R6', ?_⟩
                cases e4 : frzS f ρ6 with
                | none => simp only [e4, Option.map_none] at hP2; exact hP2.elim
                | some q =>
                  obtain ⟨q, ρ7⟩ := q
                  cases q with
                  | exc z => simp only [e4, Option.map_none] at hP2; exact hP2.elim
                  | val xd =>
                    simp only [e4] at hP2
                    intro z H7 o7 P7 R7 G7 S7 M7
                    have M7 : Rep c (hide H7 (All o7 P7)) xd z := M7
                    have R7' := R7.shrink G7.sub
                    have M7' : Rep c (hide H7 (All o7 fun x => P x ∨ x = L)) xd z := Rep.mono (hide_mono fun a u e n => ⟨e, fun z => n (z.elim (fun z => .inl (G7.sub a z)) .inr)⟩) _ _ M7
                    have hL7 : H7 L = some (.dK av) := S7.keep L _ hL6 nL6
                    have ha7 : Reps c (hide H7 (All o7 fun x => P x ∨ x = L)) acc.2 (av.map (·.2)) := Reps.mono (S7.hide fun a z => .inl z) _ _ ha6
                    have hd7 : Hd (hide H7 (All o7 fun x => P x ∨ x = L)) := hI.mono _ _ (S7.hide fun a z => .inl z) hd6
                    cases ek : kOf yd with
                    | none => simp only [ek, Option.map_none] at hP2; exact hP2.elim
                    | some key =>
                      simp only [ek] at hP2
                      by_cases hlen : acc.1.length < 1000000
                      · rw [if_pos hlen] at hP2
                        have hav : av.length < sizeLine := by
                          rw [hak, List.length_map] at hlen; exact m_lt hlen
                        obtain ⟨R8, le8⟩ := R7'.fill (p := L) (u := .dK (putK av key z)) (.inr rfl) (fun _ => nofun)
                        obtain ⟨q1, q2⟩ := dput_k key ha7 M7'
                        have eyd := kD_kOf ek
                        subst eyd
                        refine ⟨av, key, kOf_V M6 ek, hL7, hav, fin R8 (((S25.trans S6).trans S7).fill hL) (hI.mono _ _ le8 hd7) upd_same ?_ ?_ hP2⟩
                        · rw [hak]; exact q1
                        · rw [hak]; exact Reps.mono le8 _ _ q2
                      · rw [if_neg hlen] at hP2; exact hP2.elim
  · have hl : i = ds.length := by omega
    subst hl
    refine .inl ⟨hI.stop _ _ und hd2, ?_⟩
    rw [List.drop_length] at hP2
    have R3 := h0.backG hn R2 (P1 := fun x => P x ∨ x = L) ⟨fun _ z => .inl z, fun b z => z.elim .inl fun z => .inr (z ▸ hL)⟩ S2 nv2
    refine hP2 (.ref L) H2 o2 (fun x => P x ∨ x = L) R3 ⟨fun _ z => .inl z, fun b z => z.elim .inl fun z => .inr (z ▸ hL)⟩ S2 ⟨L, fun x => x = L, rfl, cell_own hL2 ⟨hak, hacc⟩ (fun _ => nofun), fun x hx => ⟨.inr hx, fun q => ?_⟩⟩
    obtain ⟨w, q1, _⟩ := h0.prot x q
    rw [hx, hL] at q1; cases q1
theorem dc_core' {it : Sem (List D)} {g : D → Env → Option Env} {tt : Sem Bool} {fk : Sem R} {t : TG} {Q : VK} (ht : TgOk c (blkIo vs) t g) (h : tE c W (dcS it g tt fk f vs) σ H Q) : tDc (tI c W it) t (tT c WF tt) (tF c WF (frzS fk)) (tF c WF (frzS f)) vs σ H Q := by
  obtain ⟨ρ, o, P, hR, hP⟩ := h
  refine seq1 base_R hR hP fun ds ρ1 J H1 o1 P1 R1 G1 S1 M1 hP1 => ?_
  obtain ⟨Hd, hI, hd⟩ := M1
  intro L hL
  by_cases hn : noOw ρ1 vs = true
  · simp only [hn, if_true] at hP1
    exact dc_loop ht hI R1 hn hL hd hP1
  · simp only [hn] at hP1; exact hP1.elim
theorem pd_dc {kx vx tg iter : Expr} {ifs : List Expr} {scope : Scope} {own : List (Str × Nat)} {pos : Pos} {it : Sem (List D)} {g : D → Env → Option Env} {tt : Sem Bool} {fk : Sem R} {t : TG} (k : Okc c X) (hi : PI X tg iter (tI c W it)) (ok : BlkOk X.N X.env.scope scope own)
    (hg : AllBlk X scope fun B => PG B tg t) (ht : TgOk c (blkIo (own.map (·.2))) t g) (htt : AllBlk X scope fun B => PTs B ifs (tT c WF tt)) (hk : AllBlk X scope fun B => PE B kx (tE c WF fk)) (he : AllBlk X scope fun B => PE B vx (tE c WF f)) (hs : ∀ x, foldedSetIterable iter X.env x = pure x := by intro _; rfl) :
    PE X (.DictComp kx vx [⟨tg, iter, ifs, 0⟩] scope pos) (tE c W (dcS it g tt fk f (own.map (·.2)))) :=
  pe_of (pe_dc k.calm k.hN hi ok hg htt (fun s H C cl fp => fd_of (hk s H C cl fp)) (fun s H C cl fp => fd_of (he s H C cl fp)) hs) fun σ H Q h => dc_core' ht h
end
end Ly
set_option Elab.async false
set_option linter.all false
set_option maxRecDepth 100000
set_option maxHeartbeats 1000000
namespace Ly
open PySem L2

/-! ### 23. functions -/
/-- a function: the arguments; the result, the arguments behind it (those that the mask names may change) -/
abbrev FS := List D → Option (Out R × List D)
def argE (io : Nat → Bool) : Nat → List D → Env
  | _, [] => []
  | i, d :: ds => (if io i then .ow d else .fz d) :: argE io (i + 1) ds
def isSl : R → Bool
  | .sl _ => true
  | _ => false
def PostF (c : Cc) (io : Nat → Bool) (vs : List V) (H : Hp) (o : Ownr) (P : Prot) (res : Option (Out R × List D)) (Q : VK) (E : XK) : Prop :=
  match res with
  | none => False
  | some (.val r, outs) => isSl r = false ∧ ∀ v H' o' P', Rel c (vs.map some) H' (argE io 0 outs) o' P' → Grow H P P' → Step H o H' o' → RepR c (vs.map some) H' o' P P' r v → Q v H'
  | some (.exc x, outs) => ∀ cl dd H' o', Rel c (vs.map some) H' (argE io 0 outs) o' P → Step H o H' o' → XRep c H' (hide H' (All o' P)) x cl dd → E cl dd H'
def spD (c : Cc) (io : Nat → Bool) (n : Nat) (f : FS) : Sp := fun vs H Q E => vs.length = n ∧ ∃ ds o P, Rel c (vs.map some) H (argE io 0 ds) o P ∧ PostF c io vs H o P (f ds) Q E
theorem spD_len {c : Cc} {io : Nat → Bool} {n : Nat} {f : FS} {ps : List Str} (h : ps.length = n) : ∀ vs H Q E, spD c io n f vs H Q E → vs.length = ps.length := fun vs H Q E q => q.1.trans h.symm
/-- the parameters' values at the end -/
def outsE (io : Nat → Bool) (ρ : Env) : Nat → List D → Option (List D)
  | _, [] => some []
  | i, d :: ds => (if io i then (match ρ[i]? with
    | some (.ow e) => some e
    | _ => none) else some d).bind fun e => (outsE io ρ (i + 1) ds).map fun es => e :: es
/-- the result at the end -/
def outR (io : Nat → Bool) (n : Nat) (ρ : Env) : R → Option R
  | .fz d => some (.fz d)
  | .fr d => some (.fr d)
  | .sl i => match ρ[i]? with
    | some (.fz d) => some (.fz d)
    | some (.ow d) => if io i && decide (i < n) then none else some (.fr d)
    | _ => none
/-- a body as a function: m names in all -/
def funS (io : Nat → Bool) (m : Nat) (body : SemS) : FS := fun ds => match body (argE io 0 ds ++ List.replicate (m - ds.length) .no) with
  | some (.nx, ρ) => (outsE io ρ 0 ds).map fun outs => (.val (.fz .non), outs)
  | some (.ret r, ρ) => (outsE io ρ 0 ds).bind fun outs => (outR io ds.length ρ r).map fun z => (.val z, outs)
  | some (.exc x, ρ) => (outsE io ρ 0 ds).map fun outs => (.exc x, outs)
  | _ => none
section
variable {c : Cc} {W : WXX} {io : Nat → Bool} {X : Cx} {σ σ1 σ2 : St} {H H0 H1 H' G G' : Hp} {ρ ρ0 ρ1 ρ2 ρ' : Env} {o o0 o1 o2 o' : Ownr} {P P1 P2 P' : Prot} {d d1 d2 : D} {v v1 v2 : V} {r : R} {a b p : Addr} {u w : HO} {e : Expr} {f : Sem R} {t : Sem Bool} {En : Ends} {ds xs ys outs : List D} {vs : List V} {n m : Nat}
theorem argE_len : ∀ {i : Nat} {ds : List D}, (argE io i ds).length = ds.length
  | _, [] => rfl
  | i, d :: ds => by unfold argE; rw [List.length_cons, List.length_cons, argE_len]
theorem argE_at : ∀ {k : Nat} {ds : List D} {i : Nat}, (argE io k ds)[i]? = ds[i]?.map fun d => if io (k + i) then .ow d else .fz d
  | _, [], i => by simp [argE]
  | k, d :: ds, 0 => by simp [argE]
  | k, d :: ds, i + 1 => by
    unfold argE
    rw [List.getElem?_cons_succ, argE_at, List.getElem?_cons_succ, show k + 1 + i = k + (i + 1) by omega]
theorem outsE_some : ∀ {k : Nat} {ds outs : List D}, outsE io ρ k ds = some outs → outs.length = ds.length ∧ ∀ i d, ds[i]? = some d → ∃ e, outs[i]? = some e ∧ if io (k + i) then ρ[k + i]? = some (.ow e) else e = d
  | k, [], outs, h => by
    cases h
    exact ⟨rfl, fun i d e => by simp at e⟩
  | k, d :: ds, outs, h => by
    unfold outsE at h
    cases e1 : (if io k then (match ρ[k]? with
      | some (.ow e) => some e
      | _ => none) else some d) with
    | none => rw [e1] at h; cases h
    | some e =>
      rw [e1] at h
      obtain ⟨es, e2, rfl⟩ := Option.map_eq_some_iff.mp (show (outsE io ρ (k + 1) ds).map (fun es => e :: es) = some outs from h)
      obtain ⟨h1, h2⟩ := outsE_some e2
      refine ⟨by simp [h1], fun i d' hd => ?_⟩
      cases i with
      | zero =>
        simp at hd; subst hd
        refine ⟨e, rfl, ?_⟩
        rw [Nat.add_zero]
        by_cases hk : io k = true
        · rw [if_pos hk] at e1 ⊢
          split at e1
          · rename_i e' h3; cases e1; exact h3
          · cases e1
        · rw [if_neg hk] at e1 ⊢
          cases e1; rfl
      | succ i =>
        obtain ⟨e', q1, q2⟩ := h2 i d' (by simpa using hd)
        exact ⟨e', by simpa using q1, by rw [show k + (i + 1) = k + 1 + i by omega]; exact q2⟩
theorem start_at {N : List Str} {i : Nat} (h : i < vs.length) : (start N vs)[i]? = some (some vs[i]) := by
  unfold L2.start
  rw [List.getElem?_append_left (by simpa using h), List.getElem?_map, List.getElem?_eq_getElem h]
  rfl
/-- at the entry: the other names are not set -/
theorem Rel.entry {N : List Str} (hR : Rel c (vs.map some) H (argE io 0 ds) o P) (hn : vs.length ≤ N.length) : Rel c (start N vs) H (argE io 0 ds ++ List.replicate (N.length - ds.length) .no) o P := by
  have hl : vs.length = ds.length := by
    have := hR.len
    rwa [List.length_map, argE_len] at this
  refine ⟨?_, fun i => ?_, hR.disj, hR.dP, hR.prot⟩
  · unfold L2.start
    rw [List.length_append, List.length_append, List.length_map, argE_len, List.length_replicate, List.length_replicate, hl]
  · have q := hR.slot i
    by_cases hi : i < ds.length
    · rw [List.getElem?_append_left (by rw [argE_len]; exact hi)]
      unfold L2.start
      rw [List.getElem?_append_left (by rw [List.length_map]; omega)]
      exact q
    · have e0 : (argE io 0 ds)[i]? = none := List.getElem?_eq_none (by rw [argE_len]; omega)
      rw [e0] at q
      have q : ∀ a, ¬ o i a := q
      rw [List.getElem?_append_right (by rw [argE_len]; omega), List.getElem?_replicate]
      by_cases h2 : i - (argE io 0 ds).length < N.length - ds.length
      · rw [if_pos h2]; exact q
      · rw [if_neg h2]; exact q
/-- what a body's slots leave: the parameters alone -/
theorem Rel.leave (hR0 : Rel c (vs.map some) H (argE io 0 ds) o P) {N : List Str} (hn : vs.length ≤ N.length) (hR : Rel c σ2 H' ρ' o' P') (g : Grow H P P') (s : Step H o H' o') (hk : Kept (fun i => io i && decide (i < vs.length)) (start N vs) σ2) (ho : outsE io ρ' 0 ds = some outs) :
    Rel c (vs.map some) H' (argE io 0 outs) (fun i a => (io i && decide (i < vs.length)) = true ∧ o' i a) P' ∧ Step H o H' (fun i a => (io i && decide (i < vs.length)) = true ∧ o' i a) := by
  have hl : vs.length = ds.length := by
    have := hR0.len
    rwa [List.length_map, argE_len] at this
  obtain ⟨h1, h2⟩ := outsE_some ho
  have le : Le (hide H' (All o' P')) (hide H' (All (fun i a => (io i && decide (i < vs.length)) = true ∧ o' i a) P')) := hide_mono fun b u e n => ⟨e, fun q => n (q.elim .inl fun ⟨i, z⟩ => .inr ⟨i, z.2⟩)⟩
  refine ⟨⟨by rw [List.length_map, argE_len, h1, hl], fun i => ?_, fun i j a x y => hR.disj i j a x.2 y.2, fun i a x => hR.dP i a x.2, hR.prot⟩, s.keep, fun i a x => s.news i a x.2, s.there⟩
  rw [argE_at, Nat.zero_add]
  by_cases hi : i < ds.length
  · obtain ⟨e, q1, q2⟩ := h2 i _ (List.getElem?_eq_getElem hi)
    rw [Nat.zero_add] at q2
    rw [q1, Option.map_some]
    by_cases hio : io i = true
    · rw [if_pos hio] at q2 ⊢
      have q := hR.slot i
      rw [q2] at q
      have hb : (io i && decide (i < vs.length)) = true := by rw [hio, Bool.true_and, decide_eq_true_eq]; omega
      obtain ⟨a, z1, z2⟩ := q
      rw [hk i hb, start_at (by omega)] at z1
      have eo : (fun a => (io i && decide (i < vs.length)) = true ∧ o' i a) = o' i := by funext a; simp [hb]
      rw [eo]
      refine ⟨a, ?_, z2.mono_G le⟩
      rw [List.getElem?_map, List.getElem?_eq_getElem (by omega)]
      exact congrArg some (Option.some.inj z1)
    · rw [if_neg hio] at q2 ⊢
      subst q2
      have q := hR0.slot i
      rw [argE_at, Nat.zero_add, List.getElem?_eq_getElem hi, Option.map_some, if_neg hio] at q
      obtain ⟨_, v, z1, z2⟩ := q
      exact ⟨fun a z => by rw [Bool.and_eq_true] at z; exact hio z.1.1, v, z1, Rep.mono le _ _ (Rep.mono (s.hide g.new) _ _ z2)⟩
  · rw [show outs[i]? = none from List.getElem?_eq_none (by omega), Option.map_none]
    exact fun a z => by
      rw [Bool.and_eq_true, decide_eq_true_eq] at z
      omega
theorem isSl_out {z : R} (hz : outR io n ρ r = some z) : isSl z = false := by
  cases r with
  | fz d => cases hz; rfl
  | fr d => cases hz; rfl
  | sl i =>
    simp only [outR] at hz
    split at hz
    · cases hz; rfl
    · split at hz
      · cases hz
      · cases hz; rfl
    · cases hz
/-- THE RULE for a body -/
theorem fun_entry {N : List Str} {body : SemS} {E : XK} {Q : VK} (hn : n ≤ N.length) (h : spD c io n (funS io N.length body) vs H Q E) : tS c (fun cl dd _ H => E cl dd H) (fun i => io i && decide (i < n)) body { nx := fun _ H' => Q .non H', rt := Q } (start N vs) H := by
  obtain ⟨hlen, ds, o, P, hR, hP⟩ := h
  subst hlen
  have hl : vs.length = ds.length := by
    have := hR.len
    rwa [List.length_map, argE_len] at this
  refine ⟨_, o, P, hR.entry hn, ?_⟩
  unfold funS at hP
  rw [← hl] at hP ⊢
  cases eb : body (argE io 0 ds ++ List.replicate (N.length - vs.length) .no) with
  | none => rw [eb] at hP; exact hP
  | some q =>
    obtain ⟨q, ρ'⟩ := q
    rw [eb] at hP
    cases q with
    | bk => exact hP.elim
    | ct => exact hP.elim
    | nx =>
      cases eo : outsE io ρ' 0 ds with
      | none => simp only [eo, Option.map_none] at hP; exact hP.elim
      | some outs =>
        simp only [eo, Option.map_some] at hP
        intro σ' H' o' R' s' k'
        obtain ⟨R2, S2⟩ := hR.leave hn R' Grow.refl s' k' eo
        exact hP.2 .non H' _ P R2 Grow.refl S2 (show Rep c (hide H' (All (fun i a => (io i && decide (i < vs.length)) = true ∧ o' i a) P)) .non .non by unfold Rep; rfl)
    | exc x =>
      cases eo : outsE io ρ' 0 ds with
      | none => simp only [eo, Option.map_none] at hP; exact hP.elim
      | some outs =>
        simp only [eo, Option.map_some] at hP
        intro cl dd σ' H' o' R' s' k' hx
        obtain ⟨R2, S2⟩ := hR.leave hn R' Grow.refl s' k' eo
        exact hP cl dd H' _ R2 S2 (hx.mono (hide_mono fun b u e n => ⟨e, fun q => n (q.elim .inl fun ⟨i, z⟩ => .inr ⟨i, z.2⟩)⟩))
    | ret r =>
      replace hP : PostF c io vs H o P ((outsE io ρ' 0 ds).bind fun outs => (outR io vs.length ρ' r).map fun z => (.val z, outs)) Q E := hP
      rw [hl] at hP
      cases eo : outsE io ρ' 0 ds with
      | none => rw [eo] at hP; exact hP.elim
      | some outs =>
        rw [eo] at hP
        cases ez : outR io ds.length ρ' r with
        | none => simp only [Option.bind_some, ez, Option.map_none] at hP; exact hP.elim
        | some z =>
          simp only [Option.bind_some, ez, Option.map_some] at hP
          intro v σ' H' o' P' R' g' s' k' hM
          obtain ⟨R2, S2⟩ := hR.leave hn R' g' s' k' eo
          have le : Le (hide H' (All o' P')) (hide H' (All (fun i a => (io i && decide (i < vs.length)) = true ∧ o' i a) P')) := hide_mono fun b u e n => ⟨e, fun q => n (q.elim .inl fun ⟨i, z⟩ => .inr ⟨i, z.2⟩)⟩
          cases r with
          | fz d => cases ez; exact hP.2 v H' _ P' R2 g' S2 (Rep.mono le _ _ hM)
          | fr d =>
            cases ez
            obtain ⟨a, S, rfl, z1, z2⟩ := hM
            exact hP.2 _ H' _ P' R2 g' S2 ⟨a, S, rfl, z1.mono_G le, z2⟩
          | sl i =>
            have hM : σ'[i]? = some (some v) := hM
            have q := R'.slot i
            simp only [outR] at ez
            cases hs : ρ'[i]? with
            | none => rw [hs] at ez; cases ez
            | some sl =>
              rw [hs] at ez q
              cases sl with
              | no => cases ez
              | fz d =>
                cases ez
                obtain ⟨_, w, y1, y2⟩ := q
                rw [hM] at y1; cases y1
                exact hP.2 v H' _ P' R2 g' S2 (Rep.mono le _ _ y2)
              | ow d =>
                simp only at ez
                by_cases hb : (io i && decide (i < ds.length)) = true
                · rw [if_pos hb] at ez; cases ez
                · rw [if_neg hb] at ez; cases ez
                  rw [← hl] at hb
                  obtain ⟨a, y1, y2⟩ := q
                  rw [hM] at y1; cases y1
                  -- the slot's cells are protected now
                  have hno : ∀ x, o' i x → H x = none := fun x hx => (s'.news i x hx).elim (fun z => by
                    have q0 := hR.slot i
                    rw [argE_at, Nat.zero_add] at q0
                    cases e0 : ds[i]? with
                    | none => rw [e0] at q0; exact (q0 x z).elim
                    | some d0 =>
                      rw [e0, Option.map_some] at q0
                      have hi : i < vs.length := hl ▸ (List.getElem?_eq_some_iff.mp e0).1
                      have : ¬ io i = true := fun w => hb (by rw [w, Bool.true_and, decide_eq_true_eq]; exact hi)
                      rw [if_neg this] at q0
                      exact (q0.1 x z).elim) id
                  have hset : ∀ b, All (fun j a => (io j && decide (j < vs.length)) = true ∧ o' j a) (fun x => P' x ∨ o' i x) b → All o' P' b := fun b q => by
                    rcases q with (q | q) | ⟨j, q⟩
                    · exact .inl q
                    · exact .inr ⟨i, q⟩
                    · exact .inr ⟨j, q.2⟩
                  have le2 : Le (hide H' (All o' P')) (hide H' (All (fun j a => (io j && decide (j < vs.length)) = true ∧ o' j a) (fun x => P' x ∨ o' i x))) := hide_mono fun b u e n => ⟨e, fun q => n (hset b q)⟩
                  have R3 : Rel c (vs.map some) H' (argE io 0 outs) (fun j a => (io j && decide (j < vs.length)) = true ∧ o' j a) (fun x => P' x ∨ o' i x) := by
                    refine ⟨R2.len, fun j => ?_, R2.disj, fun j x z q => ?_, fun x q => ?_⟩
                    · -- each slot once more: it does not lean on the cells of the slot i
                      have q2 := R2.slot j
                      have base : ∀ {dd : D} {vv : V}, Rep c (hide H' (All o' P')) dd vv → Rep c (hide H' (All (fun j a => (io j && decide (j < vs.length)) = true ∧ o' j a) (fun x => P' x ∨ o' i x))) dd vv := fun h => Rep.mono le2 _ _ h
                      obtain ⟨h1, h2⟩ := outsE_some eo
                      rw [argE_at, Nat.zero_add] at q2 ⊢
                      cases e0 : outs[j]? with
                      | none => rw [e0] at q2; exact q2
                      | some dj =>
                        rw [e0, Option.map_some] at q2
                        rw [Option.map_some]
                        have hj : j < ds.length := h1 ▸ (List.getElem?_eq_some_iff.mp e0).1
                        obtain ⟨ej, w1, w2⟩ := h2 j _ (List.getElem?_eq_getElem hj)
                        rw [e0] at w1; cases w1
                        rw [Nat.zero_add] at w2
                        by_cases hjo : io j = true
                        · rw [if_pos hjo] at q2 w2 ⊢
                          obtain ⟨b, b1, b2⟩ := q2
                          have qj := R'.slot j
                          rw [w2] at qj
                          obtain ⟨b', c1, c2⟩ := qj
                          have hjb : (io j && decide (j < vs.length)) = true := by rw [hjo, Bool.true_and, decide_eq_true_eq]; omega
                          have eo' : (fun a => (io j && decide (j < vs.length)) = true ∧ o' j a) = o' j := by funext a; simp [hjb]
                          rw [eo']
                          rw [k' j hjb, start_at (by omega)] at c1
                          refine ⟨b', ?_, c2.mono_G le2⟩
                          rw [List.getElem?_map, List.getElem?_eq_getElem (by omega)]
                          exact congrArg some (Option.some.inj c1)
                        · rw [if_neg hjo] at q2 w2 ⊢
                          subst w2
                          have qj := hR.slot j
                          rw [argE_at, Nat.zero_add, List.getElem?_eq_getElem hj, Option.map_some, if_neg hjo] at qj
                          obtain ⟨_, vv, c1, c2⟩ := qj
                          exact ⟨q2.1, vv, c1, base (Rep.mono (s'.hide g'.new) _ _ c2)⟩
                    · rcases q with q | q
                      · exact R'.dP j x z.2 q
                      · have := R'.disj j i x z.2 q
                        subst this
                        exact hb z.1
                    · rcases q with q | q
                      · exact R'.prot x q
                      · exact R'.own_prot q
                  have g3 : Grow H P (fun x => P' x ∨ o' i x) := ⟨fun x z => .inl (g'.sub x z), fun x z => z.elim (g'.new x) fun z => .inr (hno x z)⟩
                  exact hP.2 _ H' _ _ R3 g3 S2 ⟨a, o' i, rfl, y2.mono_G le2, fun x hx => ⟨.inr hx, fun q => R'.dP i x hx (g'.sub x q)⟩⟩
end
end Ly
set_option Elab.async false
set_option linter.all false
set_option maxRecDepth 100000
set_option maxHeartbeats 1000000
namespace Ly
open PySem L2

/-! ### 24. calls -/
/-- an argument: a frozen value, or a slot that is handed over -/
inductive Ar where
  | val (d : D)
  | slot (i : Nat)
def RepX1 (c : Cc) (σ : St) (G : Hp) : Ar → V → Prop
  | .val d, v => Rep c G d v
  | .slot i, v => σ[i]? = some (some v)
def RepX : RR (List Ar) (List V) := fun c σ H o P P' xs vs => All2 (RepX1 c σ (hide H (All o P'))) xs vs
theorem base_X : Base RepX := fun c σ H o P P1 P' a b hp h => h
abbrev tX (c : Cc) (W : WXX) (f : Sem (List Ar)) : TA := tG c W RepX f
def nilX : Sem (List Ar) := fun ρ => some (.val [], ρ)
def consX (f : Sem R) (g : Sem (List Ar)) : Sem (List Ar) := fun ρ => bnd (frzS f ρ) fun d ρ1 => bnd (g ρ1) fun rs ρ2 => some (.val (.val d :: rs), ρ2)
def slotX (i : Nat) (g : Sem (List Ar)) : Sem (List Ar) := fun ρ => match ρ[i]? with
  | some (.ow _) => bnd (g ρ) fun rs ρ2 => some (.val (.slot i :: rs), ρ2)
  | _ => none
def ArIs (ρ : Env) (x : Ar) (d : D) : Prop := match x with
  | .val d' => d' = d
  | .slot i => ρ[i]? = some (.ow d)
def arIo : Ar → Bool
  | .val _ => false
  | .slot _ => true
/-- the arguments' values: a slot that is handed over must be owned -/
def argD (ρ : Env) : List Ar → Option (List D)
  | [] => some []
  | .val d :: r => (argD ρ r).map fun ds => d :: ds
  | .slot i :: r => match ρ[i]? with
    | some (.ow d) => (argD ρ r).map fun ds => d :: ds
    | _ => none
def maskOk (io : Nat → Bool) : Nat → List Ar → Bool
  | _, [] => true
  | k, .val _ :: r => !io k && maskOk io (k + 1) r
  | k, .slot _ :: r => io k && maskOk io (k + 1) r
def slotsOf : List Ar → List Nat
  | [] => []
  | .val _ :: r => slotsOf r
  | .slot i :: r => i :: slotsOf r
def noDup : List Nat → Bool
  | [] => true
  | i :: r => !r.contains i && noDup r
/-- what is handed over comes back -/
def setIo (ρ : Env) : List Ar → List D → Env
  | .slot i :: r, d :: ds => (setIo ρ r ds).set i (.ow d)
  | .val _ :: r, _ :: ds => setIo ρ r ds
  | _, _ => ρ
def calR2 (io : Nat → Bool) (n : Nat) (F : FS) (ρ : Env) (xs : List Ar) : Option (Out R × Env) := (argD ρ xs).bind fun ds => if maskOk io 0 xs && noDup (slotsOf xs) && decide (xs.length = n) then (match F ds with
  | some (.val (.sl _), _) => none
  | some (r, outs) => if outs.length = xs.length then some (r, setIo ρ xs outs) else none
  | none => none) else none
def callS (io : Nat → Bool) (n : Nat) (F : FS) (g : Sem (List Ar)) : Sem R := fun ρ => bnd (g ρ) fun xs ρ1 => calR2 io n F ρ1 xs
section
variable {c : Cc} {W : WXX} {io : Nat → Bool} {X : Cx} {σ σ1 σ2 : St} {H H0 H1 H' G G' : Hp} {ρ ρ0 ρ1 ρ2 ρ' : Env} {o o0 o1 o2 o' : Ownr} {P P1 P2 P' : Prot} {d d1 d2 : D} {v v1 v2 : V} {r : R} {a b p : Addr} {u w : HO} {e : Expr} {es : List Expr} {f : Sem R} {t : Sem Bool} {g : Sem (List Ar)} {En : Ends} {ds outs : List D} {vs : List V} {xs : List Ar} {n m : Nat}
theorem ax_nil : PA X [] (tX c W nilX) := pa_of pa_nil (by
  rintro σ H Q ⟨ρ, o, P, hR, hP⟩
  exact hP [] H o P hR Grow.refl Step.refl .nil)
theorem ax_cons (ha : PE X e (tE c W f)) (hr : PA X es (tX c W g)) (hs : starEach (e :: es) X.env = (false, eval e X.env) :: starEach es X.env := by rfl) : PA X (e :: es) (tX c W (consX f g)) := by
  refine pa_of (pa_cons (fd_of ha) hr hs) ?_
  rintro σ H Q ⟨ρ, o, P, hR, hP⟩
  refine seq2 hR Grow.refl Step.refl hP fun r1 ρ1 v1 H1 o1 P1 R1 G1 S1 M1 hP1 => ?_
  refine seq2 R1 G1 S1 hP1 fun r2 ρ2 v2 H2 o2 P2 R2 G2 S2 M2 hP2 => ?_
  exact hP2 _ _ _ _ R2 (G1.trans S1 G2) (S1.trans S2) (.cons (show RepX1 c σ _ (.val r1) v1 from Rep.mono (S2.hide G2.new) _ _ M1) M2)
theorem ax_slot {i : Nat} {x : Str} {pos : Pos} (hN : X.N[i]? = some x) (hv : Vis X.env.scope x) (hr : PA X es (tX c W g)) (hs : starEach (.Name x pos :: es) X.env = (false, eval (.Name x pos) X.env) :: starEach es X.env := by rfl)
    (hd : (x == ("__debug__" : Str)) = false := by decide +kernel) (hcd : (x == ("__classdict__" : Str)) = false := by decide +kernel) : PA X (.Name x pos :: es) (tX c W (slotX i g)) := by
  refine pa_of (pa_cons (pe_var (i := i) hN hv hd hcd) hr hs) ?_
  rintro σ H Q ⟨ρ, o, P, hR, hP⟩
  unfold slotX at hP
  have q := hR.slot i
  cases hsl : ρ[i]? with
  | none => simp only [hsl] at hP; exact hP.elim
  | some s =>
    cases s with
    | no => simp only [hsl] at hP; exact hP.elim
    | fz d => simp only [hsl] at hP; exact hP.elim
    | ow d =>
      simp only [hsl] at hP
      rw [hsl] at q
      obtain ⟨a, q1, _⟩ := q
      refine ⟨_, q1, ?_⟩
      refine seq2 hR Grow.refl Step.refl hP fun r2 ρ2 v2 H2 o2 P2 R2 G2 S2 M2 hP2 => ?_
      exact hP2 _ _ _ _ R2 G2 S2 (.cons q1 M2)
/-- what stands at an argument's place -/
theorem argD_at : ∀ {xs : List Ar} {ds : List D}, argD ρ xs = some ds → ds.length = xs.length ∧ ∀ (j : Nat) (x : Ar), xs[j]? = some x → ∃ d, ds[j]? = some d ∧ ArIs ρ x d
  | [], ds, h => by cases h; exact ⟨rfl, fun j x e => by simp at e⟩
  | .val d :: r, ds, h => by
    obtain ⟨es, e, rfl⟩ := Option.map_eq_some_iff.mp (show (argD ρ r).map (fun ds => d :: ds) = some ds from h)
    obtain ⟨h1, h2⟩ := argD_at e
    refine ⟨by simp [h1], fun j x hx => ?_⟩
    cases j with
    | zero => simp at hx; subst hx; exact ⟨d, rfl, rfl⟩
    | succ j => simpa using h2 j x (by simpa using hx)
  | .slot i :: r, ds, h => by
    unfold argD at h
    split at h
    · rename_i d hd
      obtain ⟨es, e, rfl⟩ := Option.map_eq_some_iff.mp h
      obtain ⟨h1, h2⟩ := argD_at e
      refine ⟨by simp [h1], fun j x hx => ?_⟩
      cases j with
      | zero => simp at hx; subst hx; exact ⟨d, rfl, hd⟩
      | succ j => simpa using h2 j x (by simpa using hx)
    · cases h
theorem maskOk_at : ∀ {k : Nat} {xs : List Ar}, maskOk io k xs = true → ∀ (j : Nat) (x : Ar), xs[j]? = some x → io (k + j) = arIo x
  | _, [], _, j, x, e => by simp at e
  | k, y :: r, h, j, x, e => by
    cases j with
    | zero =>
      simp at e; subst e
      cases y with
      | val d => unfold maskOk at h; rw [Bool.and_eq_true] at h; show io k = false; simpa using h.1
      | slot i => unfold maskOk at h; rw [Bool.and_eq_true] at h; exact h.1
    | succ j =>
      have h2 : maskOk io (k + 1) r = true := by
        cases y with
        | val d => unfold maskOk at h; rw [Bool.and_eq_true] at h; exact h.2
        | slot i => unfold maskOk at h; rw [Bool.and_eq_true] at h; exact h.2
      have := maskOk_at h2 j x (by simpa using e)
      rw [show k + (j + 1) = k + 1 + j by omega]
      exact this
theorem slots_mem : ∀ {xs : List Ar} {j i : Nat}, xs[j]? = some (.slot i) → i ∈ slotsOf xs
  | .val d :: r, 0, i, e => by simp at e
  | .slot i' :: r, 0, i, e => by simp at e; subst e; exact .head _
  | .val d :: r, j + 1, i, e => slots_mem (xs := r) (j := j) (by simpa using e)
  | .slot i' :: r, j + 1, i, e => .tail _ (slots_mem (xs := r) (j := j) (by simpa using e))
theorem slots_inj : ∀ {xs : List Ar} {j k i : Nat}, noDup (slotsOf xs) = true → xs[j]? = some (.slot i) → xs[k]? = some (.slot i) → j = k
  | [], j, k, i, h, e1, e2 => by simp at e1
  | y :: r, 0, 0, i, h, e1, e2 => rfl
  | y :: r, 0, k + 1, i, h, e1, e2 => by
    simp at e1; subst e1
    have := slots_mem (xs := r) (j := k) (i := i) (by simpa using e2)
    unfold slotsOf noDup at h
    rw [Bool.and_eq_true] at h
    have h1 := h.1
    simp at h1
    exact (h1 this).elim
  | y :: r, j + 1, 0, i, h, e1, e2 => by
    simp at e2; subst e2
    have := slots_mem (xs := r) (j := j) (i := i) (by simpa using e1)
    unfold slotsOf noDup at h
    rw [Bool.and_eq_true] at h
    have h1 := h.1
    simp at h1
    exact (h1 this).elim
  | y :: r, j + 1, k + 1, i, h, e1, e2 => by
    have h2 : noDup (slotsOf r) = true := by
      cases y with
      | val d => exact h
      | slot i => unfold slotsOf noDup at h; rw [Bool.and_eq_true] at h; exact h.2
    have := slots_inj (xs := r) (j := j) (k := k) (i := i) h2 (by simpa using e1) (by simpa using e2)
    rw [this]
theorem setIo_len : ∀ {xs : List Ar} {ds : List D}, (setIo ρ xs ds).length = ρ.length
  | [], _ => rfl
  | .val _ :: _, [] => rfl
  | .slot _ :: _, [] => rfl
  | .val _ :: r, d :: ds => by unfold setIo; exact setIo_len
  | .slot _ :: r, d :: ds => by unfold setIo; rw [List.length_set]; exact setIo_len
theorem setIo_out {i : Nat} : ∀ {xs : List Ar} {ds : List D}, (∀ j : Nat, xs[j]? ≠ some (.slot i)) → (setIo ρ xs ds)[i]? = ρ[i]?
  | [], _, _ => rfl
  | .val _ :: _, [], _ => rfl
  | .slot _ :: _, [], _ => rfl
  | .val _ :: r, d :: ds, h => by unfold setIo; exact setIo_out fun j e => h (j + 1) (by simpa using e)
  | .slot k :: r, d :: ds, h => by
    unfold setIo
    rw [List.getElem?_set_ne (fun e => h 0 (by simp [e]))]
    exact setIo_out fun j e => h (j + 1) (by simpa using e)
theorem setIo_in {i : Nat} {d : D} : ∀ {xs : List Ar} {ds : List D} {j : Nat}, noDup (slotsOf xs) = true → xs[j]? = some (.slot i) → ds[j]? = some d → i < ρ.length → (setIo ρ xs ds)[i]? = some (.ow d)
  | [], _, j, _, e, _, _ => by simp at e
  | _ :: _, [], j, _, _, e, _ => by simp at e
  | .slot k :: r, d' :: ds, 0, h, e1, e2, hi => by
    simp at e1 e2; subst e1 e2
    unfold setIo
    rw [List.getElem?_set_self (by rw [setIo_len]; exact hi)]
  | .val k :: r, d' :: ds, 0, h, e1, e2, hi => by simp at e1
  | .val k :: r, d' :: ds, j + 1, h, e1, e2, hi => by
    unfold setIo
    exact setIo_in (j := j) h (by simpa using e1) (by simpa using e2) hi
  | .slot k :: r, d' :: ds, j + 1, h, e1, e2, hi => by
    have h' := h
    unfold slotsOf noDup at h'
    rw [Bool.and_eq_true] at h'
    have hk : k ≠ i := fun e => by
      subst e
      have := slots_mem (xs := r) (j := j) (i := k) (by simpa using e1)
      have h1 := h'.1
      simp at h1
      exact h1 this
    unfold setIo
    rw [List.getElem?_set_ne hk]
    exact setIo_in (j := j) h'.2 (by simpa using e1) (by simpa using e2) hi
theorem All2.at {α β : Type} {r : α → β → Prop} {xs : List α} {ys : List β} (h : All2 r xs ys) : xs.length = ys.length ∧ ∀ (j : Nat) (x : α), xs[j]? = some x → ∃ y, ys[j]? = some y ∧ r x y := by
  induction h with
  | nil => exact ⟨rfl, fun j x e => by simp at e⟩
  | @cons a b as bs h t ih =>
    refine ⟨by simp [ih.1], fun j x e => ?_⟩
    cases j with
    | zero => simp at e; subst e; exact ⟨b, rfl, h⟩
    | succ j => simpa using ih.2 j x (by simpa using e)
/-- the callee's ownership -/
def calO (xs : List Ar) (o : Ownr) : Ownr := fun j a => ∃ i, xs[j]? = some (.slot i) ∧ o i a
def calP (xs : List Ar) (o : Ownr) (P : Prot) : Prot := fun a => All o P a ∧ ¬ ∃ j, calO xs o j a
/-- the caller's, behind the call -/
def bakO (xs : List Ar) (o oc : Ownr) : Ownr := fun i a => (∃ j : Nat, xs[j]? = some (.slot i) ∧ oc j a) ∨ ((∀ j : Nat, xs[j]? ≠ some (.slot i)) ∧ o i a)
def bakP (xs : List Ar) (o : Ownr) (P Pc : Prot) : Prot := fun a => P a ∨ (Pc a ∧ ¬ calP xs o P a)
theorem all_cal : All (calO xs o) (calP xs o P) a ↔ All o P a := by
  constructor
  · rintro (h | ⟨j, i, _, h⟩)
    · exact h.1
    · exact .inr ⟨i, h⟩
  · intro h
    by_cases q : ∃ j, calO xs o j a
    · exact .inr q
    · exact .inl ⟨h, q⟩
theorem hide_cal : hide H (All (calO xs o) (calP xs o P)) = hide H (All o P) := by
  congr 1
  funext a
  exact propext all_cal
theorem Rel.call (hR : Rel c σ H ρ o P) (hX : All2 (RepX1 c σ (hide H (All o P))) xs vs) (hd : argD ρ xs = some ds) (hm : maskOk io 0 xs = true) (hn : noDup (slotsOf xs) = true) : Rel c (vs.map some) H (argE io 0 ds) (calO xs o) (calP xs o P) := by
  obtain ⟨h1, h2⟩ := argD_at hd
  obtain ⟨l1, l2⟩ := hX.at
  refine ⟨by rw [List.length_map, argE_len, h1, l1], fun j => ?_, fun j k a ⟨i, x1, x2⟩ ⟨i', y1, y2⟩ => ?_, fun j a x z => z.2 ⟨j, x⟩, fun a z => hR.all_prot z.1⟩
  · rw [hide_cal, argE_at, Nat.zero_add]
    cases e : xs[j]? with
    | none =>
      have : ds[j]? = none := List.getElem?_eq_none (by rw [h1]; exact List.getElem?_eq_none_iff.mp e)
      rw [this]
      rintro a ⟨i, z, _⟩
      rw [e] at z; cases z
    | some x =>
      obtain ⟨d, q1, q2⟩ := h2 j x e
      obtain ⟨v, q3, q4⟩ := l2 j x e
      have q5 := maskOk_at hm j x e
      rw [q1, Option.map_some]
      have hv : (vs.map some)[j]? = some (some v) := by rw [List.getElem?_map, q3]; rfl
      cases x with
      | val d' =>
        have q2 : d' = d := q2
        subst q2
        have q5 : io (0 + j) = false := q5
        rw [Nat.zero_add] at q5
        rw [q5]
        exact ⟨fun a ⟨i, z, _⟩ => (by rw [e] at z; cases z), v, hv, q4⟩
      | slot i =>
        have q5 : io (0 + j) = true := q5
        rw [Nat.zero_add] at q5
        rw [q5]
        have q2 : ρ[i]? = some (.ow d) := q2
        have q4 : σ[i]? = some (some v) := q4
        have s := hR.slot i
        rw [q2] at s
        obtain ⟨b, s1, s2⟩ := s
        rw [q4] at s1; cases s1
        have eo : calO xs o j = o i := by
          funext a
          refine propext ⟨fun ⟨i', z, h⟩ => ?_, fun h => ⟨i, e, h⟩⟩
          rw [e] at z; cases z; exact h
        rw [eo]
        exact ⟨b, hv, s2⟩
  · have : i = i' := hR.disj i i' a x2 y2
    subst this
    exact slots_inj hn x1 y1
theorem all_bak {oc : Ownr} {Pc : Prot} (hR : Rel c σ H ρ o P) (g : ∀ a, calP xs o P a → Pc a) : All (bakO xs o oc) (bakP xs o P Pc) a ↔ (All oc Pc a ∧ ((∃ j, oc j a ∧ ∃ i, xs[j]? = some (.slot i)) ∨ Pc a)) := by
  constructor
  · rintro (h | ⟨i, ⟨j, e, h⟩ | ⟨e, h⟩⟩)
    · rcases h with h | h
      · have : Pc a := g a ⟨.inl h, fun ⟨j, i, _, z⟩ => hR.dP i a z h⟩
        exact ⟨.inl this, .inr this⟩
      · exact ⟨.inl h.1, .inr h.1⟩
    · exact ⟨.inr ⟨j, h⟩, .inl ⟨j, h, i, e⟩⟩
    · have : Pc a := g a ⟨.inr ⟨i, h⟩, fun ⟨j, i', e', z⟩ => by
        have := hR.disj i i' a h z
        subst this
        exact e j e'⟩
      exact ⟨.inl this, .inr this⟩
  · rintro ⟨_, ⟨j, h, i, e⟩ | h⟩
    · exact .inr ⟨i, .inl ⟨j, e, h⟩⟩
    · by_cases q : calP xs o P a
      · rcases q.1 with z | ⟨i, z⟩
        · exact .inl (.inl z)
        · exact .inr ⟨i, .inr ⟨fun j e => q.2 ⟨j, i, e, z⟩, z⟩⟩
      · exact .inl (.inr ⟨h, q⟩)
/-- behind a call -/
theorem Rel.back (hR : Rel c σ H ρ o P) (hX : All2 (RepX1 c σ (hide H (All o P))) xs vs) (hd : argD ρ xs = some ds) (hm : maskOk io 0 xs = true) (hn : noDup (slotsOf xs) = true) {oc : Ownr} {Pc : Prot} (hl : outs.length = xs.length)
    (hC : Rel c (vs.map some) H' (argE io 0 outs) oc Pc) (g : Grow H (calP xs o P) Pc) (s : Step H (calO xs o) H' oc) :
    Rel c σ H' (setIo ρ xs outs) (bakO xs o oc) (bakP xs o P Pc) ∧ Grow H P (bakP xs o P Pc) ∧ Step H o H' (bakO xs o oc) ∧ hide H' (All (bakO xs o oc) (bakP xs o P Pc)) = hide H' (All oc Pc) := by
  obtain ⟨h1, h2⟩ := argD_at hd
  obtain ⟨l1, l2⟩ := hX.at
  -- what the callee owns belongs to slots that were handed over
  have own : ∀ j a, oc j a → ∃ i, xs[j]? = some (.slot i) := fun j a h => by
    have q := hC.slot j
    rw [argE_at, Nat.zero_add] at q
    cases e : xs[j]? with
    | none =>
      have : outs[j]? = none := List.getElem?_eq_none (by rw [hl]; exact List.getElem?_eq_none_iff.mp e)
      rw [this] at q
      exact (q a h).elim
    | some x =>
      cases x with
      | slot i => exact ⟨i, rfl⟩
      | val d' =>
        have q5 : io (0 + j) = false := maskOk_at hm j _ e
        rw [Nat.zero_add] at q5
        cases eo : outs[j]? with
        | none => rw [eo] at q; exact (q a h).elim
        | some d'' =>
          rw [eo, Option.map_some, q5] at q
          exact (q.1 a h).elim
  have hall : ∀ a, All (bakO xs o oc) (bakP xs o P Pc) a ↔ All oc Pc a := fun a => by
    rw [all_bak hR g.sub]
    refine ⟨fun h => h.1, fun h => ⟨h, ?_⟩⟩
    rcases h with h | ⟨j, h⟩
    · exact .inr h
    · exact .inl ⟨j, h, own j a h⟩
  have hh : hide H' (All (bakO xs o oc) (bakP xs o P Pc)) = hide H' (All oc Pc) := by
    congr 1
    funext a
    exact propext (hall a)
  have le : Le (hide H (All o P)) (hide H' (All oc Pc)) := by
    rw [← hide_cal (xs := xs)]
    exact s.hide g.new
  have keep : ∀ a u, H a = some u → (∀ j, ¬ calO xs o j a) → H' a = some u := s.keep
  refine ⟨⟨by rw [setIo_len]; exact hR.len, fun i => ?_, fun i k a x y => ?_, fun i a x y => ?_, fun a x => ?_⟩, ⟨fun a h => .inl h, fun a h => h.elim .inl fun ⟨q, n⟩ => .inr ((g.new a q).elim (fun z => (n z).elim) id)⟩, ⟨fun a u h n => keep a u h fun j ⟨i, _, z⟩ => n i z, fun i a h => ?_, s.there⟩, hh⟩
  · rw [hh]
    by_cases hi : ∃ j : Nat, xs[j]? = some (.slot i)
    · obtain ⟨j, e⟩ := hi
      obtain ⟨d, q1, q2⟩ := h2 j _ e
      have q2 : ρ[i]? = some (.ow d) := q2
      obtain ⟨v, q3, q4⟩ := l2 j _ e
      have q4 : σ[i]? = some (some v) := q4
      have hj : j < outs.length := by rw [hl]; exact (List.getElem?_eq_some_iff.mp e).1
      have hiL : i < ρ.length := (List.getElem?_eq_some_iff.mp q2).1
      rw [setIo_in (j := j) hn e (List.getElem?_eq_getElem hj) hiL]
      have qs := hC.slot j
      have q5 : io (0 + j) = true := maskOk_at hm j _ e
      rw [Nat.zero_add] at q5
      rw [argE_at, Nat.zero_add, List.getElem?_eq_getElem hj, Option.map_some, q5] at qs
      obtain ⟨b, s1, s2⟩ := qs
      rw [List.getElem?_map, q3] at s1
      have eo : bakO xs o oc i = oc j := by
        funext a
        refine propext ⟨fun h => ?_, fun h => .inl ⟨j, e, h⟩⟩
        rcases h with ⟨j', e', h⟩ | ⟨n, _⟩
        · have := slots_inj hn e e'
          subst this; exact h
        · exact (n j e).elim
      rw [eo]
      refine ⟨b, ?_, s2⟩
      rw [q4]
      exact congrArg some (Option.some.inj s1)
    · have hi' : ∀ j : Nat, xs[j]? ≠ some (.slot i) := fun j e => hi ⟨j, e⟩
      rw [setIo_out hi']
      have eo : bakO xs o oc i = o i := by
        funext a
        refine propext ⟨fun h => ?_, fun h => .inr ⟨hi', h⟩⟩
        rcases h with ⟨j', e', h⟩ | ⟨_, h⟩
        · exact (hi' j' e').elim
        · exact h
      rw [eo]
      have q := hR.slot i
      unfold SlotOk at q ⊢
      split
      · rename_i es
        rw [es] at q
        obtain ⟨q1, v, q2, q3⟩ := q
        exact ⟨q1, v, q2, Rep.mono le _ _ q3⟩
      · rename_i es
        rw [es] at q
        obtain ⟨b, q1, q2⟩ := q
        refine ⟨b, q1, q2.keep (fun x w hx hw => keep x w hw fun j ⟨i', e', z⟩ => ?_) le⟩
        have := hR.disj i i' x hx z
        subst this
        exact hi' j e'
      · rename_i n1 n2
        split at q
        · rename_i es; exact (n1 _ es).elim
        · rename_i es; exact (n2 _ es).elim
        · exact q
  · -- no cell twice
    have inP : ∀ i, (∀ j : Nat, xs[j]? ≠ some (.slot i)) → o i a → Pc a := fun i n h => g.sub a ⟨.inr ⟨i, h⟩, fun ⟨j, i', e', z⟩ => by
      have := hR.disj i i' a h z
      subst this
      exact n j e'⟩
    rcases x with ⟨j, e, x⟩ | ⟨e, x⟩ <;> rcases y with ⟨j', e', y⟩ | ⟨e', y⟩
    · have := hC.disj j j' a x y
      subst this
      rw [e] at e'; cases e'; rfl
    · exact (hC.dP j a x (inP k e' y)).elim
    · exact (hC.dP j' a y (inP i e x)).elim
    · exact hR.disj i k a x y
  · have inP : P a → Pc a := fun h => g.sub a ⟨.inl h, fun ⟨j, i, _, z⟩ => hR.dP i a z h⟩
    rcases x with ⟨j, e, x⟩ | ⟨e, x⟩
    · rcases y with y | y
      · exact hC.dP j a x (inP y)
      · exact hC.dP j a x y.1
    · rcases y with y | y
      · exact hR.dP i a x y
      · exact y.2 ⟨.inr ⟨i, x⟩, fun ⟨j, i', e', z⟩ => by
          have := hR.disj i i' a x z
          subst this
          exact e j e'⟩
  · rcases x with x | x
    · exact hC.prot a (g.sub a ⟨.inl x, fun ⟨j, i, _, z⟩ => hR.dP i a z x⟩)
    · exact hC.prot a x.1
  · rcases h with ⟨j, e, h⟩ | ⟨e, h⟩
    · rcases s.news j a h with ⟨i', e', z⟩ | z
      · rw [e] at e'; cases e'; exact .inl z
      · exact .inr z
    · exact .inl h
/-- what a call does -/
theorem call_fin {F : FS} {Q : VK} {E : XK} (hR : Rel c σ H ρ o P) (hX : All2 (RepX1 c σ (hide H (All o P))) xs vs) (hw : ∀ cl dd H', W cl dd σ H' → E cl dd H') (hP : Post c W RepR σ H o P (calR2 io n F ρ xs) Q) : spD c io n F vs H Q E := by
  unfold calR2 at hP
  cases hd : argD ρ xs with
  | none => rw [hd] at hP; exact hP.elim
  | some ds =>
    simp only [hd, Option.bind_some] at hP
    by_cases hc : (maskOk io 0 xs && noDup (slotsOf xs) && decide (xs.length = n)) = true
    · rw [if_pos hc] at hP
      rw [Bool.and_eq_true, Bool.and_eq_true, decide_eq_true_eq] at hc
      obtain ⟨⟨hm, hn⟩, hlen⟩ := hc
      refine ⟨hX.at.1.symm.trans hlen, ds, _, _, hR.call hX hd hm hn, ?_⟩
      cases ef : F ds with
      | none => rw [ef] at hP; exact hP.elim
      | some q =>
        obtain ⟨q, outs⟩ := q
        cases q with
        | exc x =>
          simp only [ef] at hP
          by_cases hl : outs.length = xs.length
          · rw [if_pos hl] at hP
            intro cl dd H' o' R' s' hx
            obtain ⟨R2, G2, S2, hh⟩ := hR.back hX hd hm hn hl R' Grow.refl s'
            have eP : bakP xs o P (calP xs o P) = P := by
              funext a
              exact propext ⟨fun h => h.elim id fun z => (z.2 z.1).elim, .inl⟩
            rw [eP] at R2 hh
            exact hw _ _ _ (hP cl dd H' _ R2 S2 (by rw [hh]; exact hx))
          · rw [if_neg hl] at hP; exact hP.elim
        | val r =>
          have hsl : isSl r = false := by
            cases r with
            | sl i => simp only [ef] at hP; exact hP.elim
            | _ => rfl
          have hP : Post c W RepR σ H o P (if outs.length = xs.length then some (.val r, setIo ρ xs outs) else none) Q := by
            cases r with
            | sl i => cases hsl
            | fz d => simp only [ef] at hP; exact hP
            | fr d => simp only [ef] at hP; exact hP
          by_cases hl : outs.length = xs.length
          · rw [if_pos hl] at hP
            refine ⟨hsl, fun v H' o' P' R' g' s' hM => ?_⟩
            obtain ⟨R2, G2, S2, hh⟩ := hR.back hX hd hm hn hl R' g' s'
            refine hP v H' _ _ R2 G2 S2 ?_
            cases r with
            | sl i => cases hsl
            | fz d =>
              show Rep c (hide H' (All (bakO xs o o') (bakP xs o P P'))) d v
              rw [hh]; exact hM
            | fr d =>
              obtain ⟨a, S, e, z1, z2⟩ := hM
              refine ⟨a, S, e, by rw [hh]; exact z1, fun x hx => ⟨.inr ⟨(z2 x hx).1, (z2 x hx).2⟩, fun q => (z2 x hx).2 ⟨.inl q, fun ⟨j, i, _, z⟩ => hR.dP i x z q⟩⟩⟩
          · rw [if_neg hl] at hP; exact hP.elim
    · rw [if_neg hc] at hP; exact hP.elim
theorem call_core {F : FS} {E : St → XK} {Q : VK} (hw : ∀ σ cl dd H', W cl dd σ H' → E σ cl dd H') (h : tE c W (callS io n F g) σ H Q) : tCallS (spD c io n F) E (tX c W g) σ H Q := by
  obtain ⟨ρ, o, P, hR, hP⟩ := h
  exact seq1 base_R hR hP fun xs ρ1 vs H1 o1 P1 R1 G1 S1 M1 hP1 => call_fin R1 M1 (fun cl dd H' => hw σ cl dd H') hP1
/-- f(e, ..) -/
theorem pd_call {k : Nat} {fa : Addr} {fd : FuncData} {ps : List Str} {F : FS} {x : Str} {p pos : Pos} (Fn : FnOk X.prog X.w X.K X.mg X.base (L2.CX X.prog X.w) k fa fd ps (spD c io n F)) (hr : Room k X.A) (hg : Gl X x) (hm : X.mg x = some (.ref fa)) (hk : PySem.W.keepIn X.K (.ref fa) = true) (hb : Binds X.K fd ps []) (tk : Takes X W)
    (ha : PA X (e :: es) (tX c W g)) (hdb : (x == ("__debug__" : Str)) = false := by decide +kernel) (he : starEach (e :: es) X.env = (false, eval e X.env) :: starEach es X.env := by rfl) (hpl : (backTo pos (starEach es X.env)).any (·.1) = false := by rfl) :
    PE X (.Call (.Name x p) (e :: es) [] pos) (tE c W (callS io n F g)) :=
  pe_of (pe_callS (E := WE W) Fn hr hg hm hk hb (fun σ => passAt tk σ) ha hdb he hpl) fun σ H Q h => call_core (E := WE W) (fun σ cl dd H' q => q) h
end
end Ly
set_option Elab.async false
set_option linter.all false
set_option maxRecDepth 100000
set_option maxHeartbeats 1000000
namespace Ly
open PySem L2

/-! ### 25. what is owned is written -/
def oneCell : D → Bool
  | .lst _ | .dic _ _ _ | .obj _ _ => true
  | _ => false
section
variable {c : Cc} {W : WXX} {io : Nat → Bool} {X : Cx} {σ σ1 σ2 : St} {H H0 H1 H' G G' : Hp} {ρ ρ0 ρ1 ρ2 ρ' : Env} {o o0 o1 o2 o' : Ownr} {P P1 P2 P' : Prot} {d d1 d2 d' : D} {v v1 v2 : V} {r : R} {a b p : Addr} {u w u' : HO} {e : Expr} {es : List Expr} {f : Sem R} {t : Sem Bool} {En : Ends} {ds outs : List D} {vs : List V} {n m i : Nat}
theorem own_one {S : Addr → Prop} (h : Own c H G d a S) (h1 : oneCell d = true) : (∃ u, H a = some u ∧ CellOf c G d u) ∧ ∀ x, S x ↔ x = a := by
  cases d <;> first | (cases h1; done) | skip
  · exact h
  · exact h
  · exact h
theorem one_own {S : Addr → Prop} (h1 : oneCell d = true) (e : H a = some u) (hc : CellOf c G d u) (hS : ∀ x, S x ↔ x = a) : Own c H G d a S := by
  cases d <;> first | (cases h1; done) | skip
  · exact ⟨⟨u, e, hc⟩, hS⟩
  · exact ⟨⟨u, e, hc⟩, hS⟩
  · exact ⟨⟨u, e, hc⟩, hS⟩
theorem cell_noTup (h1 : oneCell d = true) (hc : CellOf c G d u) : ∀ xs, u ≠ .tup xs := fun xs e => by
  subst e
  cases d <;> first | (cases h1; done) | skip
  · exact hc
  · rename_i t _ _; cases t <;> exact hc
  · exact hc
/-- the owned thing in a slot -/
theorem Rel.owned (hR : Rel c σ H ρ o P) (hi : ρ[i]? = some (.ow d)) (h1 : oneCell d = true) : ∃ a u, σ[i]? = some (some (.ref a)) ∧ H a = some u ∧ CellOf c (hide H (All o P)) d u ∧ (∀ x, o i x ↔ x = a) := by
  have q := hR.slot i
  rw [hi] at q
  obtain ⟨a, q1, q2⟩ := q
  obtain ⟨⟨u, h2, h3⟩, h4⟩ := own_one q2 h1
  exact ⟨a, u, q1, h2, h3, h4⟩
/-- it is written -/
theorem Rel.write (hR : Rel c σ H ρ o P) (hi : ρ[i]? = some (.ow d)) (hs : σ[i]? = some (some (.ref a))) (ho : ∀ x, o i x ↔ x = a) (h1 : oneCell d' = true) (hc : CellOf c (hide H (All o P)) d' u') : Rel c σ (upd H a u') (ρ.set i (.ow d')) o P ∧ Step H o (upd H a u') o := by
  have oa : o i a := (ho a).mpr rfl
  have hh : hide (upd H a u') (All o P) = hide H (All o P) := by
    funext x
    unfold hide
    by_cases h : All o P x
    · simp [h]
    · have : x ≠ a := fun e => h (e ▸ .inr ⟨i, oa⟩)
      simp [h, upd_ne this]
  have hiL : i < ρ.length := (List.getElem?_eq_some_iff.mp hi).1
  refine ⟨⟨by rw [List.length_set]; exact hR.len, fun j => ?_, hR.disj, hR.dP, fun x z => ?_⟩, fun x w hx n => ?_, fun j x z => .inl z, fun x w hx => ?_⟩
  · rw [hh]
    by_cases hj : i = j
    · subst hj
      rw [List.getElem?_set_self hiL]
      exact ⟨a, hs, one_own h1 upd_same hc ho⟩
    · rw [List.getElem?_set_ne hj]
      have q := hR.slot j
      unfold SlotOk at q ⊢
      split
      · rename_i es; rw [es] at q; exact q
      · rename_i es
        rw [es] at q
        obtain ⟨b, q1, q2⟩ := q
        refine ⟨b, q1, q2.keep (fun x w hx hw => ?_) (Le.refl _)⟩
        have : x ≠ a := fun e => hj (hR.disj i j a oa (e ▸ hx))
        rw [upd_ne this]; exact hw
      · rename_i n1 n2
        split at q
        · rename_i es; exact (n1 _ es).elim
        · rename_i es; exact (n2 _ es).elim
        · exact q
  · have : x ≠ a := fun e => hR.dP i a oa (e ▸ z)
    rw [upd_ne this]; exact hR.prot x z
  · have : x ≠ a := fun e => n i (e ▸ oa)
    rw [upd_ne this]; exact hx
  · by_cases e : x = a
    · exact ⟨u', by rw [e]; exact upd_same⟩
    · exact ⟨w, by rw [upd_ne e]; exact hx⟩

/-! methods of a list in a slot -/
/-- the items, the arguments; the items behind it, what is told -/
def MutD (c : Cc) (r : V → List V → Hp → VK → Prop) (g : List D → List D → Option (List D × D)) : Prop := ∀ (H G : Hp) (l : Addr) (ds args ds' : List D) (xs vs : List V) (res : D) (Q : VK), Le G H → H l = some (.lst xs) → Reps c G ds xs → Reps c G args vs → g ds args = some (ds', res) →
  (∀ xs' v, Reps c G ds' xs' → Rep c G res v → Q v (upd H l (.lst xs'))) → r (.ref l) vs H Q
def isLst (ρ : Env) (i : Nat) : Bool := match ρ[i]? with
  | some (.ow (.lst _)) => true
  | _ => false
def mutR (i : Nat) (g : List D → List D → Option (List D × D)) (ρ : Env) (args : List D) : Option (Out R × Env) := match ρ[i]? with
  | some (.ow (.lst ds)) => (g ds args).map fun p => (.val (.fz p.2), ρ.set i (.ow (.lst p.1)))
  | _ => none
def mutS (i : Nat) (g : List D → List D → Option (List D × D)) (a : Sem (List D)) : Sem R := fun ρ => if isLst ρ i then bnd (a ρ) fun args ρ1 => mutR i g ρ1 args else none
theorem isLst_iff (h : isLst ρ i = true) : ∃ ds, ρ[i]? = some (.ow (.lst ds)) := by
  unfold isLst at h
  split at h
  · rename_i ds e; exact ⟨ds, e⟩
  · cases h
theorem mut_fin {r : V → List V → Hp → VK → Prop} {g : List D → List D → Option (List D × D)} {Q : VK} (hg : MutD c r g) (hR : Rel c σ H ρ o P) (hs : σ[i]? = some (some v)) (hA : Reps c (hide H (All o P)) ds vs) (hP : Post c W RepR σ H o P (mutR i g ρ ds) Q) : r v vs H Q := by
  unfold mutR at hP
  split at hP
  · rename_i xs hi
    obtain ⟨a, u, q1, q2, q3, q4⟩ := hR.owned hi rfl
    rw [hs] at q1; cases q1
    cases u <;> first | exact q3.elim | skip
    rename_i ys
    cases eg : g xs ds with
    | none => rw [eg] at hP; exact hP.elim
    | some z =>
      obtain ⟨ds', res⟩ := z
      rw [eg] at hP
      refine hg H _ a xs ds ds' ys vs res Q hide_le q2 q3 hA eg fun xs' w h1 h2 => ?_
      obtain ⟨R2, S2⟩ := hR.write (d' := .lst ds') (u' := .lst xs') hi hs q4 rfl h1
      refine hP w _ o P R2 Grow.refl S2 (show Rep c (hide (upd H a (.lst xs')) (All o P)) res w from Rep.mono ?_ _ _ h2)
      exact S2.hide fun a z => .inl z
  · exact hP.elim
theorem mut_core {r : V → List V → Hp → VK → Prop} {g : List D → List D → Option (List D × D)} {A : Sem (List D)} {Q : VK} (hg : MutD c r g) (h : tE c W (mutS i g A) σ H Q) : tBM c.K "list" r (tVar i) (tFs c W A) σ H Q := by
  obtain ⟨ρ, o, P, hR, hP⟩ := h
  unfold mutS at hP
  by_cases hl : isLst ρ i = true
  · rw [if_pos hl] at hP
    obtain ⟨ds0, hi⟩ := isLst_iff hl
    obtain ⟨a, u, q1, q2, q3, q4⟩ := hR.owned hi rfl
    cases u <;> first | exact q3.elim | skip
    rename_i ys
    refine ⟨_, q1, .inl ⟨rfl, ys, .of q2⟩, ?_⟩
    refine seq1 base_R hR hP fun args ρ1 vs H1 o1 P1 R1 G1 S1 M1 hP1 => ?_
    exact mut_fin hg R1 q1 M1 hP1
  · rw [if_neg hl] at hP; exact hP.elim
theorem mut_core0 {r : V → List V → Hp → VK → Prop} {g : List D → List D → Option (List D × D)} {Q : VK} (hg : MutD c r g) (h : tE c W (mutS i g nilF) σ H Q) : tBM0 c.K "list" r (tVar i) σ H Q := by
  obtain ⟨ρ, o, P, hR, hP⟩ := h
  unfold mutS at hP
  by_cases hl : isLst ρ i = true
  · rw [if_pos hl] at hP
    obtain ⟨ds0, hi⟩ := isLst_iff hl
    obtain ⟨a, u, q1, q2, q3, q4⟩ := hR.owned hi rfl
    cases u <;> first | exact q3.elim | skip
    rename_i ys
    exact ⟨_, q1, .inl ⟨rfl, ys, .of q2⟩, mut_fin hg hR q1 Reps.nil hP⟩
  · rw [if_neg hl] at hP; exact hP.elim
/-- x.m(e, ..), x a list in a slot -/
theorem pd_mut {x name : Str} {id : String} {A : Sem (List D)} {p apos cpos : Pos} {r : V → List V → Hp → VK → Prop} {g : List D → List D → Option (List D × D)} (k : Okc c X) (slot : PySem.Slot "list" name id) (hty : typeOf (.builtin id) = pure (.type "method_descriptor")) (hm : MtR X id r) (hg : MutD c r g) (hN : X.N[i]? = some x) (hv : Vis X.env.scope x) (ha : PA X (e :: es) (tFs c W A))
    (hbase : attributeBase (.Name x p) name X.env (eval (.Name x p) X.env) = eval (.Name x p) X.env := by rfl)
    (hfew : ((backTo cpos (starEach (e :: es) X.env)).all (fun x => !x.1) && (backToKw cpos (keywordEach [] X.env)).all (fun x => x.1.isSome)
      && decide ((e :: es).length + ([] : List Keyword).length + (if ([] : List Keyword).isEmpty then 0 else 1) < 30)) = true := by rfl)
    (hline : (apos.endLine == cpos.line) = true := by rfl) (hs : starEach (e :: es) X.env = (false, eval e X.env) :: starEach es X.env := by rfl) (hplain : (backTo cpos (starEach es X.env)).any (·.1) = false := by rfl)
    (hd : (x == ("__debug__" : Str)) = false := by decide +kernel) (hcd : (x == ("__classdict__" : Str)) = false := by decide +kernel) : PE X (.Call (.Attribute (.Name x p) name apos) (e :: es) [] cpos) (tE c W (mutS i g A)) :=
  pe_of (pe_bm F.plainAttrs_list slot hty hm (pe_var (i := i) hN hv hd hcd) ha hbase hfew hline hs hplain) fun σ H Q h => k.hK ▸ mut_core hg h
theorem pd_mut0 {x name : Str} {id : String} {p apos cpos : Pos} {r : V → List V → Hp → VK → Prop} {g : List D → List D → Option (List D × D)} (k : Okc c X) (slot : PySem.Slot "list" name id) (hty : typeOf (.builtin id) = pure (.type "method_descriptor")) (hm : MtR X id r) (hg : MutD c r g) (hN : X.N[i]? = some x) (hv : Vis X.env.scope x)
    (hbase : attributeBase (.Name x p) name X.env (eval (.Name x p) X.env) = eval (.Name x p) X.env := by rfl) (hline : (apos.endLine == cpos.line) = true := by rfl)
    (hd : (x == ("__debug__" : Str)) = false := by decide +kernel) (hcd : (x == ("__classdict__" : Str)) = false := by decide +kernel) : PE X (.Call (.Attribute (.Name x p) name apos) [] [] cpos) (tE c W (mutS i g nilF)) :=
  pe_of (pe_bm0 F.plainAttrs_list slot hty hm (pe_var (i := i) hN hv hd hcd) hbase hline) fun σ H Q h => k.hK ▸ mut_core0 hg h
def appendD : List D → List D → Option (List D × D)
  | xs, [d] => if xs.length < 1000000 then some (xs ++ [d], .non) else none
  | _, _ => none
def extendD : List D → List D → Option (List D × D)
  | xs, [.lst ys] => if xs.length + ys.length ≤ 1000000 then some (xs ++ ys, .non) else none
  | _, _ => none
def popD : List D → List D → Option (List D × D)
  | xs, [] => (xs[xs.length - 1]?).map fun d => (xs.dropLast, d)
  | _, _ => none
def popAtD : List D → List D → Option (List D × D)
  | xs, [.int i] => if small62 i then (seqIndex? i xs.length).bind fun k => (xs[k]?).map fun d => (xs.eraseIdx k, d) else none
  | _, _ => none
theorem Reps.dropLast : ∀ {ds : List D} {xs : List V}, Reps c G ds xs → Reps c G ds.dropLast xs.dropLast := fun {ds xs} h => by
  rw [List.dropLast_eq_take, List.dropLast_eq_take, ← h.len]
  exact h.take _
theorem Reps.erase : ∀ {ds : List D} {xs : List V} (k : Nat), Reps c G ds xs → Reps c G (ds.eraseIdx k) (xs.eraseIdx k)
  | [], xs, k, h => by cases Reps.nil_iff.mp h; exact Reps.nil
  | d :: ds, xs, 0, h => by
    obtain ⟨v, r, rfl, h1, h2⟩ := h.cons_inv
    exact h2
  | d :: ds, xs, k + 1, h => by
    obtain ⟨v, r, rfl, h1, h2⟩ := h.cons_inv
    exact .cons h1 (Reps.erase k h2)
theorem m_append : MutD c rAppend appendD := by
  intro H G l ds args ds' xs vs res Q hl h1 h2 h3 hg hq
  match args, hg with
  | [d], hg =>
    have hg : (if ds.length < 1000000 then some (ds ++ [d], D.non) else none) = some (ds', res) := hg
    by_cases hs : ds.length < 1000000
    · rw [if_pos hs] at hg; cases hg
      obtain ⟨v, r, rfl, m1, m2⟩ := h3.cons_inv
      cases Reps.nil_iff.mp m2
      exact ⟨l, xs, v, rfl, rfl, h1, by rw [← h2.len]; exact m_lt hs, hq _ _ (h2.append (.cons m1 .nil)) (by unfold Rep; rfl)⟩
    · rw [if_neg hs] at hg; cases hg
  | [], hg => cases hg
  | _ :: _ :: _, hg => cases hg
theorem m_extend : MutD c rExtend extendD := by
  intro H G l ds args ds' xs vs res Q hl h1 h2 h3 hg hq
  unfold extendD at hg
  split at hg
  · rename_i ys
    by_cases hs : ds.length + ys.length ≤ 1000000
    · rw [if_pos hs] at hg; cases hg
      obtain ⟨v, r, rfl, m1, m2⟩ := h3.cons_inv
      cases Reps.nil_iff.mp m2
      obtain ⟨b, zs, rfl, m3, m4⟩ := rep_lst m1
      exact ⟨l, b, xs, zs, rfl, rfl, h1, hl _ _ m3, by rw [← h2.len, ← m4.len]; exact m_le hs, hq _ _ (h2.append m4) (by unfold Rep; rfl)⟩
    · rw [if_neg hs] at hg; cases hg
  · cases hg
theorem m_pop : MutD c rPop popD := by
  intro H G l ds args ds' xs vs res Q hl h1 h2 h3 hg hq
  unfold popD at hg
  split at hg
  · cases Reps.nil_iff.mp h3
    obtain ⟨d, e, z⟩ := Option.map_eq_some_iff.mp hg
    cases z
    obtain ⟨v, e2, m⟩ := h2.get e
    exact ⟨l, xs, v, rfl, rfl, h1, by rw [← h2.len]; exact e2, hq _ _ h2.dropLast m⟩
  · cases hg
theorem m_popAt : MutD c rPopAt popAtD := by
  intro H G l ds args ds' xs vs res Q hl h1 h2 h3 hg hq
  unfold popAtD at hg
  split at hg
  · rename_i i
    by_cases hs : small62 i = true
    · rw [if_pos hs] at hg
      obtain ⟨v, r, rfl, m1, m2⟩ := h3.cons_inv
      cases Reps.nil_iff.mp m2
      unfold Rep at m1
      subst m1
      cases e1 : seqIndex? i ds.length with
      | none => rw [e1] at hg; cases hg
      | some k =>
        rw [e1] at hg
        obtain ⟨d, e, z⟩ := Option.map_eq_some_iff.mp (show (ds[k]?).map (fun d => (ds.eraseIdx k, d)) = some (ds', res) from hg)
        cases z
        obtain ⟨v, e2, m⟩ := h2.get e
        obtain ⟨a1, a2⟩ := small62_iff hs
        have b1 : (2 : Int) ^ 62 = 4611686018427387904 := by decide
        have b2 : (2 : Int) ^ 63 = 9223372036854775808 := by decide
        exact ⟨l, xs, i, k, v, rfl, rfl, h1, by omega, by omega, by rw [← h2.len]; exact e1, e2, hq _ _ (h2.erase k) m⟩
    · rw [if_neg hs] at hg; cases hg
  · cases hg

/-! x[e] = v, x a list or a dict in a slot -/
def putR (i : Nat) (ρ : Env) (d y : D) : Option Env := match ρ[i]? with
  | some (.ow (.lst xs)) => (match y with
    | .int k => (ixN xs.length k).map fun j => ρ.set i (.ow (.lst (xs.set j d)))
    | _ => none)
  | some (.ow (.dic t ks ws)) => (dKey t y).bind fun q => if ks.length < 1000000 then some (ρ.set i (.ow (.dic t (dput t ks ws q y d).1 (dput t ks ws q y d).2))) else none
  | _ => none
/-- the value first, then the place -/
def putS (i : Nat) (fy f : Sem R) : SemS := fun ρ => bndS (frzS f ρ) fun d ρ1 => match ρ1[i]? with
  | some (.ow _) => bndS (frzS fy ρ1) fun y ρ2 => (putR i ρ2 d y).map fun ρ3 => (.nx, ρ3)
  | _ => none
def tSetA : TSet := fun o i v H Q => rSetL o i v H Q ∨ rSetD o i v H Q
end
end Ly
set_option Elab.async false
set_option linter.all false
set_option maxRecDepth 100000
set_option maxHeartbeats 1000000
namespace Ly
open PySem L2
section
variable {c : Cc} {W : WXX} {io : Nat → Bool} {X : Cx} {σ σ1 σ2 : St} {H H0 H1 H' G G' : Hp} {ρ ρ0 ρ1 ρ2 ρ' : Env} {o o0 o1 o2 o' : Ownr} {P P1 P2 P' : Prot} {d d1 d2 d' : D} {v v1 v2 : V} {r : R} {a b p : Addr} {u w u' : HO} {e : Expr} {es : List Expr} {f : Sem R} {t : Sem Bool} {En : Ends} {ds outs : List D} {vs : List V} {n m i : Nat}
/-- a part of a statement: the step from its own start, too -/
theorem stm2 {α β : Type} {rel : RR α β} {f : Sem α} {k : α → Ly.Env → Option (Fl × Ly.Env)} {K : β → Hp → Prop} (hR : Rel c σ H1 ρ o1 P1) (g0 : Grow H P P1) (s0 : Step H o H1 o1) (h : PostS c W io σ H o P (bndS (f ρ) k) En)
    (hk : ∀ r ρ2 v H2 o2 P2, Rel c σ H2 ρ2 o2 P2 → Grow H1 P1 P2 → Step H1 o1 H2 o2 → rel c σ H2 o2 P1 P2 r v → PostS c W io σ H o P (k r ρ2) En → K v H2) : tG c W rel f σ H1 K := by
  refine ⟨ρ, o1, P1, hR, ?_⟩
  cases e : f ρ with
  | none => rw [e] at h; exact h
  | some p =>
    obtain ⟨q, ρ1⟩ := p
    rw [e] at h
    cases q with
    | val r => exact fun v H2 o2 P2 R2 G2 S2 M2 => hk r ρ1 v H2 o2 P2 R2 G2 S2 M2 h
    | exc x =>
      intro cl dd H' o' R' s' q
      exact h cl dd σ H' o' (R'.shrink g0.sub) (s0.trans s') Kept.refl (q.mono (hide_mono fun a u e n => ⟨e, fun z => n (z.elim (fun z => .inl (g0.sub a z)) .inr)⟩))
theorem reps_keys : ∀ {ks : List Key} {vs : List V}, Reps c G (ks.map kD) vs → vs = ks.map kV
  | [], vs, h => Reps.nil_iff.mp h
  | k :: ks, vs, h => by
    obtain ⟨v, r, rfl, h1, h2⟩ := h.cons_inv
    rw [reps_keys h2]
    have : v = kV k := by
      cases k with
      | inl i => have h1 : Rep c G (.int i) v := h1; unfold Rep at h1; exact h1
      | inr s => have h1 : Rep c G (.str s.cps.toList) v := h1; unfold Rep at h1; exact h1
    rw [this]; rfl
theorem set_or {t t' : TSet} (h : PSet X t) (h' : PSet X t') : PSet X (fun o i v H Q => t o i v H Q ∨ t' o i v H Q) := by
  intro pins s σ H o i v ov iv u Q I ro ri rv q
  rcases q with q | q
  · exact h pins s σ H o i v ov iv u Q I ro ri rv q
  · exact h' pins s σ H o i v ov iv u Q I ro ri rv q
theorem set_any (k : Okc c X) : PSet X tSetA := set_or set_list (set_dict (by have := k.hu; omega))
/-- what a dict in a slot becomes -/
theorem dic_put {t : Bool} {ks ws : List D} {q : DKey} {y : D} {vy vd : V} (hl : Le G H) (hH : H a = some u) (hc : CellOf c G (.dic t ks ws) u) (hy : Rep c G y vy) (hd : Rep c G d vd) (hk : dKey t y = some q) (hz : ks.length < 1000000) :
    ∃ u', DPut H a vy vd (upd H a u') ∧ CellOf c G (.dic t (dput t ks ws q y d).1 (dput t ks ws q y d).2) u' := by
  cases t with
  | false =>
    cases u <;> first | exact hc.elim | skip
    rename_i kvs
    obtain ⟨rfl, hc⟩ := hc
    obtain ⟨k, ek, rfl⟩ := Option.map_eq_some_iff.mp (show (kOf y).map DKey.k = some q from hk)
    have ey := kD_kOf ek
    subst ey
    obtain ⟨q1, q2⟩ := dput_k k hc hd
    exact ⟨.dK (putK kvs k vd), .inl ⟨kvs, k, hH, kOf_V hy ek, by simp at hz; exact m_lt hz, rfl⟩, q1, q2⟩
  | true =>
    cases u <;> first | exact hc.elim | skip
    rename_i kvs
    obtain ⟨rfl, hc⟩ := hc
    cases y <;> first | (cases hk; done) | skip
    rename_i xs
    obtain ⟨k, ek, rfl⟩ := Option.map_eq_some_iff.mp (show (kOfs xs).map DKey.t = some q from hk)
    have ey := map_kOfs ek
    subst ey
    obtain ⟨q1, q2⟩ := dput_t k hc hd
    obtain ⟨b, zs, rfl, m1, m2⟩ := rep_tup hy
    have := reps_keys m2
    subst this
    exact ⟨.dT (putK kvs k vd), .inr ⟨kvs, k, b, hH, rfl, hl _ _ m1, by simp at hz; exact m_lt hz, rfl⟩, q1, q2⟩
theorem ixN_len {xs : List V} {k : Int} {j : Nat} (h : Reps c G ds xs) (e : ixN ds.length k = some j) : ixN xs.length k = some j := by rw [← h.len]; exact e
theorem ds_put {ey : Expr} {x : Str} {p1 p2 pos : Pos} {fy : Sem R} (k : Okc c X) (hN : X.N[i]? = some x) (hv : Vis X.env.scope x) (hy : PE X ey (tE c W fy)) (he : PE X e (tE c W f))
    (hs : swapsWithSole [.Subscript (.Name x p1) ey p2] e pos.line X.env = pure false := by rfl) (hw : swappedStores [.Subscript (.Name x p1) ey p2] e X.env = pure none := by rfl)
    (h1 : (assignEach [.Subscript (.Name x p1) ey p2] X.env).map (·.2) = [assign (.Subscript (.Name x p1) ey p2) X.env] := by rfl)
    (hd : (x == ("__debug__" : Str)) = false := by decide +kernel) (hcd : (x == ("__classdict__" : Str)) = false := by decide +kernel)
    (hpg : PG X (.Subscript (.Name x p1) ey p2) (gSub (tVar i) (tF c W (frzS fy)) tSetA)) : PS X (.Assign [.Subscript (.Name x p1) ey p2] e pos) (tS c W io (putS i fy f)) := by
  refine ps_of (ps_asg (fd_of he) hpg hs hw h1) ?_
  rintro En σ H ⟨ρ, o, P, hR, hP⟩
  refine stm hR Grow.refl Step.refl hP fun d ρ1 vd H1 o1 P1 R1 G1 S1 M1 hP1 => ?_
  have M1 : Rep c (hide H1 (All o1 P1)) d vd := M1
  have hP1 : PostS c W io σ H o P (match ρ1[i]? with
    | some (.ow _) => bndS (frzS fy ρ1) fun y ρ2 => (putR i ρ2 d y).map fun ρ3 => (.nx, ρ3)
    | _ => none) En := hP1
  cases hi : ρ1[i]? with
  | none => simp only [hi] at hP1; exact hP1.elim
  | some sl =>
    cases sl with
    | no => simp only [hi] at hP1; exact hP1.elim
    | fz _ => simp only [hi] at hP1; exact hP1.elim
    | ow d0 =>
      simp only [hi] at hP1
      have q := R1.slot i
      rw [hi] at q
      obtain ⟨a0, q1, _⟩ := q
      refine ⟨_, q1, ?_⟩
      refine stm2 R1 G1 S1 hP1 fun y ρ2 vy H2 o2 P2 R2 G2 S2 M2 hP2 => ?_
      have M2 : Rep c (hide H2 (All o2 P2)) y vy := M2
      have R3 := R2.shrink (fun a h => G2.sub a (G1.sub a h))
      have lo : Le (hide H2 (All o2 P2)) (hide H2 (All o2 P)) := hide_mono fun a u e n => ⟨e, fun z => n (z.elim (fun z => .inl (G2.sub a (G1.sub a z))) .inr)⟩
      have M1' : Rep c (hide H2 (All o2 P)) d vd := Rep.mono lo _ _ (Rep.mono (S2.hide G2.new) _ _ M1)
      have M2' : Rep c (hide H2 (All o2 P)) y vy := Rep.mono lo _ _ M2
      have S12 := S1.trans S2
      -- what is written
      have fin : ∀ {d' : D} {u' : HO} {d0 : D} {ρ3 : Ly.Env}, ρ2[i]? = some (.ow d0) → oneCell d0 = true → oneCell d' = true → CellOf c (hide H2 (All o2 P)) d' u' → ρ3 = ρ2.set i (.ow d') → (∀ x, o2 i x ↔ x = a0) → PostS c W io σ H o P (some (.nx, ρ3)) En → En.nx σ (upd H2 a0 u') := fun {d' u' d0 ρ3} hi2 _ h1 hc e3 ho hP3 => by
        subst e3
        obtain ⟨R4, S4⟩ := R3.write (d' := d') (u' := u') hi2 q1 ho h1 hc
        exact hP3 σ _ o2 R4 (S12.trans S4) Kept.refl
      cases ep : putR i ρ2 d y with
      | none => rw [ep] at hP2; exact hP2.elim
      | some ρ3 =>
        rw [ep] at hP2
        unfold putR at ep
        split at ep
        · rename_i xs hi2
          obtain ⟨a, u, z1, z2, z3, z4⟩ := R3.owned hi2 rfl
          rw [q1] at z1; cases z1
          cases u <;> first | exact z3.elim | skip
          rename_i zs
          have z3 : Reps c (hide H2 (All o2 P)) xs zs := z3
          cases y <;> first | (cases ep; done) | skip
          · rename_i kk _
            obtain ⟨j, ej, e3⟩ := Option.map_eq_some_iff.mp (show (ixN xs.length kk).map (fun j => ρ2.set i (.ow (.lst (xs.set j d)))) = some ρ3 from ep)
            unfold Rep at M2'
            exact .inl ⟨a0, zs, kk, j, rfl, M2', z2, ixN_len z3 ej, fin hi2 rfl rfl (show CellOf c _ (.lst (xs.set j d)) (.lst (zs.set j vd)) from z3.set j M1') e3.symm z4 hP2⟩
        · rename_i t ks ws hi2
          obtain ⟨a, u, z1, z2, z3, z4⟩ := R3.owned hi2 rfl
          rw [q1] at z1; cases z1
          cases ek : dKey t y with
          | none => rw [ek] at ep; cases ep
          | some q =>
            rw [ek] at ep
            have ep : (if ks.length < 1000000 then some (ρ2.set i (.ow (.dic t (dput t ks ws q y d).1 (dput t ks ws q y d).2))) else none) = some ρ3 := ep
            by_cases hz : ks.length < 1000000
            · rw [if_pos hz] at ep; cases ep
              obtain ⟨u', w1, w2⟩ := dic_put (H := H2) hide_le z2 z3 M2' M1' ek hz
              exact .inr ⟨a0, _, rfl, w1, fin hi2 rfl rfl w2 rfl z4 hP2⟩
            · rw [if_neg hz] at ep; cases ep
        · cases ep
/-- what the rule for x[e] = v asks: the place -/
theorem pg_put {ey : Expr} {x : Str} {p1 p2 : Pos} {fy : Sem R} (k : Okc c X) (hN : X.N[i]? = some x) (hv : Vis X.env.scope x) (hy : PE X ey (tE c W fy)) (hd : (x == ("__debug__" : Str)) = false := by decide +kernel) (hcd : (x == ("__classdict__" : Str)) = false := by decide +kernel)
    (ha : ∀ v, assign (.Subscript (.Name x p1) ey p2) X.env v = (do
      let ov ← holding [v] (eval (.Name x p1) X.env)
      let iv ← holding [v, ov] (eval ey X.env)
      standAt p2
      holding [v, ov, iv] (setItem ov iv v)
      release [v, ov, iv] []) := by intro _; rfl) : PG X (.Subscript (.Name x p1) ey p2) (gSub (tVar i) (tF c W (frzS fy)) tSetA) := pg_sub (pe_var hN hv hd hcd) (fd_of hy) (set_any k) ha

/-! x.f = v, x an object in a slot -/
def fldR (i : Nat) (tab : Nat → Option Nat) (ρ : Ly.Env) (d : D) : Option Ly.Env := match ρ[i]? with
  | some (.ow (.obj k xs)) => (tab k).bind fun j => if j ≤ xs.length && decide (xs.length < 900) then some (ρ.set i (.ow (.obj k (if j < xs.length then xs.set j d else xs ++ [d])))) else none
  | _ => none
def fldS (i : Nat) (tab : Nat → Option Nat) (f : Sem R) : SemS := fun ρ => bndS (frzS f ρ) fun d ρ1 => (fldR i tab ρ1 d).map fun ρ2 => (.nx, ρ2)
theorem putF_set {g : Str} {y : V} : ∀ {fs : List (Str × V)} {j : Nat}, (fs.map (·.1))[j]? = some g → (∀ i, i < j → (fs.map (·.1))[i]? ≠ some g) → (putF g y fs).map (·.1) = fs.map (·.1) ∧ (putF g y fs).map (·.2) = (fs.map (·.2)).set j y
  | [], j, h, _ => by simp at h
  | (k, x) :: r, 0, h, _ => by
    simp at h; subst h
    unfold putF
    rw [if_pos rfl]
    exact ⟨rfl, rfl⟩
  | (k, x) :: r, j + 1, h, n => by
    have n0 : k ≠ g := fun z => n 0 (by omega) (by simp [z])
    obtain ⟨h1, h2⟩ := putF_set (fs := r) (j := j) (y := y) (by simpa using h) (fun i hi => by simpa using n (i + 1) (by omega))
    unfold putF
    rw [if_neg n0]
    exact ⟨by simp [h1], by simp [h2]⟩
theorem putF_new {g : Str} {y : V} : ∀ {fs : List (Str × V)}, (∀ i, i < fs.length → (fs.map (·.1))[i]? ≠ some g) → (putF g y fs).map (·.1) = fs.map (·.1) ++ [g] ∧ (putF g y fs).map (·.2) = fs.map (·.2) ++ [y]
  | [], _ => ⟨rfl, rfl⟩
  | (k, x) :: r, n => by
    have n0 : k ≠ g := fun z => n 0 (by simp) (by simp [z])
    obtain ⟨h1, h2⟩ := putF_new (fs := r) (y := y) (fun i hi => by simpa using n (i + 1) (by simpa using hi))
    unfold putF
    rw [if_neg n0]
    exact ⟨by simp [h1], by simp [h2]⟩
theorem ds_fld {g x : Str} {p1 p2 pos : Pos} {tab : Nat → Option Nat} (hA : AttrOk c X g tab) (k : Okc c X) (hN : X.N[i]? = some x) (hv : Vis X.env.scope x) (he : PE X e (tE c W f)) (hs : swapsWith e (some (.Attribute (.Name x p1) g p2)) pos.line X.env = pure false := by rfl)
    (hd : (x == ("__debug__" : Str)) = false := by decide +kernel) (hcd : (x == ("__classdict__" : Str)) = false := by decide +kernel) : PS X (.Assign [.Attribute (.Name x p1) g p2] e pos) (tS c W io (fldS i tab f)) := by
  refine ps_of (ps_fld (pe_var (i := i) hN hv hd hcd) (fd_of he) hs) ?_
  rintro En σ H ⟨ρ, o, P, hR, hP⟩
  refine stm hR Grow.refl Step.refl hP fun d ρ1 vd H1 o1 P1 R1 G1 S1 M1 hP1 => ?_
  have M1 : Rep c (hide H1 (All o1 P1)) d vd := M1
  have R3 := R1.shrink G1.sub
  have M1' : Rep c (hide H1 (All o1 P)) d vd := Rep.mono (hide_mono fun a u e n => ⟨e, fun z => n (z.elim (fun z => .inl (G1.sub a z)) .inr)⟩) _ _ M1
  cases ep : fldR i tab ρ1 d with
  | none => rw [ep] at hP1; exact hP1.elim
  | some ρ2 =>
    rw [ep] at hP1
    unfold fldR at ep
    split at ep
    · rename_i kk xs hi
      obtain ⟨a, u, z1, z2, z3, z4⟩ := R3.owned hi rfl
      cases u <;> first | exact z3.elim | skip
      rename_i C dx fs
      obtain ⟨eC, w1, w2⟩ := z3
      subst eC
      cases et : tab kk with
      | none => rw [et] at ep; cases ep
      | some j =>
        rw [et] at ep
        have ep : (if j ≤ xs.length && decide (xs.length < 900) then some (ρ1.set i (.ow (.obj kk (if j < xs.length then xs.set j d else xs ++ [d])))) else none) = some ρ2 := ep
        by_cases hz : (decide (j ≤ xs.length) && decide (xs.length < 900)) = true
        · rw [if_pos hz] at ep; cases ep
          rw [Bool.and_eq_true, decide_eq_true_eq, decide_eq_true_eq] at hz
          obtain ⟨a1, a2, a3, a4⟩ := hA.run kk j et
          have hlen : xs.length = fs.length := by have := w2.len; simpa using this
          have at_ : ∀ l, l < fs.length → (fs.map (·.1))[l]? = (c.nms kk)[l]? := fun l hl => by
            rw [w1, List.getElem?_take, if_pos (by omega)]
          have hcell : CellOf c (hide H1 (All o1 P)) (.obj kk (if j < xs.length then xs.set j d else xs ++ [d])) (.ins (c.cls kk) dx (putF g vd fs)) := by
            by_cases hj : j < xs.length
            · rw [if_pos hj]
              obtain ⟨f1, f2⟩ := putF_set (g := g) (y := vd) (fs := fs) (j := j) (by rw [at_ j (by omega)]; exact a3) (fun l hl => by rw [at_ l (by omega)]; exact a4 l hl)
              exact ⟨rfl, by rw [f1, w1, List.length_set], by rw [f2]; exact w2.set j M1'⟩
            · rw [if_neg hj]
              have ej : j = xs.length := by omega
              obtain ⟨f1, f2⟩ := putF_new (g := g) (y := vd) (fs := fs) (fun l hl => by rw [at_ l hl]; exact a4 l (by omega))
              refine ⟨rfl, ?_, by rw [f2]; exact w2.append (.cons M1' .nil)⟩
              rw [f1, w1, List.length_append]
              show _ = List.take (xs.length + 1) (c.nms kk)
              rw [List.take_succ, ← ej, a3]
              rfl
          refine ⟨_, z1, a, _, dx, fs, rfl, z2, a1, a2, by omega, ?_⟩
          obtain ⟨R4, S4⟩ := R3.write (d' := .obj kk (if j < xs.length then xs.set j d else xs ++ [d])) hi z1 z4 rfl hcell
          exact hP1 σ _ o1 R4 (S1.trans S4) Kept.refl
        · rw [if_neg hz] at ep; cases ep
    · cases ep
end
end Ly
set_option Elab.async false
set_option linter.all false
set_option maxRecDepth 100000
set_option maxHeartbeats 1000000
namespace Ly
open PySem PySem.Spec L2

/-! ### 26. methods and new objects -/
section
variable {X : Cx} {CX : CXT} {k : Nat} {fa C : Addr} {fd : FuncData} {ps : List Str} {sp : Sp} {E : L2.St → XK} {x m : Str} {p pos apos : Pos} {e ob : Expr} {es : List Expr} {ta : TE} {t : TA}
/-- o.m(e, ..), exceptions wished for at the caller's slots -/
def tMethS (C : Addr) (m : Str) (sp : Sp) (E : L2.St → XK) (ta : TE) (t : TA) : TE := fun σ H Q => ta σ H fun x H1 => ∃ a dx fs, x = .ref a ∧ H1 a = some (.ins C dx fs) ∧ fs.lookup m = none ∧ t σ H1 fun vs H2 => sp (x :: vs) H2 Q (E σ)
theorem pe_methE {pl : PySem.Sem Bool} (he : PE X ob ta) (c : Cls X.K C) (hm : Meth X.K C m fa) (F : FnOk X.prog X.w X.K X.mg X.base CX k fa fd ps sp) (hr : Room k X.A) (hb : Binds X.K fd ps []) (hx : ∀ σ, PassesAt CX X σ (E σ)) (ha : PA X (e :: es) t)
    (hst : starEach (e :: es) X.env = (false, eval e X.env) :: starEach es X.env := by rfl) (hpl : (backTo pos (starEach es X.env)).any (·.1) = false := by rfl)
    (ht : eval (.Call (.Attribute ob m apos) (e :: es) [] pos) X.env = (do
      let ov ← eval ob X.env
      standAt apos.atName
      let (f, first) ← holding [ov] (getMethod ov m pl)
      callWith pos f first (backTo pos (starEach (e :: es) X.env)) (backToKw pos (keywordEach [] X.env))) := by rfl) :
    PE X (.Call (.Attribute ob m apos) (e :: es) [] pos) (tMethS C m sp E ta t) := by
  refine ⟨fun pins s σ H Q I h => ?_⟩
  refine PySem.W.methodCall_KW (pl := pl) (thn (he.run pins s σ H _ I h) fun u s1 ⟨x, H1, I1, rx, a, dx, fs, ex, ea, l, q⟩ => ?_) ht
  subst ex
  obtain rfl : u = Value.ref a := rx
  refine getmeth_ok I1 ea c hm l ?_
  refine PySem.W.callWith_K (first := [.ref a]) (h₀ := X.base) I.ok.mod.kin hm.kp (thn (ha.run pos pins s1 σ H1 _ I1 q) fun us s2 ⟨vs, H2, I2, r, q2⟩ => ⟨I2.kIn, ?_⟩) hst hpl
  exact run_fnS (us := .ref a :: us) (vs := .ref a :: vs) F hr hb (hx σ) I2 (.cons rfl r) q2
theorem pe_methE0 {pl : PySem.Sem Bool} (he : PE X ob ta) (c : Cls X.K C) (hm : Meth X.K C m fa) (F : FnOk X.prog X.w X.K X.mg X.base CX k fa fd ps sp) (hr : Room k X.A) (hb : Binds X.K fd ps []) (hx : ∀ σ, PassesAt CX X σ (E σ))
    (ht : eval (.Call (.Attribute ob m apos) [] [] pos) X.env = (do
      let ov ← eval ob X.env
      standAt apos.atName
      let (f, first) ← holding [ov] (getMethod ov m pl)
      callWith pos f first (backTo pos (starEach [] X.env)) (backToKw pos (keywordEach [] X.env))) := by rfl) :
    PE X (.Call (.Attribute ob m apos) [] [] pos) (tMethS C m sp E ta tNil) := by
  refine ⟨fun pins s σ H Q I h => ?_⟩
  refine PySem.W.methodCall_KW (pl := pl) (thn (he.run pins s σ H _ I h) fun u s1 ⟨x, H1, I1, rx, a, dx, fs, ex, ea, l, q⟩ => ?_) ht
  subst ex
  obtain rfl : u = Value.ref a := rx
  refine getmeth_ok I1 ea c hm l ?_
  exact PySem.W.callWith_K0 (first := [.ref a]) I1.kIn hm.kp (run_fnS (us := [.ref a]) (vs := [.ref a]) F hr hb (hx σ) I1 (.cons rfl .nil) q)
/-- C(e, ..), exceptions wished for at the caller's slots -/
def tMakeS (C : Addr) (sp : Sp) (E : L2.St → XK) (t : TA) : TE := fun σ H Q => t σ H fun vs H1 => ∀ x dx, H1 x = none → H1 dx = none → dx ≠ x → sp (.ref x :: vs) (upd (upd H1 dx (.own x)) x (.ins C dx [])) (fun v H2 => v = .non ∧ Q (.ref x) H2) (E σ)
theorem run_makeE {E : XK} {pins : List (Addr × Obj)} {σ : L2.St} {H : Hp} {s : Shared} {Q : VK} {us : List Value} {vs : List V} (M : Mk X.K C fa) (F : FnOk X.prog X.w X.K X.mg X.base CX k fa fd ps sp) (hr : Room (k + 1) X.A) (hb : Binds X.K fd ps []) (hx : PassesAt CX X σ E) (I : L2.Inv X pins σ H s) (r : Vals vs us)
    (h : ∀ x dx, H x = none → H dx = none → dx ≠ x → sp (.ref x :: vs) (upd (upd H dx (.own x)) x (.ins C dx [])) (fun v H2 => v = .non ∧ Q (.ref x) H2) E) : wpAny (model X.prog X.w) X.A (call (.ref C) us) (EP X pins σ Q) X.xe s := by
  have hq := h (s.heap.objs.size + 1) s.heap.objs.size (I.hok.fresh (Nat.le_succ _)) (I.hok.fresh (Nat.le_refl _)) (Nat.ne_of_lt (Nat.lt_succ_self _))
  have I2 := L2.Inv.made (C := C) I
  have r2 : Vals (V.ref (s.heap.objs.size + 1) :: vs) (Value.ref (s.heap.objs.size + 1) :: us) := .cons rfl r
  have hl : ((Value.ref (s.heap.objs.size + 1) :: us) ++ []).length = ps.length := by
    have e := r2.length
    rw [F.len _ _ _ _ hq] at e
    rw [List.append_nil]
    exact e.symm
  have b := hb _ (Value.ref (s.heap.objs.size + 1) :: us) I2.kIn hl
  rw [List.append_nil] at b
  refine wpAny_call (make_map (f := fa) I.kIn M.makes M.init (beq_iff_eq.mp M.fn) (codeAny_mono (F.run _ X.stack _ _ ⟨Value.ref (s.heap.objs.size + 1) :: us, []⟩ (Value.ref (s.heap.objs.size + 1) :: us) _ _ E (hr.make C us []) (I2.env0.make C us []) b r2 hq) fun r s' hq' => ?_))
  cases r with
  | error e => exact hx pins _ _ e s' I2 hq'
  | ok fl =>
    cases fl with
    | ret u =>
      obtain ⟨v, H', I3, rv, ev, q3⟩ := I2.after hq'
      subst ev
      exact ⟨rv, ⟨V.ref (s.heap.objs.size + 1), H', I3, rfl, q3⟩⟩
    | next => exact False.elim hq'
    | brk => exact False.elim hq'
    | cont => exact False.elim hq'
theorem pe_makeE (M : Mk X.K C fa) (F : FnOk X.prog X.w X.K X.mg X.base CX k fa fd ps sp) (hr : Room (k + 1) X.A) (hg : Gl X x) (hm : X.mg x = some (.ref C)) (hb : Binds X.K fd ps []) (hx : ∀ σ, PassesAt CX X σ (E σ))
    (ha : PA X (e :: es) t) (hdb : (x == ("__debug__" : Str)) = false := by decide +kernel) (he : starEach (e :: es) X.env = (false, eval e X.env) :: starEach es X.env := by rfl) (hpl : (backTo pos (starEach es X.env)).any (·.1) = false := by rfl) :
    PE X (.Call (.Name x p) (e :: es) [] pos) (tMakeS C sp E t) := by
  refine ⟨fun pins s σ H Q I h => ?_⟩
  refine wpAny_Call_Name_kw (ld_glob I hg hm ?_ hdb)
  refine PySem.W.callWith_K (h₀ := X.base) I.ok.mod.kin M.kp (thn (ha.run pos pins s σ H _ I h) fun us s1 ⟨vs, H1, I1, r, q⟩ => ⟨I1.kIn, ?_⟩) he hpl
  exact run_makeE M F hr hb (hx σ) I1 r q
end
end Ly
namespace Ly
open PySem L2
/-- what a method is called on -/
def RepO1 (k : Nat) : RR Ar V := fun c σ H o P P' x v => RepX1 c σ (hide H (All o P')) x v ∧ ∃ a dx fs, v = .ref a ∧ H a = some (.ins (c.cls k) dx fs) ∧ ∀ m, (∀ i : Nat, (c.nms k)[i]? ≠ some m) → fs.lookup m = none
theorem base_O1 {k : Nat} : Base (RepO1 k) := fun c σ H o P P1 P' a b hp h => h
def isObj (k : Nat) : D → Bool
  | .obj j _ => j == k
  | _ => false
def selfV (k : Nat) (f : Sem R) : Sem Ar := fun ρ => bnd (frzS f ρ) fun d ρ1 => if isObj k d then some (.val (.val d), ρ1) else none
def selfO (k i : Nat) : Sem Ar := fun ρ => match ρ[i]? with
  | some (.ow d) => if isObj k d then some (.val (.slot i), ρ) else none
  | _ => none
def methS (io : Nat → Bool) (n : Nat) (F : FS) (s : Sem Ar) (g : Sem (List Ar)) : Sem R := fun ρ => bnd (s ρ) fun a ρ1 => bnd (g ρ1) fun xs ρ2 => calR2 io n F ρ2 (a :: xs)
/-- a new object of the class k -/
def popR (x : Option (Out R × Env)) : Option (Out R × Env) := match x with
  | some (.val (.fz .non), ρ) => (match ρ.getLast? with
    | some (.ow (.obj k fs)) => some (.val (.fr (.obj k fs)), ρ.dropLast)
    | _ => none)
  | some (.exc x, ρ) => (match ρ.getLast? with
    | some (.ow (.obj _ _)) => some (.exc x, ρ.dropLast)
    | _ => none)
  | _ => none
def makeS (k : Nat) (io : Nat → Bool) (n : Nat) (F : FS) (g : Sem (List Ar)) : Sem R := fun ρ => bnd (g ρ) fun xs ρ1 => popR (calR2 io n F (ρ1 ++ [.ow (.obj k [])]) (.slot ρ1.length :: xs))
section
variable {c : Cc} {W : WXX} {io : Nat → Bool} {X : Cx} {σ σ1 σ2 : St} {H H0 H1 H' G G' : Hp} {ρ ρ0 ρ1 ρ2 ρ' : Env} {o o0 o1 o2 o' : Ownr} {P P1 P2 P' : Prot} {d d1 d2 d' : D} {v v1 v2 : V} {r : R} {a b p : Addr} {u w u' : HO} {e ob : Expr} {es : List Expr} {f : Sem R} {t : Sem Bool} {g : Sem (List Ar)} {En : Ends} {ds outs : List D} {vs : List V} {n m i : Nat} {xs : List Ar}
theorem All2.imp {α β : Type} {r r' : α → β → Prop} (k : ∀ a b, r a b → r' a b) : ∀ {as : List α} {bs : List β}, All2 r as bs → All2 r' as bs
  | _, _, .nil => .nil
  | _, _, .cons h t => .cons (k _ _ h) (All2.imp k t)
theorem isObj_some {k : Nat} (h : isObj k d = true) : ∃ fs, d = .obj k fs := by
  cases d <;> first | (cases h; done) | skip
  rename_i j fs
  have : j = k := by simpa [isObj] using h
  subst this
  exact ⟨fs, rfl⟩
theorem lookup_none {fs : List (Str × V)} {m : Str} (h : ∀ i : Nat, (fs.map (·.1))[i]? ≠ some m) : fs.lookup m = none := by
  induction fs with
  | nil => rfl
  | cons q r ih =>
    obtain ⟨k, x⟩ := q
    rw [List.lookup_cons]
    have : (m == k) = false := by
      rw [beq_eq_false_iff_ne]
      intro e
      exact h 0 (by simp [e])
    rw [this]
    exact ih fun i => by simpa using h (i + 1)
theorem obj_look {k : Nat} {fs : List (Str × V)} (h : fs.map (·.1) = (c.nms k).take n) : ∀ m, (∀ i : Nat, (c.nms k)[i]? ≠ some m) → fs.lookup m = none := fun m hm => lookup_none fun i e => by
  rw [h, List.getElem?_take] at e
  split at e
  · exact hm i e
  · cases e
theorem self_val {k : Nat} (he : PE X ob (tE c W f)) : PE X ob (tG c W (RepO1 k) (selfV k f)) := by
  refine pe_of (fd_of he) ?_
  rintro σ H Q ⟨ρ, o, P, hR, hP⟩
  refine seq2 hR Grow.refl Step.refl hP fun d ρ1 v H1 o1 P1 R1 G1 S1 M1 hP1 => ?_
  have M1 : Rep c (hide H1 (All o1 P1)) d v := M1
  by_cases ho : isObj k d = true
  · simp only [ho, if_true] at hP1
    obtain ⟨fs, rfl⟩ := isObj_some ho
    refine hP1 v H1 o1 P1 R1 G1 S1 ⟨M1, ?_⟩
    unfold Rep at M1
    obtain ⟨a, dx, gs, rfl, h1, h2, _⟩ := M1
    exact ⟨a, dx, gs, rfl, (hide_some.mp h1).1, obj_look h2⟩
  · simp only [ho] at hP1; exact hP1.elim
theorem self_slot {k : Nat} {x : Str} {pos : Pos} (hN : X.N[i]? = some x) (hv : Vis X.env.scope x) (hd : (x == ("__debug__" : Str)) = false := by decide +kernel) (hcd : (x == ("__classdict__" : Str)) = false := by decide +kernel) : PE X (.Name x pos) (tG c W (RepO1 k) (selfO k i)) := by
  refine pe_of (pe_var (i := i) hN hv hd hcd) ?_
  rintro σ H Q ⟨ρ, o, P, hR, hP⟩
  unfold selfO at hP
  split at hP
  · rename_i d hi
    by_cases ho : isObj k d = true
    · simp only [ho, if_true] at hP
      obtain ⟨fs, rfl⟩ := isObj_some ho
      obtain ⟨a, u, q1, q2, q3, q4⟩ := hR.owned hi rfl
      cases u <;> first | exact q3.elim | skip
      obtain ⟨e1, e2, _⟩ := q3
      subst e1
      exact ⟨_, q1, hP _ H o P hR Grow.refl Step.refl ⟨q1, a, _, _, rfl, q2, obj_look e2⟩⟩
    · simp only [ho] at hP; exact hP.elim
  · exact hP.elim
theorem meth_core {k : Nat} {m : Str} {F : FS} {S : Sem Ar} {E : St → XK} {Q : VK} (hm : ∀ i : Nat, (c.nms k)[i]? ≠ some m) (hw : ∀ σ cl dd H', W cl dd σ H' → E σ cl dd H') (h : tE c W (methS io n F S g) σ H Q) : tMethS (c.cls k) m (spD c io n F) E (tG c W (RepO1 k) S) (tX c W g) σ H Q := by
  obtain ⟨ρ, o, P, hR, hP⟩ := h
  refine seq1 base_R hR hP fun a ρ1 v H1 o1 P1 R1 G1 S1 M1 hP1 => ?_
  obtain ⟨M1, b, dx, fs, rfl, h1, h2⟩ := M1
  refine ⟨b, dx, fs, rfl, h1, h2 m hm, ?_⟩
  refine seq1 base_R R1 hP1 fun xs ρ2 vs H2 o2 P2 R2 G2 S2 M2 hP2 => ?_
  have M1' : RepX1 c σ (hide H2 (All o2 P2)) a (.ref b) := by
    cases a with
    | val d => exact Rep.mono (S2.hide G2.new) _ _ M1
    | slot i => exact M1
  exact call_fin R2 (.cons M1' M2) (fun cl dd H' => hw σ cl dd H') hP2
theorem pd_meth {k kk : Nat} {fa : Addr} {fd : FuncData} {ps : List Str} {F : FS} {S : Sem Ar} {m : Str} {apos pos : Pos} {pl : PySem.Sem Bool} (hs : PE X ob (tG c W (RepO1 k) S)) (hC : Cls X.K (c.cls k)) (hm : Meth X.K (c.cls k) m fa) (hmn : ∀ i : Nat, (c.nms k)[i]? ≠ some m) (Fn : FnOk X.prog X.w X.K X.mg X.base (L2.CX X.prog X.w) kk fa fd ps (spD c io n F)) (hr : Room kk X.A) (hb : Binds X.K fd ps []) (tk : Takes X W)
    (ha : PA X (e :: es) (tX c W g)) (hst : starEach (e :: es) X.env = (false, eval e X.env) :: starEach es X.env := by rfl) (hpl : (backTo pos (starEach es X.env)).any (·.1) = false := by rfl)
    (ht : eval (.Call (.Attribute ob m apos) (e :: es) [] pos) X.env = (do
      let ov ← eval ob X.env
      standAt apos.atName
      let (f, first) ← holding [ov] (getMethod ov m pl)
      callWith pos f first (backTo pos (starEach (e :: es) X.env)) (backToKw pos (keywordEach [] X.env))) := by rfl) :
    PE X (.Call (.Attribute ob m apos) (e :: es) [] pos) (tE c W (methS io n F S g)) :=
  pe_of (pe_methE (E := WE W) hs hC hm Fn hr hb (fun σ => passAt tk σ) ha hst hpl ht) fun σ H Q h => meth_core (E := WE W) hmn (fun σ cl dd H' q => q) h
theorem pd_meth0 {k kk : Nat} {fa : Addr} {fd : FuncData} {ps : List Str} {F : FS} {S : Sem Ar} {m : Str} {apos pos : Pos} {pl : PySem.Sem Bool} (hs : PE X ob (tG c W (RepO1 k) S)) (hC : Cls X.K (c.cls k)) (hm : Meth X.K (c.cls k) m fa) (hmn : ∀ i : Nat, (c.nms k)[i]? ≠ some m) (Fn : FnOk X.prog X.w X.K X.mg X.base (L2.CX X.prog X.w) kk fa fd ps (spD c io n F)) (hr : Room kk X.A) (hb : Binds X.K fd ps []) (tk : Takes X W)
    (ht : eval (.Call (.Attribute ob m apos) [] [] pos) X.env = (do
      let ov ← eval ob X.env
      standAt apos.atName
      let (f, first) ← holding [ov] (getMethod ov m pl)
      callWith pos f first (backTo pos (starEach [] X.env)) (backToKw pos (keywordEach [] X.env))) := by rfl) :
    PE X (.Call (.Attribute ob m apos) [] [] pos) (tE c W (methS io n F S nilX)) := by
  refine pe_of (pe_methE0 (E := WE W) hs hC hm Fn hr hb (fun σ => passAt tk σ) ht) fun σ H Q h => ?_
  obtain ⟨ρ, o, P, hR, hP⟩ := h
  refine seq1 base_R hR hP fun a ρ1 v H1 o1 P1 R1 G1 S1 M1 hP1 => ?_
  obtain ⟨M1, b, dx, fs, rfl, h1, h2⟩ := M1
  exact ⟨b, dx, fs, rfl, h1, h2 m hmn, call_fin R1 (.cons M1 .nil) (fun cl dd H' q => q) hP1⟩

/-! new objects -/
theorem Rel.push (hR : Rel c σ H ρ o P) (e : H a = none) (h1 : oneCell d = true) (hc : CellOf c (hide H (All o P)) d u) : Rel c (σ ++ [some (.ref a)]) (upd H a u) (ρ ++ [.ow d]) (fun i => if i = ρ.length then fun x => x = a else o i) P ∧ Step H o (upd H a u) o ∧ Le (hide H (All o P)) (hide (upd H a u) (All (fun i => if i = ρ.length then fun x => x = a else o i) P)) := by
  have le : Le (hide H (All o P)) (hide (upd H a u) (All (fun i => if i = ρ.length then fun x => x = a else o i) P)) := hide_mono fun b w q n => by
    have hb : b ≠ a := ne_of_none q e
    refine ⟨by rw [upd_ne hb]; exact q, fun z => ?_⟩
    rcases z with z | ⟨j, z⟩
    · exact n (.inl z)
    · by_cases hj : j = ρ.length
      · rw [if_pos hj] at z; exact hb z
      · rw [if_neg hj] at z; exact n (.inr ⟨j, z⟩)
  have ke : ∀ x w, H x = some w → upd H a u x = some w := fun x w => le_new e x w
  have noA : ∀ j, ¬ o j a := fun j z => by
    obtain ⟨w, q, _⟩ := hR.own_prot z
    rw [e] at q; cases q
  refine ⟨⟨by simp [hR.len], fun j => ?_, fun j k x y z => ?_, fun j x y z => ?_, fun x y => ?_⟩, Step.le (fun x w => ke x w), le⟩
  · by_cases hj : j = ρ.length
    · subst hj
      rw [List.getElem?_append_right (by rw [hR.len]; exact Nat.le_refl _), List.getElem?_append_right (Nat.le_refl _), hR.len, Nat.sub_self, if_pos rfl]
      exact ⟨a, rfl, one_own h1 upd_same (hc.mono le) fun x => Iff.rfl⟩
    · rw [if_neg hj]
      by_cases hl : j < ρ.length
      · rw [List.getElem?_append_left (by rw [hR.len]; exact hl), List.getElem?_append_left hl]
        have q := hR.slot j
        unfold SlotOk at q ⊢
        split
        · rename_i es
          rw [es] at q
          obtain ⟨q1, v, q2, q3⟩ := q
          exact ⟨q1, v, q2, Rep.mono le _ _ q3⟩
        · rename_i es
          rw [es] at q
          obtain ⟨b, q1, q2⟩ := q
          exact ⟨b, q1, q2.keep (fun x w _ => ke x w) le⟩
        · rename_i n1 n2
          split at q
          · rename_i es; exact (n1 _ es).elim
          · rename_i es; exact (n2 _ es).elim
          · exact q
      · have q := hR.slot j
        rw [show ρ[j]? = none from List.getElem?_eq_none (by omega)] at q
        rw [show (ρ ++ [Slot.ow d])[j]? = none from List.getElem?_eq_none (by simp; omega)]
        exact q
  · by_cases hj : j = ρ.length <;> by_cases hk : k = ρ.length
    · rw [hj, hk]
    · rw [if_pos hj] at y; rw [if_neg hk] at z; exact (noA k ((show x = a from y) ▸ z)).elim
    · rw [if_neg hj] at y; rw [if_pos hk] at z; exact (noA j ((show x = a from z) ▸ y)).elim
    · rw [if_neg hj] at y; rw [if_neg hk] at z; exact hR.disj j k x y z
  · by_cases hj : j = ρ.length
    · rw [if_pos hj] at y
      obtain ⟨w, q, _⟩ := hR.prot x z
      rw [show x = a from y, e] at q; cases q
    · rw [if_neg hj] at y; exact hR.dP j x y z
  · obtain ⟨w, q, n⟩ := hR.prot x y
    exact ⟨w, ke x w q, n⟩
theorem Rel.pop (hR : Rel c (σ ++ [some (.ref a)]) H (ρ ++ [.ow d]) o P) : Rel c σ H ρ (fun i x => i ≠ ρ.length ∧ o i x) (fun x => P x ∨ o ρ.length x) ∧ Own c H (hide H (All (fun i x => i ≠ ρ.length ∧ o i x) fun x => P x ∨ o ρ.length x)) d a (o ρ.length) := by
  have hl : σ.length = ρ.length := by
    have := hR.len
    simpa using this
  have hall : hide H (All (fun i x => i ≠ ρ.length ∧ o i x) fun x => P x ∨ o ρ.length x) = hide H (All o P) := by
    congr 1
    funext x
    refine propext ⟨fun h => ?_, fun h => ?_⟩
    · rcases h with (h | h) | ⟨i, h⟩
      · exact .inl h
      · exact .inr ⟨_, h⟩
      · exact .inr ⟨i, h.2⟩
    · rcases h with h | ⟨i, h⟩
      · exact .inl (.inl h)
      · by_cases hi : i = ρ.length
        · subst hi; exact .inl (.inr h)
        · exact .inr ⟨i, hi, h⟩
  rw [hall]
  refine ⟨⟨hl, fun j => ?_, fun j k x y z => hR.disj j k x y.2 z.2, fun j x y z => ?_, fun x y => y.elim (hR.prot x) hR.own_prot⟩, ?_⟩
  · rw [hall]
    by_cases hj : j < ρ.length
    · have q := hR.slot j
      rw [List.getElem?_append_left (by omega), List.getElem?_append_left hj] at q
      have eo : (fun x => j ≠ ρ.length ∧ o j x) = o j := by
        funext x
        simp [Nat.ne_of_lt hj]
      rw [eo]
      exact q
    · rw [show ρ[j]? = none from List.getElem?_eq_none (by omega)]
      intro x y
      have q := hR.slot j
      by_cases hj2 : j = ρ.length
      · exact y.1 hj2
      · rw [show (ρ ++ [Slot.ow d])[j]? = none from List.getElem?_eq_none (by simp; omega)] at q
        exact q x y.2
  · rcases z with z | z
    · exact hR.dP j x y.2 z
    · exact y.1 (hR.disj j _ x y.2 z)
  · have q := hR.slot ρ.length
    rw [List.getElem?_append_right (by omega), List.getElem?_append_right (Nat.le_refl _), hl, Nat.sub_self] at q
    obtain ⟨b, q1, q2⟩ := q
    cases q1
    exact q2
theorem last_some {ρ : Env} {s : Slot} (h : ρ.getLast? = some s) : ρ = ρ.dropLast ++ [s] := by
  obtain ⟨l, e⟩ := List.getLast?_eq_some_iff.mp h
  rw [e, List.dropLast_concat]
theorem make_core {k : Nat} {F : FS} {E : St → XK} {Q : VK} (hw : ∀ σ cl dd H', W cl dd σ H' → E σ cl dd H') (h : tE c W (makeS k io n F g) σ H Q) : tMakeS (c.cls k) (spD c io n F) E (tX c W g) σ H Q := by
  obtain ⟨ρ, o, P, hR, hP⟩ := h
  refine seq1 base_R hR hP fun xs ρ1 vs H1 o1 P1 R1 G1 S1 M1 hP1 => ?_
  intro x dx hx hdx hne
  have R2 := R1.grow (le_new (u := .own x) hdx)
  have S2 : Step H1 o1 (upd H1 dx (.own x)) o1 := Step.le (le_new hdx)
  have hx2 : upd H1 dx (.own x) x = none := by rw [upd_ne (fun e => hne e.symm)]; exact hx
  have hc : CellOf c (hide (upd H1 dx (.own x)) (All o1 P1)) (.obj k []) (.ins (c.cls k) dx []) := ⟨rfl, rfl, Reps.nil⟩
  obtain ⟨R3, S3, le3⟩ := R2.push (d := .obj k []) hx2 rfl hc
  have le2 : Le (hide H1 (All o1 P1)) (hide (upd H1 dx (.own x)) (All o1 P1)) := S2.hide fun a z => .inl z
  have M3 : All2 (RepX1 c (σ ++ [some (.ref x)]) (hide (upd (upd H1 dx (.own x)) x (.ins (c.cls k) dx [])) (All (fun i => if i = ρ1.length then fun y => y = x else o1 i) P1))) xs vs := by
    refine All2.imp (r := RepX1 c σ (hide H1 (All o1 P1))) (fun y w h => ?_) M1
    cases y with
    | val d => exact Rep.mono le3 _ _ (Rep.mono le2 _ _ h)
    | slot i =>
      have h : σ[i]? = some (some w) := h
      show (σ ++ [some (.ref x)])[i]? = some (some w)
      rw [List.getElem?_append_left (List.getElem?_eq_some_iff.mp h).1]
      exact h
  have hself : RepX1 c (σ ++ [some (.ref x)]) (hide (upd (upd H1 dx (.own x)) x (.ins (c.cls k) dx [])) (All (fun i => if i = ρ1.length then fun y => y = x else o1 i) P1)) (.slot ρ1.length) (.ref x) := by
    show (σ ++ [some (.ref x)])[ρ1.length]? = some (some (.ref x))
    rw [← R1.len, List.getElem?_append_right (Nat.le_refl _), Nat.sub_self]
    rfl
  -- the steps, from ahead of the object
  have st : ∀ {H' o'}, Step (upd (upd H1 dx (.own x)) x (.ins (c.cls k) dx [])) (fun i => if i = ρ1.length then fun y => y = x else o1 i) H' o' → Step H1 o1 H' (fun i y => i ≠ ρ1.length ∧ o' i y) := fun {H' o'} s => by
    refine ⟨fun b w hb hn => ?_, fun i b hb => ?_, fun b w hb => ?_⟩
    · have hbx : b ≠ x := ne_of_none hb hx
      have hbd : b ≠ dx := ne_of_none hb hdx
      refine s.keep b w (by rw [upd_ne hbx, upd_ne hbd]; exact hb) fun i z => ?_
      by_cases hi : i = ρ1.length
      · rw [if_pos hi] at z; exact hbx (show b = x from z)
      · rw [if_neg hi] at z; exact hn i z
    · rcases s.news i b hb.2 with z | z
      · rw [if_neg hb.1] at z; exact .inl z
      · refine .inr ?_
        by_cases e1 : b = x
        · rw [e1]; exact hx
        · rw [upd_ne e1] at z
          by_cases e2 : b = dx
          · rw [e2]; exact hdx
          · rw [upd_ne e2] at z; exact z
    · have hbx : b ≠ x := ne_of_none hb hx
      have hbd : b ≠ dx := ne_of_none hb hdx
      exact s.there b w (by rw [upd_ne hbx, upd_ne hbd]; exact hb)
  have nn : ∀ {b : Addr}, (upd (upd H1 dx (.own x)) x (.ins (c.cls k) dx [])) b = none → H1 b = none := fun {b} z => by
    by_cases e1 : b = x
    · rw [e1]; exact hx
    · rw [upd_ne e1] at z
      by_cases e2 : b = dx
      · rw [e2]; exact hdx
      · rw [upd_ne e2] at z; exact z
  refine call_fin (W := fun cl dd _ H' => E σ cl dd H') R3 (.cons hself M3) (fun cl dd H' q => q) ?_
  cases ec : calR2 io n F (ρ1 ++ [.ow (.obj k [])]) (.slot ρ1.length :: xs) with
  | none => rw [ec] at hP1; exact hP1.elim
  | some q =>
    obtain ⟨q, ρe⟩ := q
    rw [ec] at hP1
    have hlen : ∀ {ρ2 : Env} {s : Slot}, ρe = ρ2 ++ [s] → ∀ {H' o' P'}, Rel c (σ ++ [some (.ref x)]) H' ρe o' P' → ρ2.length = ρ1.length := fun {ρ2 s} e {H' o' P'} R' => by
      have := R'.len
      rw [e] at this
      have h2 := R1.len
      simp at this
      omega
    have gr : ∀ {H' o' P'}, Rel c (σ ++ [some (.ref x)]) H' ρe o' P' → Grow (upd (upd H1 dx (.own x)) x (.ins (c.cls k) dx [])) P1 P' → Step (upd (upd H1 dx (.own x)) x (.ins (c.cls k) dx [])) (fun i => if i = ρ1.length then fun y => y = x else o1 i) H' o' → Grow H1 P1 (fun y => P' y ∨ o' ρ1.length y) := fun {H' o' P'} R' g s =>
      ⟨fun y z => .inl (g.sub y z), fun y z => by
        rcases z with z | z
        · rcases g.new y z with z | z
          · exact .inl z
          · exact .inr (nn z)
        · rcases s.news _ y z with z | z
          · rw [if_pos rfl] at z; exact .inr ((show y = x from z) ▸ hx)
          · exact .inr (nn z)⟩
    cases q with
    | exc z =>
      intro cl dd H' o' R' s' hxr
      simp only [popR] at hP1
      split at hP1
      · rename_i k' fs hl
        have el := last_some hl
        have l2 := hlen el R'
        rw [el] at R'
        obtain ⟨R4, _⟩ := R'.pop
        rw [l2] at R4
        have R5 : Rel c σ H' ρe.dropLast (fun i y => i ≠ ρ1.length ∧ o' i y) P1 := R4.shrink fun y z => .inl z
        refine hw σ _ _ _ (hP1 cl dd H' _ R5 (st s') (hxr.mono (hide_mono fun b w e n => ⟨e, fun q => n ?_⟩)))
        rcases q with q | ⟨i, q⟩
        · exact .inl q
        · exact .inr ⟨i, q.2⟩
      · exact hP1.elim
    | val r =>
      cases r with
      | fr d => exact hP1.elim
      | sl i => exact hP1.elim
      | fz d =>
        cases d <;> first | exact hP1.elim | skip
        intro v H' o' P' R' g' s' hv
        have hv : Rep c (hide H' (All o' P')) .non v := hv
        unfold Rep at hv
        refine ⟨hv, ?_⟩
        simp only [popR] at hP1
        split at hP1
        · rename_i k' fs hl
          have el := last_some hl
          have l2 := hlen el R'
          have g2 := gr R' g' s'
          rw [el] at R'
          obtain ⟨R4, ow⟩ := R'.pop
          rw [l2] at R4 ow
          refine hP1 (.ref x) H' _ _ R4 g2 (st s') ⟨x, _, rfl, ow, fun y z => ⟨.inr z, fun q => ?_⟩⟩
          have := R'.dP ρ1.length y z (g'.sub y q)
          exact this
        · exact hP1.elim
theorem pd_make {k kk : Nat} {fa : Addr} {fd : FuncData} {ps : List Str} {F : FS} {x : Str} {p pos : Pos} (M : Mk X.K (c.cls k) fa) (Fn : FnOk X.prog X.w X.K X.mg X.base (L2.CX X.prog X.w) kk fa fd ps (spD c io n F)) (hr : Room (kk + 1) X.A) (hg : Gl X x) (hm : X.mg x = some (.ref (c.cls k))) (hb : Binds X.K fd ps []) (tk : Takes X W)
    (ha : PA X (e :: es) (tX c W g)) (hdb : (x == ("__debug__" : Str)) = false := by decide +kernel) (he : starEach (e :: es) X.env = (false, eval e X.env) :: starEach es X.env := by rfl) (hpl : (backTo pos (starEach es X.env)).any (·.1) = false := by rfl) :
    PE X (.Call (.Name x p) (e :: es) [] pos) (tE c W (makeS k io n F g)) :=
  pe_of (pe_makeE (E := WE W) M Fn hr hg hm hb (fun σ => passAt tk σ) ha hdb he hpl) fun σ H Q h => make_core (E := WE W) (fun σ cl dd H' q => q) h
end
end Ly
set_option Elab.async false
set_option linter.all false
set_option maxRecDepth 100000
set_option maxHeartbeats 1000000
/-! ### 27. setdefault, keys of both kinds -/
namespace Ly
open PySem PySem.Spec PyProof.Rows L2
section
variable {X : Cx} {pins : List (Addr × Obj)} {σ : L2.St} {H : Hp} {s : Shared} {a b : Addr} {r : Value} {d : V} {k : List Key} {A : Around} {E : Value → Shared → Prop}
theorem d_setdT {kvs : List (List Key × V)} {Q : Value → Shared → Prop} (hu : A.units + 1 < cLine) (I : L2.Inv X pins σ H s) (e : H a = some (.dT kvs)) (eb : H b = some (.tup (k.map kV))) (rd : RelV d r) (hl : kvs.length < sizeLine)
    (h1 : ∀ v, valV kvs k = some v → ∀ (w' : Value) (s' : Shared), L2.Inv X pins σ H s' → RelV v w' → Q w' s') (h2 : valV kvs k = none → ∀ (w' : Value) (s' : Shared), L2.Inv X pins σ (upd H a (.dT (putK kvs k d))) s' → RelV d w' → Q w' s') :
    wpAny (model X.prog X.w) A (call (.builtin "dict.setdefault") [.ref a, .ref b, r]) Q E s := by
  obtain ⟨z, hd, xs, rel, dd⟩ := dt_of I.hok e
  have hz : xs.length ≤ sizeLine := by
    rw [← Paired.length rel]
    exact z
  refine call_meetsIn PySem.F.slot_dict_setdefault dd.typeIs PySem.F.entry_dict_setdefault (PySem.F.args_dict_setdefault_3 _ _ _) (meetsH_dict_setdefault (tupleKind (mixKind X.prog X.w)) a b hd r) ⟨tupleKind_room_in1 hu, k, xs, key_of I.hok eb, dd, hz, fun p hp => ?_, fun hn h' dd' hs => ?_⟩
  · have q := rel.val k
    rw [hp] at q
    cases q0 : valV kvs k with
    | none =>
      rw [q0] at q
      exact (show False from q).elim
    | some v0 =>
      rw [q0] at q
      exact h1 v0 q0 _ _ (I.tok _) q
  · have q := rel.val k
    rw [hn] at q
    cases q0 : valV kvs k with
    | some v0 =>
      rw [q0] at q
      exact (show False from q).elim
    | none =>
      have hl2 : (putK kvs k d).length ≤ sizeLine := by
        have := length_putK kvs k d
        omega
      obtain ⟨q, es, ep, hq, g2, g3, g4, _, g5⟩ := dd'
      refine h2 q0 _ _ (d_write I (by rw [e]; exact True.intro) hs ⟨q, hq⟩ ⟨hl2, hd, _, (rel.put k eb rd).keeps fun c ys ec => ?_, q, es, ep, hq, g2, g3, g4, g5⟩) rd
      rw [upd_ne (ne_of ec e (fun z => nomatch z))]
      exact ec
/-- what setdefault does -/
def rSd (a : Addr) (y z : V) (H : Hp) (Q : VK) : Prop :=
  (∃ (kvs : List (Key × V)) (k : Key), H a = some (.dK kvs) ∧ y = kV k ∧ kvs.length < sizeLine ∧ (∀ v, valV kvs k = some v → Q v H) ∧ (valV kvs k = none → Q z (upd H a (.dK (putK kvs k z))))) ∨
  ∃ (kvs : List (List Key × V)) (k : List Key) (b : Addr), H a = some (.dT kvs) ∧ y = .ref b ∧ H b = some (.tup (k.map kV)) ∧ kvs.length < sizeLine ∧ (∀ v, valV kvs k = some v → Q v H) ∧ (valV kvs k = none → Q z (upd H a (.dT (putK kvs k z))))
def tSd (td ty tx : TE) : TE := fun σ H Q => td σ H fun x H1 => ∃ a, x = .ref a ∧ IsD H1 a ∧ ty σ H1 fun y H2 => tx σ H2 fun z H3 => rSd a y z H3 Q
theorem pe_sd {o e f : Expr} {td ty tx : TE} {apos cpos : Pos} (hu : X.A.units + 1 < cLine) (ho : PE X o td) (he : PE X e ty) (hf : PE X f tx) (m : M2 X o "setdefault" apos e f cpos) : PE X (.Call (.Attribute o "setdefault" apos) [e, f] [] cpos) (tSd td ty tx) := by
  refine ⟨fun pins s σ H Q I h => ?_⟩
  refine wpAny_Call_method m.base m.few m.line PySem.F.plainAttrs_dict PySem.F.slot_dict_setdefault PySem.F.type_dict_setdefault (thn (ho.run pins s σ H _ I h) fun u s1 ⟨x, H1, I1, rx, a, ex, d, q1⟩ => ?_)
  subst ex
  obtain rfl : u = Value.ref a := rx
  obtain ⟨t1, t2, _⟩ := isD_at I1 d
  refine ⟨t1, t2, ?_⟩
  rw [m.trees]
  refine Calls.callWith_builtin rfl (Calls.evalArgs_plain (Calls.spliced_cons (thn (he.run pins s1 σ H1 _ I1 q1) fun iv s2 ⟨y, H2, I2, ry, q2⟩ =>
    Calls.spliced_cons (thn (hf.run pins s2 σ H2 _ I2 q2) fun fv s3 ⟨z, H3, I3, rz, q⟩ => Calls.spliced_nil ?_))))
  rcases q with ⟨kvs, k, ea, ey, hl, q3, q4⟩ | ⟨kvs, k, b, ea, ey, eb, hl, q3, q4⟩
  · subst ey
    exact d_setd I3 ea ry rz hl (fun v hv w' s4 I4 rw' => ⟨v, _, I4, rw', q3 v hv⟩) fun hn w' s4 I4 rw' => ⟨z, _, I4, rw', q4 hn⟩
  · subst ey
    cases (show iv = Value.ref b from ry)
    exact d_setdT hu I3 ea eb rz hl (fun v hv w' s4 I4 rw' => ⟨v, _, I4, rw', q3 v hv⟩) fun hn w' s4 I4 rw' => ⟨z, _, I4, rw', q4 hn⟩
end
end Ly
namespace Ly
open PySem L2
/-! dicts of lists -/
def asDls : D → Option (Bool × List D × List D)
  | .dls t ks vs => some (t, ks, vs)
  | .dic t [] [] => some (t, [], [])
  | _ => none
def ixKey (t : Bool) : List D → DKey → Option Nat
  | [], _ => none
  | k :: ks, q => if dKey t k = some q then some 0 else (ixKey t ks q).map (· + 1)
/-- the key put with an empty list, where it is not; its place -/
def sdD (t : Bool) (ks vs : List D) (q : DKey) (y : D) : List D × List D × Nat := match ixKey t ks q with
  | some j => (ks, vs, j)
  | none => (ks ++ [y], vs ++ [.lst []], ks.length)
def apD (vs : List D) (j : Nat) (d : D) : Option (List D) := match vs[j]? with
  | some (.lst xs) => if xs.length < 1000000 then some (vs.set j (.lst (xs ++ [d]))) else none
  | _ => none
section
variable {c : Cc} {W : WXX} {io : Nat → Bool} {X : Cx} {σ σ1 σ2 : St} {H H0 H1 H' G G' : Hp} {ρ ρ0 ρ1 ρ2 ρ' : Env} {o o0 o1 o2 o' : Ownr} {P P1 P2 P' : Prot} {d d1 d2 d' : D} {v v1 v2 : V} {r : R} {a b p l : Addr} {u w u' : HO} {e ob : Expr} {es : List Expr} {f : Sem R} {t : Sem Bool} {En : Ends} {ds outs : List D} {vs : List V} {n m i j : Nat} {S : Addr → Prop}
theorem own_dls {t : Bool} {ks ws : List D} (ha : asDls d = some (t, ks, ws)) (h : Own c H G d a S) : ∃ u las, H a = some u ∧ DlsCell t ks las u ∧ Lsts c H G ws las ∧ las.Nodup ∧ a ∉ las ∧ ∀ x, S x ↔ (x = a ∨ x ∈ las) := by
  unfold asDls at ha
  split at ha
  · cases ha; exact h
  · cases ha
    obtain ⟨⟨u, h1, h2⟩, h3⟩ := h
    refine ⟨u, [], h1, ?_, rfl, List.nodup_nil, List.not_mem_nil, fun x => by simp [h3]⟩
    cases t with
    | false =>
      cases u <;> first | exact h2.elim | skip
      rename_i kvs
      obtain ⟨e1, e2⟩ := h2
      have : kvs = [] := by simpa using e1.symm
      subst this
      exact ⟨rfl, rfl, rfl⟩
    | true =>
      cases u <;> first | exact h2.elim | skip
      rename_i kvs
      obtain ⟨e1, e2⟩ := h2
      have : kvs = [] := by simpa using e1.symm
      subst this
      exact ⟨rfl, rfl, rfl⟩
  · cases ha
theorem Lsts.len : ∀ {ds : List D} {las : List Addr}, Lsts c H G ds las → ds.length = las.length
  | [], las, h => by rw [show las = [] from h]; rfl
  | d :: ds, las, ⟨l, r, dd, xs, e1, e2, h1, h2, h3⟩ => by rw [e1]; simp [Lsts.len h3]
theorem Lsts.at : ∀ {ds : List D} {las : List Addr} {j : Nat}, Lsts c H G ds las → j < ds.length → ∃ l dd xs, las[j]? = some l ∧ ds[j]? = some (.lst dd) ∧ H l = some (.lst xs) ∧ Reps c G dd xs
  | [], las, j, h, hj => by simp at hj
  | d :: ds, las, 0, ⟨l, r, dd, xs, e1, e2, h1, h2, h3⟩, hj => ⟨l, dd, xs, by rw [e1]; rfl, by rw [e2]; rfl, h1, h2⟩
  | d :: ds, las, j + 1, ⟨l, r, dd, xs, e1, e2, h1, h2, h3⟩, hj => by
    obtain ⟨l', dd', xs', q1, q2, q3, q4⟩ := Lsts.at (j := j) h3 (by simpa using hj)
    exact ⟨l', dd', xs', by rw [e1]; simpa using q1, by simpa using q2, q3, q4⟩
theorem Lsts.set : ∀ {ds : List D} {las : List Addr} {j : Nat} {l : Addr} {dd : List D} {xs : List V}, Lsts c H G ds las → las.Nodup → las[j]? = some l → Reps c G dd xs → Lsts c (upd H l (.lst xs)) G (ds.set j (.lst dd)) las
  | [], las, j, l, dd, xs, h, _, e, _ => by rw [show las = [] from h] at e; simp at e
  | d :: ds, las, 0, l, dd, xs, ⟨l', r, dd', xs', e1, e2, h1, h2, h3⟩, nd, e, hr => by
    rw [e1] at e nd
    simp at e
    subst e
    have hn := List.nodup_cons.mp nd
    refine ⟨l', r, dd, xs, e1, rfl, upd_same, hr, h3.keep (Le.refl _) fun x u hx hu => ?_⟩
    have hne : x ≠ l' := fun z => hn.1 (by rw [← z]; exact hx)
    rw [upd_ne hne]; exact hu
  | d :: ds, las, j + 1, l, dd, xs, ⟨l', r, dd', xs', e1, e2, h1, h2, h3⟩, nd, e, hr => by
    rw [e1] at e nd
    have hn := List.nodup_cons.mp nd
    have e : r[j]? = some l := by simpa using e
    have hlr : l ∈ r := List.mem_of_getElem? e
    refine ⟨l', r, dd', xs', e1, e2, ?_, h2, Lsts.set h3 hn.2 e hr⟩
    have hne : l' ≠ l := fun z => hn.1 (by rw [z]; exact hlr)
    rw [upd_ne hne]; exact h1
theorem Lsts.snoc : ∀ {ds : List D} {las : List Addr}, Lsts c H G ds las → H p = some (.lst []) → Lsts c H G (ds ++ [.lst []]) (las ++ [p])
  | [], las, h, hp => by
    rw [show las = [] from h]
    exact ⟨p, [], [], [], rfl, rfl, hp, Reps.nil, rfl⟩
  | d :: ds, las, ⟨l, r, dd, xs, e1, e2, h1, h2, h3⟩, hp => by
    rw [e1]
    exact ⟨l, r ++ [p], dd, xs, rfl, e2, h1, h2, Lsts.snoc h3 hp⟩
theorem ixKey_k {kvs : List (Key × V)} {k : Key} : (∀ j, ixKey false (kvs.map fun p => kD p.1) (.k k) = some j → valV kvs k = (kvs.map (·.2))[j]? ∧ j < kvs.length) ∧ (ixKey false (kvs.map fun p => kD p.1) (.k k) = none → valV kvs k = none) := by
  induction kvs with
  | nil => exact ⟨fun j h => (by cases h), fun _ => rfl⟩
  | cons p kvs ih =>
    have e0 : ixKey false ((p :: kvs).map fun p => kD p.1) (.k k) = if dKey false (kD p.1) = some (.k k) then some 0 else (ixKey false (kvs.map fun p => kD p.1) (.k k)).map (· + 1) := rfl
    rw [e0]
    by_cases h : p.1 = k
    · rw [if_pos (key_k.mpr h), valV_pos h]
      exact ⟨fun j e => by cases e; exact ⟨rfl, by simp⟩, fun e => by cases e⟩
    · rw [if_neg (fun z => h (key_k.mp z)), valV_neg h]
      refine ⟨fun j e => ?_, fun e => ih.2 (by simpa using e)⟩
      obtain ⟨j', e1, rfl⟩ := Option.map_eq_some_iff.mp e
      obtain ⟨q1, q2⟩ := ih.1 j' e1
      exact ⟨by simpa using q1, by simpa using q2⟩
theorem ixKey_t {kvs : List (List Key × V)} {k : List Key} : (∀ j, ixKey true (kvs.map fun p => .tup (p.1.map kD)) (.t k) = some j → valV kvs k = (kvs.map (·.2))[j]? ∧ j < kvs.length) ∧ (ixKey true (kvs.map fun p => .tup (p.1.map kD)) (.t k) = none → valV kvs k = none) := by
  induction kvs with
  | nil => exact ⟨fun j h => (by cases h), fun _ => rfl⟩
  | cons p kvs ih =>
    have e0 : ixKey true ((p :: kvs).map fun p => .tup (p.1.map kD)) (.t k) = if dKey true (.tup (p.1.map kD)) = some (.t k) then some 0 else (ixKey true (kvs.map fun p => .tup (p.1.map kD)) (.t k)).map (· + 1) := rfl
    rw [e0]
    by_cases h : p.1 = k
    · rw [if_pos (key_t.mpr h), valV_pos h]
      exact ⟨fun j e => by cases e; exact ⟨rfl, by simp⟩, fun e => by cases e⟩
    · rw [if_neg (fun z => h (key_t.mp z)), valV_neg h]
      refine ⟨fun j e => ?_, fun e => ih.2 (by simpa using e)⟩
      obtain ⟨j', e1, rfl⟩ := Option.map_eq_some_iff.mp e
      obtain ⟨q1, q2⟩ := ih.1 j' e1
      exact ⟨by simpa using q1, by simpa using q2⟩
/-- setdefault(y, []) of a dict of lists, the new list at p: what the wish must be good for -/
theorem sd_core {t : Bool} {ks ws : List D} {las : List Addr} {q : DKey} {y : D} {vy : V} {Q : VK} (hl : Le G H) (h1 : H a = some u) (h2 : DlsCell t ks las u) (h3 : Lsts c H G ws las) (hlen : ks.length = ws.length) (hy : Rep c G y vy) (hk : dKey t y = some q) (hz : ks.length < 1000000) (hp : H p = some (.lst [])) (ha : a ∉ las) (hpa : p ≠ a)
    (hq : (∀ j l, ixKey t ks q = some j → las[j]? = some l → Q (.ref l) H) ∧ (ixKey t ks q = none → ∀ u', DlsCell t (ks ++ [y]) (las ++ [p]) u' → Q (.ref p) (upd H a u'))) : rSd a vy (.ref p) H Q := by
  cases u <;> first | exact h2.elim | skip
  · rename_i kvs
    obtain ⟨rfl, rfl, e2⟩ := h2
    obtain ⟨k, ek, rfl⟩ := Option.map_eq_some_iff.mp (show (kOf y).map DKey.k = some q from hk)
    have ey := kD_kOf ek
    refine .inl ⟨kvs, k, h1, kOf_V hy ek, by simp at hz; exact m_lt hz, fun v hv => ?_, fun hn => ?_⟩
    · cases ei : ixKey false (kvs.map fun p => kD p.1) (.k k) with
      | none => rw [ixKey_k.2 ei] at hv; cases hv
      | some j =>
        obtain ⟨z1, z2⟩ := ixKey_k.1 j ei
        rw [hv, e2, List.getElem?_map] at z1
        cases el : las[j]? with
        | none => rw [el] at z1; cases z1
        | some l =>
          rw [el] at z1
          injection z1 with z1
          rw [z1]
          exact hq.1 j l ei el
    · have ei : ixKey false (kvs.map fun p => kD p.1) (.k k) = none := by
        cases ei : ixKey false (kvs.map fun p => kD p.1) (.k k) with
        | none => rfl
        | some j =>
          obtain ⟨z1, z2⟩ := ixKey_k.1 j ei
          rw [hn] at z1
          have := List.getElem?_eq_none_iff.mp z1.symm
          simp at this
          omega
      refine hq.2 ei _ ?_
      have ep : putK kvs k (.ref p) = kvs ++ [(k, .ref p)] := by
        unfold putK
        rw [valV_any, hn]
        rfl
      rw [ep]
      exact ⟨rfl, by rw [List.map_append, ey]; rfl, by rw [List.map_append, e2, List.map_append]; rfl⟩
  · rename_i kvs
    obtain ⟨rfl, rfl, e2⟩ := h2
    cases y <;> first | (cases hk; done) | skip
    rename_i yx
    obtain ⟨k, ek, rfl⟩ := Option.map_eq_some_iff.mp (show (kOfs yx).map DKey.t = some q from hk)
    have ey := map_kOfs ek
    subst ey
    obtain ⟨b, zs, rfl, m1, m2⟩ := rep_tup hy
    have := reps_keys m2
    subst this
    refine .inr ⟨kvs, k, b, h1, rfl, hl _ _ m1, by simp at hz; exact m_lt hz, fun v hv => ?_, fun hn => ?_⟩
    · cases ei : ixKey true (kvs.map fun p => .tup (p.1.map kD)) (.t k) with
      | none => rw [ixKey_t.2 ei] at hv; cases hv
      | some j =>
        obtain ⟨z1, z2⟩ := ixKey_t.1 j ei
        rw [hv, e2, List.getElem?_map] at z1
        cases el : las[j]? with
        | none => rw [el] at z1; cases z1
        | some l =>
          rw [el] at z1
          injection z1 with z1
          rw [z1]
          exact hq.1 j l ei el
    · have ei : ixKey true (kvs.map fun p => .tup (p.1.map kD)) (.t k) = none := by
        cases ei : ixKey true (kvs.map fun p => .tup (p.1.map kD)) (.t k) with
        | none => rfl
        | some j =>
          obtain ⟨z1, z2⟩ := ixKey_t.1 j ei
          rw [hn] at z1
          have := List.getElem?_eq_none_iff.mp z1.symm
          simp at this
          omega
      refine hq.2 ei _ ?_
      have ep : putK kvs k (.ref p) = kvs ++ [(k, .ref p)] := by
        unfold putK
        rw [valV_any, hn]
        rfl
      rw [ep]
      exact ⟨rfl, by rw [List.map_append]; rfl, by rw [List.map_append, e2, List.map_append]; rfl⟩
/-- a slot's thing is lent: nobody sees it, it is protected -/
theorem Rel.lend (hR : Rel c σ H ρ o P) (hi : i < ρ.length) : Rel c σ H (ρ.set i .no) (fun j => if j = i then fun _ => False else o j) (fun x => P x ∨ o i x) ∧ hide H (All (fun j => if j = i then fun _ => False else o j) fun x => P x ∨ o i x) = hide H (All o P) := by
  have hh : hide H (All (fun j => if j = i then fun _ => False else o j) fun x => P x ∨ o i x) = hide H (All o P) := by
    congr 1
    funext x
    refine propext ⟨fun h => ?_, fun h => ?_⟩
    · rcases h with (h | h) | ⟨j, h⟩
      · exact .inl h
      · exact .inr ⟨i, h⟩
      · by_cases hj : j = i
        · rw [if_pos hj] at h; exact h.elim
        · rw [if_neg hj] at h; exact .inr ⟨j, h⟩
    · rcases h with h | ⟨j, h⟩
      · exact .inl (.inl h)
      · by_cases hj : j = i
        · subst hj; exact .inl (.inr h)
        · exact .inr ⟨j, by show (if j = i then _ else o j) x; rw [if_neg hj]; exact h⟩
  refine ⟨⟨by rw [List.length_set]; exact hR.len, fun j => ?_, fun j k x y z => ?_, fun j x y z => ?_, fun x y => y.elim (hR.prot x) hR.own_prot⟩, hh⟩
  · rw [hh]
    by_cases hj : j = i
    · subst hj
      rw [List.getElem?_set_self hi, if_pos rfl]
      exact fun a z => z
    · rw [List.getElem?_set_ne (fun z => hj z.symm), if_neg hj]
      exact hR.slot j
  · by_cases hj : j = i
    · rw [if_pos hj] at y; exact y.elim
    · by_cases hk : k = i
      · rw [if_pos hk] at z; exact z.elim
      · rw [if_neg hj] at y; rw [if_neg hk] at z; exact hR.disj j k x y z
  · by_cases hj : j = i
    · rw [if_pos hj] at y; exact y.elim
    · rw [if_neg hj] at y
      rcases z with z | z
      · exact hR.dP j x y z
      · exact hj (hR.disj j i x y z)
/-- it comes back -/
theorem Rel.unlend (hR : Rel c σ H ρ o (fun x => P x ∨ S x)) (hi : ρ[i]? = some .no) (hs : σ[i]? = some (some (.ref a))) (hS : ∀ x, S x → ¬ P x) (hO : Own c H (hide H (All o fun x => P x ∨ S x)) d a S) :
    Rel c σ H (ρ.set i (.ow d)) (fun j => if j = i then S else o j) P ∧ hide H (All (fun j => if j = i then S else o j) P) = hide H (All o fun x => P x ∨ S x) := by
  have no : ∀ x, ¬ o i x := by
    have := hR.slot i
    rw [hi] at this
    exact this
  have hh : hide H (All (fun j => if j = i then S else o j) P) = hide H (All o fun x => P x ∨ S x) := by
    congr 1
    funext x
    refine propext ⟨fun h => ?_, fun h => ?_⟩
    · rcases h with h | ⟨j, h⟩
      · exact .inl (.inl h)
      · by_cases hj : j = i
        · rw [if_pos hj] at h; exact .inl (.inr h)
        · rw [if_neg hj] at h; exact .inr ⟨j, h⟩
    · rcases h with (h | h) | ⟨j, h⟩
      · exact .inl h
      · exact .inr ⟨i, by show (if i = i then S else o i) x; rw [if_pos rfl]; exact h⟩
      · by_cases hj : j = i
        · subst hj; exact (no x h).elim
        · exact .inr ⟨j, by show (if j = i then _ else o j) x; rw [if_neg hj]; exact h⟩
  have hiL : i < ρ.length := (List.getElem?_eq_some_iff.mp hi).1
  refine ⟨⟨by rw [List.length_set]; exact hR.len, fun j => ?_, fun j k x y z => ?_, fun j x y z => ?_, fun x y => hR.prot x (.inl y)⟩, hh⟩
  · rw [hh]
    by_cases hj : j = i
    · subst hj
      rw [List.getElem?_set_self hiL, if_pos rfl]
      exact ⟨a, hs, hO⟩
    · rw [List.getElem?_set_ne (fun z => hj z.symm), if_neg hj]
      exact hR.slot j
  · by_cases hj : j = i <;> by_cases hk : k = i
    · rw [hj, hk]
    · rw [if_pos hj] at y; rw [if_neg hk] at z; exact (hR.dP k x z (.inr y)).elim
    · rw [if_neg hj] at y; rw [if_pos hk] at z; exact (hR.dP j x y (.inr z)).elim
    · rw [if_neg hj] at y; rw [if_neg hk] at z; exact hR.disj j k x y z
  · by_cases hj : j = i
    · rw [if_pos hj] at y; exact hS x y z
    · rw [if_neg hj] at y; exact hR.dP j x y (.inl z)
end
end Ly
set_option Elab.async false
set_option linter.all false
set_option maxRecDepth 100000
set_option maxHeartbeats 1000000
namespace Ly
open PySem L2
/-- x.setdefault(k, []).append(e), x a dict of lists in a slot -/
def sdaT (i : Nat) (f : Sem R) (t : Bool) (ks ws : List D) (j : Nat) (ρ : Env) : Option (Out R × Env) := bnd (frzS f (ρ.set i .no)) fun d ρ3 => match ρ3[i]? with
  | some .no => (apD ws j d).map fun ws2 => (.val (.fz .non), ρ3.set i (.ow (.dls t ks ws2)))
  | _ => none
def sdaR (i : Nat) (f : Sem R) (y : D) (ρ : Env) : Option (Out R × Env) := match ρ[i]? with
  | some (.ow d1) => (asDls d1).bind fun p => (dKey p.1 y).bind fun q => if p.2.1.length < 1000000 then sdaT i f p.1 (sdD p.1 p.2.1 p.2.2 q y).1 (sdD p.1 p.2.1 p.2.2 q y).2.1 (sdD p.1 p.2.1 p.2.2 q y).2.2 ρ else none
  | _ => none
def sdaS (i : Nat) (fk f : Sem R) : Sem R := fun ρ => match ρ[i]? with
  | some (.ow d0) => (asDls d0).bind fun _ => bnd (frzS fk ρ) fun y ρ1 => sdaR i f y ρ1
  | _ => none
section
variable {c : Cc} {W : WXX} {io : Nat → Bool} {X : Cx} {σ σ1 σ2 : St} {H H0 H1 H3 H' G G' : Hp} {ρ ρ0 ρ1 ρ2 ρ' : Env} {o o0 o1 o2 o3 o' : Ownr} {P P1 P2 P' : Prot} {d d1 d2 d' : D} {v v1 v2 : V} {r : R} {a b p l : Addr} {u w u' : HO} {e ob : Expr} {es : List Expr} {f fk : Sem R} {t : Sem Bool} {En : Ends} {ds outs : List D} {vs : List V} {n m i j : Nat} {S S3 : Addr → Prop}
theorem sda_tail {tk : Bool} {ks ws : List D} {las : List Addr} {Q : VK} (R3 : Rel c σ H3 (ρ1.set i .no) o3 (fun x => P x ∨ S3 x)) (hiL : i < ρ1.length) (hs : σ[i]? = some (some (.ref a))) (hS : ∀ x, S3 x → ¬ P x) (h1 : H3 a = some u) (h2 : DlsCell tk ks las u) (h3 : Lsts c H3 (hide H3 (All o3 fun x => P x ∨ S3 x)) ws las) (nd : las.Nodup) (ha : a ∉ las) (hSx : ∀ x, S3 x ↔ (x = a ∨ x ∈ las))
    (hj : las[j]? = some l) (hP : Post c W RepR σ H o P (sdaT i f tk ks ws j ρ1) Q) (kA : ∀ x u, H x = some u → (∀ k, ¬ o k x) → H3 x = some u ∧ ¬ S3 x) (nO : ∀ k x, o3 k x → o k x ∨ H x = none) (nS : ∀ x, S3 x → o i x ∨ H x = none) (tA : ∀ x u, H x = some u → ∃ u', H3 x = some u') :
    tyV c.K "list" (.ref l) H3 ∧ tF c W (frzS f) σ H3 fun y H' => rAppend (.ref l) [y] H' Q := by
  have hjl : j < ws.length := by rw [h3.len]; exact (List.getElem?_eq_some_iff.mp hj).1
  obtain ⟨l', dd, xs, q1, q2, q3, q4⟩ := h3.at hjl
  rw [hj] at q1; cases q1
  have sl : S3 l := (hSx l).mpr (.inr (List.mem_of_getElem? hj))
  refine ⟨.inl ⟨rfl, xs, .of q3⟩, ρ1.set i .no, o3, _, R3, ?_⟩
  unfold sdaT at hP
  cases ef : frzS f (ρ1.set i .no) with
  | none => rw [ef] at hP; exact hP.elim
  | some q =>
    obtain ⟨q, ρ3⟩ := q
    rw [ef] at hP
    have keep3 : ∀ {H4 o4}, Step H3 o3 H4 o4 → ∀ x u, (S3 x ∨ ((∀ k, ¬ o k x) ∧ H x = some u)) → H3 x = some u → H4 x = some u := fun {H4 o4} s x u hx hu => s.keep x u hu fun k z => by
      rcases hx with hx | ⟨hx, hx2⟩
      · exact R3.dP k x z (.inr hx)
      · rcases nO k x z with z | z
        · exact hx k z
        · rw [hx2] at z; cases z
    cases q with
    | exc z =>
      intro cl dd' H4 o4 R4 s4 hx
      have R5 := R4.shrink (P := P) fun x z => .inl z
      refine hP cl dd' H4 o4 R5 ⟨fun x u hx hn => ?_, fun k x hx => ?_, fun x u hx => ?_⟩ (hx.mono (hide_mono fun b u e n => ⟨e, fun q => n (q.elim (fun z => .inl (.inl z)) .inr)⟩))
      · exact keep3 s4 x u (.inr ⟨hn, hx⟩) (kA x u hx hn).1
      · rcases s4.news k x hx with z | z
        · exact nO k x z
        · refine .inr ?_
          cases e : H x with
          | none => rfl
          | some w =>
            obtain ⟨w', q⟩ := tA x w e
            rw [z] at q; cases q
      · obtain ⟨u', q⟩ := tA x u hx
        exact s4.there x u' q
    | val dv =>
      intro vd H4 o4 P4 R4 g4 s4 M4
      have M4 : Rep c (hide H4 (All o4 P4)) dv vd := M4
      have R4' := R4.shrink g4.sub
      have M4' : Rep c (hide H4 (All o4 fun x => P x ∨ S3 x)) dv vd := Rep.mono (hide_mono fun a u e n => ⟨e, fun z => n (z.elim (fun z => .inl (g4.sub a z)) .inr)⟩) _ _ M4
      have le4 : Le (hide H3 (All o3 fun x => P x ∨ S3 x)) (hide H4 (All o4 fun x => P x ∨ S3 x)) := s4.hide fun a z => .inl z
      have kS : ∀ x u, S3 x → H3 x = some u → H4 x = some u := fun x u hx hu => keep3 s4 x u (.inl hx) hu
      have hP : Post c W RepR σ H o P (match ρ3[i]? with
        | some .no => (apD ws j dv).map fun ws2 => (.val (.fz .non), ρ3.set i (.ow (.dls tk ks ws2)))
        | _ => none) Q := hP
      split at hP
      · rename_i hno
        cases ea : apD ws j dv with
        | none => rw [ea] at hP; exact hP.elim
        | some ws2 =>
          rw [ea] at hP
          unfold apD at ea
          rw [q2] at ea
          have ea : (if dd.length < 1000000 then some (ws.set j (.lst (dd ++ [dv]))) else none) = some ws2 := ea
          by_cases hz : dd.length < 1000000
          · rw [if_pos hz] at ea; cases ea
            have hl4 : H4 l = some (.lst xs) := kS l _ sl q3
            refine ⟨l, xs, vd, rfl, rfl, hl4, by rw [← q4.len]; exact m_lt hz, ?_⟩
            obtain ⟨R5, le5⟩ := R4'.fill (p := l) (u := .lst (xs ++ [vd])) (.inr sl) (fun _ => nofun)
            have ane : a ≠ l := fun z => ha (z ▸ List.mem_of_getElem? hj)
            have hO : Own c (upd H4 l (.lst (xs ++ [vd]))) (hide (upd H4 l (.lst (xs ++ [vd]))) (All o4 fun x => P x ∨ S3 x)) (.dls tk ks (ws.set j (.lst (dd ++ [dv])))) a S3 := by
              refine ⟨u, las, ?_, h2, ?_, nd, ha, hSx⟩
              · rw [upd_ne ane]; exact kS a u ((hSx a).mpr (.inl rfl)) h1
              · refine Lsts.set ?_ nd hj ?_
                · exact h3.keep (fun b w q => le5 b w (le4 b w q)) fun x w hx hw => kS x w ((hSx x).mpr (.inr hx)) hw
                · exact (Reps.mono (fun b w q => le5 b w (le4 b w q)) _ _ q4).append (.cons (Rep.mono le5 _ _ M4') .nil)
            obtain ⟨R6, h6⟩ := R5.unlend hno hs hS hO
            refine hP .non _ _ P R6 Grow.refl ⟨fun x w hx hn => ?_, fun k x hx => ?_, fun x w hx => ?_⟩ (show Rep c (hide (upd H4 l (.lst (xs ++ [vd]))) (All (fun j => if j = i then S3 else o4 j) P)) .non .non by unfold Rep; rfl)
            · obtain ⟨z1, z2⟩ := kA x w hx hn
              have : x ≠ l := fun z => z2 (z ▸ sl)
              rw [upd_ne this]
              exact keep3 s4 x w (.inr ⟨hn, hx⟩) z1
            · have hx : (if k = i then S3 else o4 k) x := hx
              by_cases hk : k = i
              · rw [if_pos hk] at hx; rw [hk]; exact nS x hx
              · rw [if_neg hk] at hx
                rcases s4.news k x hx with z | z
                · exact nO k x z
                · refine .inr ?_
                  cases e : H x with
                  | none => rfl
                  | some w =>
                    obtain ⟨w', q⟩ := tA x w e
                    rw [z] at q; cases q
            · by_cases e : x = l
              · exact ⟨_, by rw [e]; exact upd_same⟩
              · obtain ⟨w1, y1⟩ := tA x w hx
                obtain ⟨w2, y2⟩ := s4.there x w1 y1
                exact ⟨w2, by rw [upd_ne e]; exact y2⟩
          · rw [if_neg hz] at ea; cases ea
      · exact hP.elim
theorem dls_isD {tk : Bool} {ks : List D} {las : List Addr} (h1 : H a = some u) (h2 : DlsCell tk ks las u) : IsD H a := by
  cases u <;> first | exact h2.elim | skip
  · exact .inl ⟨_, .inl h1⟩
  · exact .inr ⟨_, .inl h1⟩
theorem dls_len {tk : Bool} {ks : List D} {las : List Addr} (h2 : DlsCell tk ks las u) : ks.length = las.length := by
  cases u <;> first | exact h2.elim | skip
  · obtain ⟨_, rfl, e⟩ := h2
    have := congrArg List.length e
    simpa using this
  · obtain ⟨_, rfl, e⟩ := h2
    have := congrArg List.length e
    simpa using this
theorem dls_noTup {tk : Bool} {ks : List D} {las : List Addr} (h2 : DlsCell tk ks las u) : ∀ xs, u ≠ .tup xs := fun xs e => by subst e; exact h2
theorem sda_core {Q : VK} (h : tE c W (sdaS i fk f) σ H Q) : tBM c.K "list" rAppend (tSd (tVar i) (tF c W (frzS fk)) (tLst tNil)) (tCons (tF c W (frzS f)) tNil) σ H Q := by
  obtain ⟨ρ, o, P, hR, hP⟩ := h
  unfold sdaS at hP
  split at hP
  · rename_i d0 hi0
    cases ea0 : asDls d0 with
    | none => rw [ea0] at hP; exact hP.elim
    | some p0 =>
      rw [ea0] at hP
      have hP : Post c W RepR σ H o P (bnd (frzS fk ρ) fun y ρ1 => sdaR i f y ρ1) Q := hP
      have q0 := hR.slot i
      rw [hi0] at q0
      obtain ⟨a, hs, hO0⟩ := q0
      obtain ⟨t0, k0, w0⟩ := p0
      obtain ⟨u0, las0, g1, g2, _⟩ := own_dls ea0 hO0
      refine ⟨_, hs, a, rfl, dls_isD g1 g2, ?_⟩
      refine seq1 base_R hR hP fun y ρ1 vy H1 o1 P1 R1 G1 S1 M1 hP1 => ?_
      have M1 : Rep c (hide H1 (All o1 P1)) y vy := M1
      unfold sdaR at hP1
      split at hP1
      · rename_i d1 hi1
        cases ea : asDls d1 with
        | none => rw [ea] at hP1; exact hP1.elim
        | some p =>
          obtain ⟨t, ks, ws⟩ := p
          rw [ea] at hP1
          cases ek : dKey t y with
          | none => simp only [Option.bind_some, ek, Option.bind_none] at hP1; exact hP1.elim
          | some q =>
            simp only [Option.bind_some, ek] at hP1
            by_cases hz : ks.length < 1000000
            · rw [if_pos hz] at hP1
              have q1 := R1.slot i
              rw [hi1] at q1
              obtain ⟨a', hs', hO⟩ := q1
              rw [hs] at hs'; cases hs'
              obtain ⟨u, las, g1, g2, g3, nd, hna, hSx⟩ := own_dls ea hO
              have hiL : i < ρ1.length := (List.getElem?_eq_some_iff.mp hi1).1
              obtain ⟨RL, hh⟩ := R1.lend hiL
              refine ⟨Nat.zero_le _, fun p hp => ?_⟩
              have lePe := le_new (u := .lst []) hp
              have hpn : ∀ x w, H1 x = some w → x ≠ p := fun x w h => ne_of_none h hp
              have hpa : p ≠ a := fun z => hpn a u g1 z.symm
              have hkw : ks.length = ws.length := (dls_len g2).trans g3.len.symm
              have g3' : Lsts c (upd H1 p (.lst [])) (hide (upd H1 p (.lst [])) (All o1 P1)) ws las := g3.keep (hide_mono fun b w e n => ⟨lePe b w e, n⟩) fun x w _ hw => lePe x w hw
              have My : Rep c (hide (upd H1 p (.lst [])) (All o1 P1)) y vy := Rep.mono (hide_mono fun b w e n => ⟨lePe b w e, n⟩) _ _ M1
              refine sd_core (G := hide (upd H1 p (.lst [])) (All o1 P1)) hide_le (lePe a u g1) g2 g3' hkw My ek hz upd_same hna hpa ⟨fun j l ej hl => ?_, fun ej u' hu' => ?_⟩
              · -- the key stands there
                have esd : sdD t ks ws q y = (ks, ws, j) := by unfold sdD; rw [ej]
                rw [esd] at hP1
                have R3 := RL.grow lePe
                have hh3 : hide (upd H1 p (.lst [])) (All (fun j => if j = i then fun _ => False else o1 j) fun x => P1 x ∨ o1 i x) = hide (upd H1 p (.lst [])) (All o1 P1) := (R1.grow lePe).lend hiL |>.2
                have tl := sda_tail (W := W) (f := f) (tk := t) (ks := ks) (ws := ws) (Q := Q) (j := j) R3 hiL hs (fun x hx => R1.dP i x hx) (lePe a u g1) g2 (by rw [hh3]; exact g3') nd hna hSx hl hP1
                  (fun x w hx hn => ⟨lePe x w hx, fun z => hn i z⟩) (fun k x hx => ?_) (fun x hx => .inl hx) (fun x w hx => ⟨w, lePe x w hx⟩)
                · exact ⟨tl.1, tl.2⟩
                · have hx : (if k = i then fun _ => False else o1 k) x := hx
                  by_cases hk : k = i
                  · rw [if_pos hk] at hx; exact hx.elim
                  · rw [if_neg hk] at hx; exact .inl hx
              · -- a new key
                have esd : sdD t ks ws q y = (ks ++ [y], ws ++ [.lst []], ks.length) := by unfold sdD; rw [ej]
                rw [esd] at hP1
                obtain ⟨R3, le3, _, _⟩ := RL.lay (u := .lst []) hp (fun _ => nofun)
                have pa : (fun x => (P1 x ∨ o1 i x) ∨ x = p) a := .inl (.inr ((hSx a).mpr (.inl rfl)))
                obtain ⟨R4, le4⟩ := R3.fill (p := a) (u := u') pa (dls_noTup hu')
                have eP : (fun x => (P1 x ∨ o1 i x) ∨ x = p) = fun x => P1 x ∨ (o1 i x ∨ x = p) := by
                  funext x; exact propext or_assoc
                rw [eP] at R4 le4 le3
                have hpl : p ∉ las := fun z => by
                  obtain ⟨zs, hz2⟩ := g3.mem p z
                  rw [hp] at hz2; cases hz2
                have nd' : (las ++ [p]).Nodup := by
                  rw [List.nodup_append]
                  exact ⟨nd, by simp, fun x hx y hy => by
                    rw [List.mem_singleton] at hy
                    subst hy
                    exact fun z => hpl (z ▸ hx)⟩
                have hna' : a ∉ las ++ [p] := fun z => by
                  rcases List.mem_append.mp z with z | z
                  · exact hna z
                  · rw [List.mem_singleton] at z; exact hpa z.symm
                have hSx' : ∀ x, (o1 i x ∨ x = p) ↔ (x = a ∨ x ∈ las ++ [p]) := fun x => by
                  rw [hSx x, List.mem_append, List.mem_singleton, or_assoc]
                have hjl : (las ++ [p])[ks.length]? = some p := by
                  rw [dls_len g2, List.getElem?_append_right (Nat.le_refl _), Nat.sub_self]; rfl
                have lst : Lsts c (upd (upd H1 p (.lst [])) a u') (hide (upd (upd H1 p (.lst [])) a u') (All (fun j => if j = i then fun _ => False else o1 j) fun x => P1 x ∨ (o1 i x ∨ x = p))) (ws ++ [.lst []]) (las ++ [p]) := by
                  refine Lsts.snoc ?_ (by rw [upd_ne hpa]; exact upd_same)
                  refine g3.keep (fun b w q => le4 b w (le3 b w (by rw [hh]; exact q))) fun x w hx hw => ?_
                  have : x ≠ a := fun z => hna (z ▸ hx)
                  rw [upd_ne this]; exact lePe x w hw
                have tl := sda_tail (W := W) (f := f) (tk := t) (ks := ks ++ [y]) (ws := ws ++ [.lst []]) (Q := Q) (j := ks.length) (S3 := fun x => o1 i x ∨ x = p) R4 hiL hs (fun x hx => ?_) upd_same hu' lst nd' hna' hSx' hjl hP1
                  (fun x w hx hn => ?_) (fun k x hx => ?_) (fun x hx => ?_) (fun x w hx => ?_)
                · exact ⟨tl.1, tl.2⟩
                · rcases hx with hx | hx
                  · exact R1.dP i x hx
                  · intro z
                    obtain ⟨w, y1, _⟩ := R1.prot x z
                    rw [hx, hp] at y1; cases y1
                · have h1 : x ≠ a := fun z => hn i (z ▸ (hSx a).mpr (.inl rfl))
                  refine ⟨by rw [upd_ne h1]; exact lePe x w hx, fun z => z.elim (fun z => hn i z) fun z => hpn x w hx z⟩
                · have hx : (if k = i then fun _ => False else o1 k) x := hx
                  by_cases hk : k = i
                  · rw [if_pos hk] at hx; exact hx.elim
                  · rw [if_neg hk] at hx; exact .inl hx
                · exact hx.elim .inl fun z => .inr (z ▸ hp)
                · by_cases e : x = a
                  · exact ⟨u', by rw [e]; exact upd_same⟩
                  · exact ⟨w, by rw [upd_ne e]; exact lePe x w hx⟩
            · rw [if_neg hz] at hP1; exact hP1.elim
      · exact hP1.elim
  · exact hP.elim
/-- x.setdefault(k, []).append(e) -/
theorem pd_sda {x : Str} {ek ev : Expr} {p p1 p2 p3 a1 a2 : Pos} (k : Okc c X) (hN : X.N[i]? = some x) (hv : Vis X.env.scope x) (hk : PE X ek (tE c W fk)) (he : PE X ev (tE c W f)) (m : M2 X (.Name x p) "setdefault" a1 ek (.List [] p1) p2)
    (hbase : attributeBase (.Call (.Attribute (.Name x p) "setdefault" a1) [ek, .List [] p1] [] p2) "append" X.env (eval (.Call (.Attribute (.Name x p) "setdefault" a1) [ek, .List [] p1] [] p2) X.env) = eval (.Call (.Attribute (.Name x p) "setdefault" a1) [ek, .List [] p1] [] p2) X.env := by rfl)
    (hfew : ((backTo p3 (starEach [ev] X.env)).all (fun x => !x.1) && (backToKw p3 (keywordEach [] X.env)).all (fun x => x.1.isSome)
      && decide ([ev].length + ([] : List Keyword).length + (if ([] : List Keyword).isEmpty then 0 else 1) < 30)) = true := by rfl)
    (hline : (a2.endLine == p3.line) = true := by rfl) (hs : starEach [ev] X.env = (false, eval ev X.env) :: starEach [] X.env := by rfl) (hplain : (backTo p3 (starEach [] X.env)).any (·.1) = false := by rfl)
    (hd : (x == ("__debug__" : Str)) = false := by decide +kernel) (hcd : (x == ("__classdict__" : Str)) = false := by decide +kernel) :
    PE X (.Call (.Attribute (.Call (.Attribute (.Name x p) "setdefault" a1) [ek, .List [] p1] [] p2) "append" a2) [ev] [] p3) (tE c W (sdaS i fk f)) :=
  pe_of (pe_bm F.plainAttrs_list F.slot_list_append F.type_list_append mt_append (pe_sd (by have := k.hu; omega) (pe_var (i := i) hN hv hd hcd) (fd_of hk) (pe_lst pa_nil) m) (pa_cons (fd_of he) pa_nil hs) hbase hfew hline hs hplain) fun σ H Q h => k.hK ▸ sda_core h
end
end Ly
set_option Elab.async false
set_option linter.all false
set_option maxRecDepth 100000
set_option maxHeartbeats 1000000
namespace Ly
open PySem PySem.Spec PyProof.Rows L2
/-! ### 28. exceptions -/
section
variable {X : Cx} {C : Addr} {bmB : List Value} {B newId initId : String}
/-- X() -/
theorem pmk_zero {x : Str} {p pos : Pos} (F : ExcBaseFacts B newId initId bmB) (q : PySem.W.excIn X.K C bmB newId = true) (gC : X.mg x = some (.ref C)) (kC : PySem.W.keepIn X.K (.ref C) = true) (r : Raises X (.ref C)) (hg : Gl X x)
    (hdb : (x == ("__debug__" : Str)) = false := by decide +kernel) : PMk X (.Call (.Name x p) [] [] pos) (fun _ H Q => Q (.ref C) none H) := by
  intro pins s σ H Q I h
  refine wpAny_Call_Name_kw (ld_glob I hg gC ?_ hdb)
  refine PySem.W.callWith_K0 I.kIn kC ?_
  show wpAny _ _ (call (.ref C) []) _ _ _
  obtain ⟨bm, N, nm, qn, bs, hdct, sn, sub, ab, col, dd, k0, k1, k2, k3, k5, mN, hC, hN, hni, T⟩ := exc_obj I.kIn q
  refine wpAny_call_exc_subT F T hC hN hni (fun h' e hm => ?_) (Nat.zero_le _)
  exact mk_of I hm r h (I.hok.gone hm.new)
end
end Ly
namespace Ly
open PySem L2
def neverS : SemS := fun _ => none
def raiseS (k : Nat) : SemS := fun ρ => some (.exc ⟨k, []⟩, ρ)
/-- try: .., except C: .. -/
def tryS (mt : Nat → Option Bool) (body suite : SemS) : SemS := fun ρ => match body ρ with
  | some (.exc x, ρ1) => (match mt x.k with
    | some true => noExc (suite ρ1)
    | some false => some (.exc x, ρ1)
    | none => none)
  | r => r
section
variable {c : Cc} {W : WXX} {io : Nat → Bool} {X : Cx} {σ σ1 σ2 : St} {H H0 H1 H3 H' G G' : Hp} {ρ ρ0 ρ1 ρ2 ρ' : Env} {o o0 o1 o2 o3 o' : Ownr} {P P1 P2 P' : Prot} {d d1 d2 d' : D} {v v1 v2 : V} {r : R} {a b p l : Addr} {u w u' : HO} {e ob : Expr} {es : List Expr} {f fk : Sem R} {t : Sem Bool} {En : Ends} {ds outs : List D} {vs : List V} {n m i j : Nat} {S S3 : Addr → Prop}
theorem ds_never {st : Stmt} : PS X st (tS c W io neverS) := ps_of ps_never fun En σ H ⟨ρ, o, P, hR, hP⟩ => hP.elim
theorem dss_never {st : List Stmt} : PSs X st (tS c W io neverS) := pss_of pss_never fun En σ H ⟨ρ, o, P, hR, hP⟩ => hP.elim
theorem ds_raise0 {k : Nat} {bmB : List Value} {B newId initId : String} {x : Str} {p pos pos' : Pos} (hc : X.calm = true) (tk : Takes X W) (F : ExcBaseFacts B newId initId bmB) (q : PySem.W.excIn X.K (c.cls k) bmB newId = true) (gC : X.mg x = some (.ref (c.cls k))) (kC : PySem.W.keepIn X.K (.ref (c.cls k)) = true) (r : Raises X (.ref (c.cls k))) (hg : Gl X x)
    (hdb : (x == ("__debug__" : Str)) = false := by decide +kernel) : PS X (.Raise (some (.Call (.Name x p) [] [] pos)) none pos') (tS c W io (raiseS k)) := by
  refine ps_of (ps_raise hc tk (pmk_zero F q gC kC r hg hdb)) ?_
  rintro En σ H ⟨ρ, o, P, hR, hP⟩
  exact hP _ _ σ H o hR Step.refl Kept.refl ⟨rfl, .inl rfl⟩
theorem postS_noExc {W' : WXX} {res : Option (Fl × Env)} (h : PostS c W io σ H o P (noExc res) En) : PostS c W' io σ H o P res En := by
  cases res with
  | none => exact h
  | some q =>
    obtain ⟨q, ρ'⟩ := q
    cases q with
    | exc x => exact h.elim
    | nx => exact h
    | bk => exact h
    | ct => exact h
    | ret r => exact h
theorem ds_try {x : Str} {cv : Value} {mt : Nat → Option Bool} {body suite : List Stmt} {b₀ : Stmt} {np pos pos' : Pos} {f g : SemS} (hs : X.stack = X.env :: X.outer) (hf : X.env.frame = some X.env.locals) (hc : Names X x cv) (tk : Takes X W)
    (hm : ∀ k b, mt k = some b → PySem.W.exmOne X.K (.ref (c.cls k)) cv = some b)
    (hb : ∀ (W : WXX) (pn : List (Addr × Obj)) (xe : Value → Shared → Prop), Takes (X.tr pn xe) W → PassesOwn (model X.prog X.w) X.A X.env xe → PSs (X.tr pn xe) body (tS c W io f))
    (hsu : ∀ (a : Addr) (oe : Obj) (pn : List (Addr × Obj)), PSs (X.suite a ((a, oe) :: pn)) (b₀ :: suite) (tS c WF io g)) :
    PS X (.Try body [.ExceptHandler (some (.Name x np)) none (b₀ :: suite) pos'] [] [] pos) (tS c W io (tryS mt f g)) := by
  refine ps_of (ps_try_only (tb := fun W => tS c W io f) (ts := fun _ _ _ => tS c WF io g) hs hf hc tk hb (fun a oe cls d pn _ _ => hsu a oe pn)) ?_
  rintro En σ H ⟨ρ, o, P, hR, hP⟩
  refine ⟨ρ, o, P, hR, ?_⟩
  unfold tryS at hP
  cases ef : f ρ with
  | none => rw [ef] at hP; exact hP
  | some q =>
    obtain ⟨q, ρ1⟩ := q
    rw [ef] at hP
    cases q with
    | nx => exact hP
    | bk => exact hP
    | ct => exact hP
    | ret r => exact hP
    | exc z =>
      intro cl dd σ' H' o' R' s' k' hx
      simp only at hP
      cases em : mt z.k with
      | none => simp only [em] at hP; exact hP.elim
      | some bb =>
        simp only [em] at hP
        refine ⟨bb, by rw [hx.1]; exact hm _ _ em, fun hbb a ha => ?_, fun hbb => ?_⟩
        · subst hbb
          have hP' : PostS c W io σ H o P (noExc (g ρ1)) En := hP
          exact ⟨ρ1, o', P, R', PostS.later (postS_noExc hP') s' k'⟩
        · subst hbb
          exact hP cl dd σ' H' o' R' s' k' hx

/-! ### 29. isinstance -/
/-- an own class: what isinstance asks -/
structure ObjTy (X : Cx) (C : Addr) : Prop where
  cl : Cls X.K C
  ha : PySem.W.findIn X.K (.ref C) "__class__" = some (some (.builtin "object.__class__"))
  hn : PySem.W.specialIn X.K (.builtin "object.__class__") "__get__" = some (some (.builtin "getset_descriptor.__get__"))
  htk : PySem.W.takesIn X.K (.builtin "object.__class__") = some true
  hm : PySem.W.mroIn X.K C (.type "object") = some true
/-- the type of a value -/
inductive TyD (c : Cc) (X : Cx) : D → Value → Prop
  | non : TyD c X .non (.type "NoneType")
  | bl (b : Bool) : TyD c X (.bl b) (.type "bool")
  | int (i : Int) : TyD c X (.int i) (.type "int")
  | str (s : List Nat) : TyD c X (.str s) (.type "str")
  | tup (xs : List D) : TyD c X (.tup xs) (.type "tuple")
  | lst (xs : List D) : TyD c X (.lst xs) (.type "list")
  | dic (ks xs : List D) : TyD c X (.dic false ks xs) (.type "dict")
  | obj (k : Nat) (xs : List D) (h : ObjTy X (c.cls k)) : TyD c X (.obj k xs) (.ref (c.cls k))
theorem TyD.tyx {tv : Value} (h : TyD c X d tv) (hr : RdV c H G d v) : TyX X.K H v tv := by
  cases h with
  | non => cases (show v = .non from hr); exact .base .non
  | bl b => cases (show v = .bl b from hr); exact .base (.bl b)
  | int i => cases (show v = .int i from hr); exact .base (.int i)
  | str s => cases (show v = .str _ from hr); exact .base (.str _)
  | tup xs => obtain ⟨a, ys, rfl, h1, _⟩ := rd_tup hr; exact .base (.tup h1)
  | lst xs => obtain ⟨a, ys, rfl, h1, _⟩ := rd_lst hr; exact .base (.lst h1)
  | dic ks xs =>
    obtain ⟨a, kvs, rfl, h1, _, _⟩ := rd_dicK hr
    rcases h1 with h1 | ⟨z, h1⟩
    · exact .base (.dK h1)
    · exact .fDict h1
  | obj k xs h =>
    obtain ⟨a, dx, fs, rfl, h1, _, _⟩ := rd_obj hr
    exact .base (.ins h1 h.cl h.ha h.hn h.htk h.hm)
structure IsiOk (c : Cc) (X : Cx) (u : Value) (tab : D → Option Bool) : Prop where
  run : ∀ d b, tab d = some b → ∃ tv, TyD c X d tv ∧ PySem.W.kitOne X.K tv u = some b
structure IsisOk (c : Cc) (X : Cx) (us : List Value) (tab : D → Option Bool) : Prop where
  run : ∀ d b, tab d = some b → ∃ tv, TyD c X d tv ∧ PySem.W.kitAny X.K tv us = some b
def isiS (tab : D → Option Bool) (f : Sem R) : Sem R := fun ρ => bnd (f ρ) fun r ρ1 => (val ρ1 r).bind fun d => (tab d).map fun b => (.val (.fz (.bl b)), ρ1)
theorem pd_isi {ec : Expr} {cv : V} {u : Value} {tab : D → Option Bool} {p pos : Pos} (hT : IsiOk c X u tab) (hcv : ClsV cv u) (hg : Gl X "isinstance") (hm : X.mg "isinstance" = none) (he : PE X e (tE c W f)) (hc : PE X ec (tC cv))
    (hs : starEach [e, ec] X.env = (false, eval e X.env) :: starEach [ec] X.env := by rfl) (hs2 : starEach [ec] X.env = (false, eval ec X.env) :: starEach [] X.env := by rfl) (hpl : (backTo pos (starEach [ec] X.env)).any (·.1) = false := by rfl) : PE X (.Call (.Name "isinstance" p) [e, ec] [] pos) (tE c W (isiS tab f)) := by
  refine pe_of (pe_callB call_isi hg hm PyProof.Rows.boot_isinstance (pa_cons he (pa_cons hc pa_nil hs2) hs) (by decide +kernel) (by decide +kernel) hs hpl) ?_
  rintro σ H Q ⟨ρ, o, P, hR, hP⟩
  refine seq1 base_R hR hP fun r ρ1 v H1 o1 P1 R1 G1 S1 M1 hP1 => ?_
  cases e1 : val ρ1 r with
  | none => rw [e1] at hP1; exact hP1.elim
  | some d =>
    cases e2 : tab d with
    | none => simp only [e1, Option.bind_some, e2, Option.map_none] at hP1; exact hP1.elim
    | some b =>
      simp only [e1, Option.bind_some, e2, Option.map_some] at hP1
      obtain ⟨tv, t1, t2⟩ := hT.run d b e2
      exact ⟨v, cv, tv, u, b, rfl, hcv, t1.tyx (M1.read R1 e1), t2, hP1.res R1 (.inl ⟨rfl, by unfold Rep; rfl⟩)⟩
theorem pd_isiT {ec : List Expr} {cvs : List V} {us : List Value} {tab : D → Option Bool} {x1} {p p2 pos : Pos} {tcs : TA} (hT : IsisOk c X us tab) (hcv : Paired ClsV cvs us) (hlen : cvs.length ≤ 100) (hg : Gl X "isinstance") (hm : X.mg "isinstance" = none) (he : PE X e (tE c W f)) (hc : PA X ec tcs) (htc : ∀ σ H Q, Q cvs H → tcs σ H Q)
    (hs : starEach [e, .Tuple ec x1 p2] X.env = (false, eval e X.env) :: starEach [.Tuple ec x1 p2] X.env := by rfl) (hs2 : starEach [.Tuple ec x1 p2] X.env = (false, eval (.Tuple ec x1 p2) X.env) :: starEach [] X.env := by rfl) (hpl : (backTo pos (starEach [.Tuple ec x1 p2] X.env)).any (·.1) = false := by rfl) :
    PE X (.Call (.Name "isinstance" p) [e, .Tuple ec x1 p2] [] pos) (tE c W (isiS tab f)) := by
  refine pe_of (pe_callB call_isiT hg hm PyProof.Rows.boot_isinstance (pa_cons he (pa_cons (pe_tup hc) pa_nil hs2) hs) (by decide +kernel) (by decide +kernel) hs hpl) ?_
  rintro σ H Q ⟨ρ, o, P, hR, hP⟩
  refine seq1 base_R hR hP fun r ρ1 v H1 o1 P1 R1 G1 S1 M1 hP1 => ?_
  refine htc _ _ _ ⟨Nat.le_trans hlen (by decide), fun q hq => ?_⟩
  cases e1 : val ρ1 r with
  | none => rw [e1] at hP1; exact hP1.elim
  | some d =>
    cases e2 : tab d with
    | none => simp only [e1, Option.bind_some, e2, Option.map_none] at hP1; exact hP1.elim
    | some b =>
      simp only [e1, Option.bind_some, e2, Option.map_some] at hP1
      obtain ⟨tv, t1, t2⟩ := hT.run d b e2
      have ke := le_new (u := .tup cvs) hq
      have rd := (M1.read R1 e1).mono ke (Le.refl _)
      refine ⟨v, q, cvs, tv, us, b, rfl, upd_same, hcv, t1.tyx rd, t2, ?_⟩
      exact hP1 _ _ o1 P1 (R1.grow ke) Grow.refl (Step.le ke) (show Rep c (hide (upd H1 q (.tup cvs)) (All o1 P1)) (.bl b) (.bl b) by unfold Rep; rfl)

/-! ### 30. d.get(k, e) -/
def getS (fd fk fx : Sem R) : Sem R := fun ρ => bnd (frzS fd ρ) fun d ρ1 => match d with
  | .dic t ks ws => bnd (frzS fk ρ1) fun y ρ2 => bnd (frzS fx ρ2) fun z ρ3 => (dKey t y).map fun q => (.val (.fz ((dget t ks ws q).getD z)), ρ3)
  | _ => none
theorem pd_get {ek ex : Expr} {fd fx : Sem R} {a1 p : Pos} (k : Okc c X) (ho : PE X ob (tE c W fd)) (hk : PE X ek (tE c W fk)) (hx : PE X ex (tE c W fx)) (m : M2 X ob "get" a1 ek ex p) : PE X (.Call (.Attribute ob "get" a1) [ek, ex] [] p) (tE c W (getS fd fk fx)) := by
  refine pe_of (pe_dget2 (by have := k.hu; omega) (fd_of ho) (fd_of hk) (fd_of hx) m) ?_
  rintro σ H Q ⟨ρ, o, P, hR, hP⟩
  refine seq2 hR Grow.refl Step.refl hP fun d ρ1 v H1 o1 P1 R1 G1 S1 M1 hP1 => ?_
  have M1 : Rep c (hide H1 (All o1 P1)) d v := M1
  cases d <;> first | exact hP1.elim | skip
  rename_i t ks ws _
  have hd := rdV_self.mp M1
  have hId : ∃ a, v = .ref a ∧ IsD H1 a := by
    cases t with
    | false =>
      obtain ⟨a, kvs, rfl, h1, _, _⟩ := rd_dicK hd
      exact ⟨a, rfl, .inl ⟨kvs, Le.rd hide_le h1⟩⟩
    | true =>
      obtain ⟨a, kvs, rfl, h1, _, _⟩ := rd_dicT hd
      exact ⟨a, rfl, .inr ⟨kvs, Le.rd hide_le h1⟩⟩
  obtain ⟨a, rfl, hid⟩ := hId
  refine ⟨a, rfl, hid, ?_⟩
  refine seq2 R1 G1 S1 hP1 fun y ρ2 vy H2 o2 P2 R2 G2 S2 M2 hP2 => ?_
  refine seq2 R2 (G1.trans S1 G2) (S1.trans S2) hP2 fun z ρ3 vz H3 o3 P3 R3 G3 S3 M3 hP3 => ?_
  have M1' : Rep c (hide H3 (All o3 P3)) (.dic t ks ws) (.ref a) := Rep.mono (S3.hide G3.new) _ _ (Rep.mono (S2.hide G2.new) _ _ M1)
  have M2' : Rep c (hide H3 (All o3 P3)) y vy := Rep.mono (S3.hide G3.new) _ _ M2
  have M3 : Rep c (hide H3 (All o3 P3)) z vz := M3
  cases ek : dKey t y with
  | none => rw [ek] at hP3; exact hP3.elim
  | some q =>
    rw [ek] at hP3
    obtain ⟨b, og, eb, g, rr⟩ := dget_rd (c := c) (H := H3) (G := hide H3 (All o3 P3)) hide_le ((rdV_self.mp M1').mono hide_le (Le.refl _)) ((rdV_self.mp M2').mono hide_le (Le.refl _)) ek
    cases eb
    refine ⟨og, g, ?_⟩
    refine hP3 _ H3 o3 P3 R3 ((G1.trans S1 G2).trans (S1.trans S2) G3) ((S1.trans S2).trans S3) ?_
    show Rep c (hide H3 (All o3 P3)) ((dget t ks ws q).getD z) (og.getD vz)
    cases e1 : dget t ks ws q <;> cases og <;> rw [e1] at rr <;> first | exact rr.elim | exact M3 | exact rr

/-! ### 31. s.join(list of texts) -/
def strsD : List D → Option (List (List Nat))
  | [] => some []
  | .str s :: r => (strsD r).map fun ss => s :: ss
  | _ => none
def joinL (sep : List Nat) : List (List Nat) → List Nat
  | [] => []
  | [s] => s
  | s :: t :: r => s ++ sep ++ joinL sep (t :: r)
theorem reps_strs : ∀ {ds : List D} {ss : List (List Nat)} {vs : List V}, strsD ds = some ss → Reps c G ds vs → vs = (ss.map fun s => (⟨s.toArray⟩ : Str)).map V.str
  | [], ss, vs, e, h => by cases e; exact Reps.nil_iff.mp h
  | d :: ds, ss, vs, e, h => by
    cases d <;> first | (cases e; done) | skip
    rename_i s
    obtain ⟨ts, e2, rfl⟩ := Option.map_eq_some_iff.mp (show (strsD ds).map (fun ss => s :: ss) = some ss from e)
    obtain ⟨v, r, rfl, h1, h2⟩ := h.cons_inv
    rw [reps_strs e2 h2]
    unfold Rep at h1
    rw [h1]
    rfl
end
end Ly
set_option Elab.async false
set_option linter.all false
set_option maxRecDepth 100000
set_option maxHeartbeats 1000000
namespace Ly
open PySem L2
section
variable {c : Cc} {W : WXX} {io : Nat → Bool} {X : Cx} {σ σ1 σ2 : St} {H H0 H1 H3 H' G G' : Hp} {ρ ρ0 ρ1 ρ2 ρ' : Env} {o o0 o1 o2 o3 o' : Ownr} {P P1 P2 P' : Prot} {d d1 d2 d' : D} {v v1 v2 : V} {r : R} {a b p l : Addr} {u w u' : HO} {e ob : Expr} {es : List Expr} {f fk : Sem R} {En : Ends} {ds outs : List D} {vs : List V} {n m i j : Nat}
theorem join_eq (sep : List Nat) : ∀ ss : List (List Nat), Str.join ⟨sep.toArray⟩ (ss.map fun s => ⟨s.toArray⟩) = ⟨(joinL sep ss).toArray⟩
  | [] => rfl
  | [s] => rfl
  | s :: t :: r => by
    show (⟨s.toArray⟩ : Str) ++ (⟨sep.toArray⟩ : Str) ++ Str.join ⟨sep.toArray⟩ ((t :: r).map fun s => ⟨s.toArray⟩) = ⟨(s ++ sep ++ joinL sep (t :: r)).toArray⟩
    rw [join_eq sep (t :: r), str_app, str_app]
def jn (sep : List Nat) (xs : List D) : Option R := (strsD xs).bind fun ss => if (ss.map List.length).sum + ss.length * sep.length ≤ 16777216 then some (.fz (.str (joinL sep ss))) else none
def joinV (sep : List Nat) : D → Option R
  | .lst xs => jn sep xs
  | .tup xs => jn sep xs
  | _ => none
def joS (f1 f2 : Sem R) : Sem R := fun ρ => bnd (f1 ρ) fun r1 ρ1 => match val ρ1 r1 with
  | some (.str sep) => bnd (f2 ρ1) fun r2 ρ2 => (val ρ2 r2).bind fun d2 => (joinV sep d2).map fun r => (.val r, ρ2)
  | _ => none
theorem join_len (ss : List (List Nat)) : ((ss.map fun s => (⟨s.toArray⟩ : Str)).map (·.length)).sum = (ss.map List.length).sum := by
  rw [List.map_map]
  exact congrArg List.sum (List.map_congr_left fun s _ => str_len s)
theorem pd_join {apos pos : Pos} {f1 f2 : Sem R} (k : Okc c X) (ho : PE X ob (tE c W f1)) (he : PE X e (tE c W f2)) (hs : starEach [e] X.env = [(false, eval e X.env)] := by rfl) (hbase : attributeBase ob "join" X.env (eval ob X.env) = eval ob X.env := by rfl) (hline : (apos.endLine == pos.line) = true := by rfl) :
    PE X (.Call (.Attribute ob "join" apos) [e] [] pos) (tE c W (joS f1 f2)) := by
  refine pe_of (pe_join ho he hs hbase hline) ?_
  rintro σ H Q ⟨ρ, o, P, hR, hP⟩
  refine seq1 base_R hR hP fun r1 ρ1 v1 H1 o1 P1 R1 G1 S1 M1 hP1 => ?_
  split at hP1
  · rename_i sep e1
    have q : v1 = .str ⟨sep.toArray⟩ := M1.read R1 e1
    subst q
    refine ⟨⟨_, rfl⟩, ?_⟩
    refine seq1 base_R R1 hP1 fun r2 ρ2 v2 H2 o2 P2 R2 G2 S2 M2 hP2 => ?_
    cases e2 : val ρ2 r2 with
    | none => rw [e2] at hP2; exact hP2.elim
    | some d2 =>
      rw [e2] at hP2
      have hP2 : Post c W RepR σ H2 o2 P2 ((joinV sep d2).map fun r => (.val r, ρ2)) Q := hP2
      have q2 := M2.read R2 e2
      have go : ∀ {xs : List D} {ys : List V} {a : Addr}, Reps c (hide H2 (All o2 P2)) xs ys → v2 = .ref a → (SqL X.K H2 a ys ∨ SqT X.K H2 a ys) → Post c W RepR σ H2 o2 P2 ((jn sep xs).map fun r => (.val r, ρ2)) Q →
          ∃ a p, ∃ ys : List Str, V.str ⟨sep.toArray⟩ = .str a ∧ [v2] = [V.ref p] ∧ (SqL X.K H2 p (ys.map V.str) ∨ SqT X.K H2 p (ys.map V.str)) ∧ (ys.map (·.length)).sum + ys.length * a.length ≤ 16777216 ∧ Q (.str (Txt.join a ys)) H2 := fun {xs ys a} hr ev hsq hP3 => by
        unfold jn at hP3
        cases es : strsD xs with
        | none => rw [es] at hP3; exact hP3.elim
        | some ss =>
          rw [es] at hP3
          by_cases hz : (ss.map List.length).sum + ss.length * sep.length ≤ 16777216
          · simp only [Option.bind_some, hz, if_true, Option.map_some] at hP3
            have ey := reps_strs es hr
            subst ev
            refine ⟨_, a, ss.map fun s => ⟨s.toArray⟩, rfl, rfl, by rw [← ey]; exact hsq, by rw [join_len, List.length_map, str_len]; exact hz, ?_⟩
            have ej : Txt.join ⟨sep.toArray⟩ (ss.map fun s => ⟨s.toArray⟩) = ⟨(joinL sep ss).toArray⟩ := by
              show Builtin.Str.glued _ _ = _
              rw [StrLaws.glued_eq_join, join_eq]
            rw [ej]
            exact hP3.res R2 (.inl ⟨rfl, by unfold Rep; rfl⟩)
          · simp only [Option.bind_some, hz, if_false, Option.map_none] at hP3; exact hP3.elim
      cases d2 with
      | tup xs =>
        obtain ⟨a, ys, ev, h1, h2⟩ := rd_tup q2
        exact go h2 ev (.inr (.of h1)) hP2
      | lst xs =>
        obtain ⟨a, ys, ev, h1, h2⟩ := rd_lst q2
        exact go h2 ev (.inl (.of h1)) hP2
      | _ => exact hP2.elim
  · exact hP1.elim

/-! min, max of a list of data -/
def minX (x : D) (xs : List D) : D := xs.foldl (fun a y => if PySem.W.dataLt (py y) (py a) then y else a) x
def maxX (x : D) (xs : List D) : D := xs.foldl (fun a y => if PySem.W.dataLt (py a) (py y) then y else a) x
theorem min_py : ∀ (xs : List D) (x : D), py (minX x xs) = PySem.W.minD (py x) (xs.map py) ∧ minX x xs ∈ x :: xs
  | [], x => ⟨rfl, .head _⟩
  | y :: xs, x => by
    have e1 : minX x (y :: xs) = minX (if PySem.W.dataLt (py y) (py x) then y else x) xs := rfl
    have e2 : PySem.W.minD (py x) ((y :: xs).map py) = PySem.W.minD (if PySem.W.dataLt (py y) (py x) then py y else py x) (xs.map py) := rfl
    rw [e1, e2]
    by_cases h : PySem.W.dataLt (py y) (py x) = true
    · rw [if_pos h, if_pos h]
      obtain ⟨a1, a2⟩ := min_py xs y
      exact ⟨a1, .tail _ a2⟩
    · rw [if_neg h, if_neg h]
      obtain ⟨a1, a2⟩ := min_py xs x
      refine ⟨a1, ?_⟩
      rcases List.mem_cons.mp a2 with z | z
      · rw [z]; exact .head _
      · exact .tail _ (.tail _ z)
theorem max_py : ∀ (xs : List D) (x : D), py (maxX x xs) = PySem.W.maxD (py x) (xs.map py) ∧ maxX x xs ∈ x :: xs
  | [], x => ⟨rfl, .head _⟩
  | y :: xs, x => by
    have e1 : maxX x (y :: xs) = maxX (if PySem.W.dataLt (py x) (py y) then y else x) xs := rfl
    have e2 : PySem.W.maxD (py x) ((y :: xs).map py) = PySem.W.maxD (if PySem.W.dataLt (py x) (py y) then py y else py x) (xs.map py) := rfl
    rw [e1, e2]
    by_cases h : PySem.W.dataLt (py x) (py y) = true
    · rw [if_pos h, if_pos h]
      obtain ⟨a1, a2⟩ := max_py xs y
      exact ⟨a1, .tail _ a2⟩
    · rw [if_neg h, if_neg h]
      obtain ⟨a1, a2⟩ := max_py xs x
      refine ⟨a1, ?_⟩
      rcases List.mem_cons.mp a2 with z | z
      · rw [z]; exact .head _
      · exact .tail _ (.tail _ z)
mutual
theorem toPy_inj : ∀ (d e : D) (q : PyData), toPy d = some q → toPy e = some q → d = e
  | .non, e, q, h1, h2 => by unfold toPy at h1; cases h1; cases e <;> unfold toPy at h2 <;> first | rfl | (cases h2; done) | (obtain ⟨_, _, z⟩ := Option.map_eq_some_iff.mp h2; cases z)
  | .bl b, e, q, h1, h2 => by unfold toPy at h1; cases h1; cases e <;> unfold toPy at h2 <;> first | (cases h2; rfl) | (cases h2; done) | (obtain ⟨_, _, z⟩ := Option.map_eq_some_iff.mp h2; cases z)
  | .int b, e, q, h1, h2 => by unfold toPy at h1; cases h1; cases e <;> unfold toPy at h2 <;> first | (cases h2; rfl) | (cases h2; done) | (obtain ⟨_, _, z⟩ := Option.map_eq_some_iff.mp h2; cases z)
  | .str s, e, q, h1, h2 => by
    unfold toPy at h1; cases h1
    cases e <;> unfold toPy at h2 <;> first | (cases h2; done) | (obtain ⟨_, _, z⟩ := Option.map_eq_some_iff.mp h2; cases z; done) | skip
    rename_i t
    injection h2 with h2
    injection h2 with h2
    injection h2 with h2
    have := congrArg Array.toList h2
    simp at this
    rw [this]
  | .tup xs, e, q, h1, h2 => by
    unfold toPy at h1
    obtain ⟨ps, a1, rfl⟩ := Option.map_eq_some_iff.mp h1
    cases e <;> unfold toPy at h2 <;> first | (cases h2; done) | skip
    · rename_i ys
      obtain ⟨qs, a2, z⟩ := Option.map_eq_some_iff.mp h2
      injection z with z
      subst z
      rw [toPys_inj xs ys qs a1 a2]
    · obtain ⟨_, _, z⟩ := Option.map_eq_some_iff.mp h2; cases z
  | .lst xs, e, q, h1, h2 => by
    unfold toPy at h1
    obtain ⟨ps, a1, rfl⟩ := Option.map_eq_some_iff.mp h1
    cases e <;> unfold toPy at h2 <;> first | (cases h2; done) | skip
    · obtain ⟨_, _, z⟩ := Option.map_eq_some_iff.mp h2; cases z
    · rename_i ys
      obtain ⟨qs, a2, z⟩ := Option.map_eq_some_iff.mp h2
      injection z with z
      subst z
      rw [toPys_inj xs ys qs a1 a2]
  | .dic _ _ _, _, _, h1, _ => by unfold toPy at h1; cases h1
  | .obj _ _, _, _, h1, _ => by unfold toPy at h1; cases h1
  | .pool _ _ _, _, _, h1, _ => by unfold toPy at h1; cases h1
  | .scr _, _, _, h1, _ => by unfold toPy at h1; cases h1
  | .dls _ _ _, _, _, h1, _ => by unfold toPy at h1; cases h1
theorem toPys_inj : ∀ (ds es : List D) (q : List PyData), toPys ds = some q → toPys es = some q → ds = es
  | [], es, q, h1, h2 => by
    unfold toPys at h1; cases h1
    cases es with
    | nil => rfl
    | cons e es =>
      unfold toPys at h2
      cases e1 : toPy e with
      | none => rw [e1] at h2; cases h2
      | some p => rw [e1] at h2; obtain ⟨_, _, z⟩ := Option.map_eq_some_iff.mp (show (toPys es).map (fun ps => p :: ps) = some [] from h2); cases z
  | d :: ds, es, q, h1, h2 => by
    unfold toPys at h1
    cases a1 : toPy d with
    | none => rw [a1] at h1; cases h1
    | some p =>
      rw [a1] at h1
      obtain ⟨qs, a2, rfl⟩ := Option.map_eq_some_iff.mp (show (toPys ds).map (fun ps => p :: ps) = some q from h1)
      cases es with
      | nil => unfold toPys at h2; cases h2
      | cons e es =>
        unfold toPys at h2
        cases b1 : toPy e with
        | none => rw [b1] at h2; cases h2
        | some p' =>
          rw [b1] at h2
          obtain ⟨qs', b2, z⟩ := Option.map_eq_some_iff.mp (show (toPys es).map (fun ps => p' :: ps) = some (p :: qs) from h2)
          injection z with z1 z2
          subst z1 z2
          rw [toPy_inj d e p' a1 b1, toPys_inj ds es qs' a2 b2]
end
def mmOk (ps : List PyData) : Bool := ps.all (fun p => ps.all fun q => PySem.W.alike p q) && ps.all (fun p => match p with | .none => false | _ => true) && decide (PyData.depthAll ps ≤ 60)
theorem mmOk_iff {ps : List PyData} (h : mmOk ps = true) : PySem.W.AlikeAll ps ∧ PyData.depthAll ps ≤ 60 := by
  unfold mmOk at h
  rw [Bool.and_eq_true, Bool.and_eq_true, decide_eq_true_eq] at h
  refine ⟨⟨fun x hx y hy => List.all_eq_true.mp (List.all_eq_true.mp h.1.1 x hx) y hy, fun x hx e => ?_⟩, h.2⟩
  have := List.all_eq_true.mp h.1.2 x hx
  subst e
  cases this
def bestL (g : D → List D → D) (xs : List D) : Option R := match xs with
  | [] => none
  | x :: r => (toPys (x :: r)).bind fun ps => if mmOk ps then some (.fz (g x r)) else none
def min1 : D → Option R
  | .lst xs => bestL minX xs
  | _ => none
def max1 : D → Option R
  | .lst xs => bestL maxX xs
  | _ => none
/-- what min, max of a list ask -/
def rBest (c : Cc) (g : D → List D → D) : List V → Hp → VK → Prop := fun vs H Q => ∃ (a : Addr) (x : D) (xs : List D) (ys : List V) (ps : List PyData), vs = [V.ref a] ∧ H a = some (.lst ys) ∧ Reps c H (x :: xs) ys ∧ toPys (x :: xs) = some ps ∧ mmOk ps = true ∧ ∀ v d, (d, v) ∈ (x :: xs).zip ys → d = g x xs → Q v H
theorem zip_mem {xs : List D} {ys : List V} {i : Nat} {d : D} {v : V} (h1 : xs[i]? = some d) (h2 : ys[i]? = some v) : (d, v) ∈ xs.zip ys := by
  have : (xs.zip ys)[i]? = some (d, v) := by rw [List.getElem?_zip_eq_some]; exact ⟨h1, h2⟩
  exact List.mem_of_getElem? this
theorem call_best {g : D → List D → D} {mk : PyData → List PyData → PyData} {id : String} (hK : c.K = X.K) (hg : ∀ (xs : List D) (x : D), py (g x xs) = mk (py x) (xs.map py) ∧ g x xs ∈ x :: xs)
    (rule : ∀ {s : Shared} {l : Addr} {us : Array Value} {x : PyData} {xs : List PyData} {as : List Addr} {Q : Value → Shared → Prop}, X.A.handled = none → s.heap.IsList l us → ReadsAll s.heap us.toList (x :: xs) as → PySem.W.AlikeAll (x :: xs) → X.A.units + 1 + PyData.depthAll (x :: xs) < cLine →
      (∀ (i : Nat) v h' tk bs, us[i]? = some v → Reads h' v (mk x xs) bs → (∀ b o, s.heap.get? b = some o → h'.get? b = some o) → Q v { s with heap := h', toks := tk }) → wpAny (model X.prog X.w) X.A (call (.builtin id) [.ref l]) Q X.xe s)
    (hc : X.calm = true) (hu : X.A.units + 150 < cLine) : CallR X (.builtin id) (rBest c g) := by
  intro pins s σ H vs us Q I r h
  obtain ⟨a, x, xs, ys, ps, rfl, ha, hr, hp, hok, q⟩ := h
  rw [Vals.ref1 r]
  obtain ⟨its, rv, hl, hz⟩ := I.list (.of (K := X.K) ha)
  obtain ⟨k1, k2⟩ := mmOk_iff hok
  obtain ⟨e1, e2⟩ := toPys_map hp
  have hdp : DpAll X.K H ys ps := hK ▸ Reps.dp _ _ _ hr hp
  obtain ⟨as, hra⟩ := Dp.readsAll I ps ys its hdp rv
  rw [List.map_cons] at e1
  subst e1
  refine rule (I.ok.hd hc) hl.isList (by rw [List.toList_toArray]; exact hra) k1 (by omega) fun i u h' tk bs hi hrd hk => ?_
  have hi : its[i]? = some u := by rw [← hi]; simp
  -- the item that was told
  have hlen := rv.length
  have hil : i < ys.length := by
    have := (List.getElem?_eq_some_iff.mp hi).1
    omega
  obtain ⟨u2, hu2, ru⟩ := rv.get (List.getElem?_eq_getElem hil)
  rw [hi] at hu2; cases hu2
  obtain ⟨di, hdi, hrep⟩ := hr.getV (List.getElem?_eq_getElem hil)
  have hm : di ∈ x :: xs := List.mem_of_getElem? hdi
  have hpd := e2 di hm
  have I2 : Inv X pins σ H { s with heap := h' } := I.kept (t' := s.toks) hk
  obtain ⟨bs2, hrd2⟩ := Dp.reads I (py di) ys[i] u (hK ▸ Rep.dp di _ _ hrep hpd) ru
  have hrd3 := PyProof.Rows.Reads.keeps hk hrd2
  obtain ⟨g1, g2⟩ := hg xs x
  have hgp := e2 _ g2
  rw [g1] at hgp
  have hal : PySem.W.alike (py di) (mk (py x) (xs.map py)) = true := by
    refine k1.1 _ ?_ _ ?_
    · exact List.mem_map.mpr ⟨di, hm, rfl⟩
    · rw [← g1]; exact List.mem_map.mpr ⟨_, g2, rfl⟩
  have heq := PySem.W.alike_unique (py di) (mk (py x) (xs.map py)) u bs2 bs hal hrd3 hrd
  rw [← heq] at hgp
  have hdg : di = g x xs := toPy_inj di _ _ hpd hgp
  exact ⟨ys[i], H, I.kept (t' := tk) hk, ru, q ys[i] di (zip_mem hdi (List.getElem?_eq_getElem hil)) hdg⟩
theorem call_minA (hK : c.K = X.K) (hc : X.calm = true) (hu : X.A.units + 150 < cLine) : CallR X (.builtin "min") (rBest c minX) := call_best hK min_py (fun h1 h2 h3 h4 h5 h6 => PySem.W.min_list_data h1 h2 h3 h4 h5 h6) hc hu
theorem call_maxA (hK : c.K = X.K) (hc : X.calm = true) (hu : X.A.units + 150 < cLine) : CallR X (.builtin "max") (rBest c maxX) := call_best hK max_py (fun h1 h2 h3 h4 h5 h6 => PySem.W.max_list_data h1 h2 h3 h4 h5 h6) hc hu
theorem k_best {g : D → List D → D} (hg : ∀ (xs : List D) (x : D), g x xs ∈ x :: xs) : CalD c (rBest c g) (one fun d => match d with | .lst xs => bestL g xs | _ => none) := by
  refine CalD.one fun H G d v res Q hl h1 hg' hq => ?_
  cases d <;> first | (cases hg'; done) | skip
  rename_i xs
  have hg' : bestL g xs = some res := hg'
  cases xs with
  | nil => cases hg'
  | cons x r =>
    unfold bestL at hg'
    cases e : toPys (x :: r) with
    | none => simp only [e, Option.bind_none] at hg'; cases hg'
    | some ps =>
      simp only [e, Option.bind_some] at hg'
      by_cases hm : mmOk ps = true
      · rw [if_pos hm] at hg'; cases hg'
        obtain ⟨a, ys, rfl, h2, h3⟩ := rd_lst h1
        refine ⟨a, x, r, ys, ps, rfl, h2, Reps.mono hl.le _ _ h3, e, hm, fun v d hmem hd => hq _ _ (.inl ⟨rfl, ?_⟩)⟩
        obtain ⟨_, _, z3⟩ := zip_reps h3
        subst hd
        exact z3 _ hmem
      · rw [if_neg hm] at hg'; cases hg'
end
end Ly
set_option Elab.async false
set_option linter.all false
set_option maxRecDepth 100000
set_option maxHeartbeats 1000000
namespace Ly
open PySem L2
/-! ### 32. in a def's body -/
theorem okc_cx {c : Cc} {CX : CXT} {P : Program} {w : World} {K : PySem.W.Frag} {mg : Str → Option Value} {base : Heap} {N : List Str} {qual : Str} {scope : Scope} {f : Addr} {cd : Value} {A : Around} {outer : List PySem.Env} {s : Shared} {H : Hp} {E : XK} {k : Nat}
    (hK : c.K = K) (hr : Room k (A.deeper (PyProof.Rows.envOfC qual scope s.heap.objs.size f cd))) (nd : N.Nodup) : Okc c (cxOf CX P w K mg base N qual scope f cd A outer s H E) :=
  ⟨hK, by
    have h := hr.un
    have e : (cxOf CX P w K mg base N qual scope f cd A outer s H E).A.units = (A.deeper (PyProof.Rows.envOfC qual scope s.heap.objs.size f cd)).units := rfl
    rw [e]
    omega, rfl, nd⟩
theorem pd_glob {c : Cc} {W : WXX} {X : Cx} {x : Str} {v : V} {d : D} {pos : Pos} (hg : Gl X x) (h : ∃ u, X.mg x = some u ∧ L2.RelV v u) (ha : AtomV d v) (hd : (x == ("__debug__" : Str)) = false := by decide +kernel) : PE X (.Name x pos) (tE c W (conS d)) := by
  obtain ⟨u, h1, h2⟩ := h
  exact pd_con (pe_glob hg h1 h2 hd) ha
/-! isinstance of built-in types: the table -/
def tyN : D → String
  | .non => "NoneType"
  | .bl _ => "bool"
  | .int _ => "int"
  | .str _ => "str"
  | .tup _ => "tuple"
  | .lst _ => "list"
  | .dic _ _ _ => "dict"
  | _ => ""
def isiB (nc : Nat) (l : List String) (d : D) : Option Bool := match d with
  | .pool _ _ _ => none
  | .dls _ _ _ => none
  | .scr _ => none
  | .dic true _ _ => none
  | .obj k _ => if k < nc then some false else none
  | d => some (l.contains (tyN d) || (l.contains "int" && tyN d == "bool"))
/-- the own classes' objects are of no built-in type but object -/
structure Objs (c : Cc) (X : Cx) (nc : Nat) : Prop where
  ty : ∀ k, k < nc → ObjTy X (c.cls k)
  no : ∀ k, k < nc → ∀ T ∈ ["int", "bool", "str", "tuple", "list", "dict"], PySem.W.mroIn X.K (c.cls k) (.type T) = some false
theorem kit_obj {c : Cc} {X : Cx} {nc k : Nat} {T : String} (h : Objs c X nc) (hk : k < nc) (hT : T ∈ ["int", "bool", "str", "tuple", "list", "dict"]) : PySem.W.kitOne X.K (.ref (c.cls k)) (.type T) = some false := by
  have hm : PySem.W.kitMeta T = true := by
    simp only [List.mem_cons, List.not_mem_nil, or_false] at hT
    rcases hT with rfl | rfl | rfl | rfl | rfl | rfl <;> rfl
  unfold PySem.W.kitOne
  rw [if_neg (by intro z; cases z)]
  show (if PySem.W.kitMeta T = true then PySem.W.subIn X.K (.ref (c.cls k)) (.type T) else none) = _
  rw [if_pos hm]
  exact h.no k hk T hT
theorem isi_obj {c : Cc} {X : Cx} {nc : Nat} (h : Objs c X nc) : ∀ {l : List String}, (∀ T ∈ l, T ∈ ["int", "bool", "str", "tuple", "list", "dict"]) → ∀ k, k < nc → PySem.W.kitAny X.K (.ref (c.cls k)) (l.map .type) = some false
  | [], _, k, hk => rfl
  | T :: l, hl, k, hk => by
    show (match PySem.W.kitOne X.K (.ref (c.cls k)) (.type T) with
      | some true => some true
      | some false => PySem.W.kitAny X.K (.ref (c.cls k)) (l.map .type)
      | none => none) = _
    rw [kit_obj h hk (hl T (.head _))]
    exact isi_obj h (fun T hT => hl T (.tail _ hT)) k hk
theorem isi_tab {c : Cc} {X : Cx} {nc : Nat} {l : List String} (h : Objs c X nc) (hl : ∀ T ∈ l, T ∈ ["int", "bool", "str", "tuple", "list", "dict"])
    (hb : ∀ T ∈ ["NoneType", "bool", "int", "str", "tuple", "list", "dict"], PySem.W.kitAny X.K (.type T) (l.map .type) = some (l.contains T || (l.contains "int" && T == "bool"))) : IsisOk c X (l.map .type) (isiB nc l) := ⟨fun d b e => by
  cases d with
  | non => cases e; exact ⟨_, .non, hb "NoneType" (by simp)⟩
  | bl x => cases e; exact ⟨_, .bl x, hb "bool" (by simp)⟩
  | int x => cases e; exact ⟨_, .int x, hb "int" (by simp)⟩
  | str x => cases e; exact ⟨_, .str x, hb "str" (by simp)⟩
  | tup x => cases e; exact ⟨_, .tup x, hb "tuple" (by simp)⟩
  | lst x => cases e; exact ⟨_, .lst x, hb "list" (by simp)⟩
  | dic t x y =>
    cases t with
    | false => cases e; exact ⟨_, .dic x y, hb "dict" (by simp)⟩
    | true => cases e
  | obj k x =>
    have e : (if k < nc then some false else none) = some b := e
    by_cases hk : k < nc
    · rw [if_pos hk] at e; cases e
      exact ⟨_, .obj k x (h.ty k hk), isi_obj h hl k hk⟩
    · rw [if_neg hk] at e; cases e
  | pool _ _ _ => cases e
  | dls _ _ _ => cases e
  | scr _ => cases e⟩
theorem isi_one {c : Cc} {X : Cx} {u : Value} {tab : D → Option Bool} (h : IsisOk c X [u] tab) : IsiOk c X u tab := ⟨fun d b e => by
  obtain ⟨tv, t1, t2⟩ := h.run d b e
  refine ⟨tv, t1, ?_⟩
  have t2 : (match PySem.W.kitOne X.K tv u with
    | some true => some true
    | some false => some false
    | none => none) = some b := t2
  cases e1 : PySem.W.kitOne X.K tv u with
  | none => rw [e1] at t2; cases t2
  | some z => rw [e1] at t2; cases z <;> exact t2⟩
theorem tg_tupX {c : Cc} {X : Cx} {io : Nat → Bool} {n : Nat} {u : TGs} {h : List D → Ly.Env → Option Ly.Env} (k : Okc c X) (h2 : TgsOk c io u h) (hn : ∀ ds ρ ρ', h ds ρ = some ρ' → ds.length = n) : TgOk c io (gTup X.K n u) (tgTup h) := k.hK ▸ tg_tup h2 hn
theorem Okc.tr {c : Cc} {X : Cx} (k : Okc c X) (pn : List (Addr × Obj)) (xe : Value → Shared → Prop) : Okc c (X.tr pn xe) := ⟨k.hK, k.hu, k.calm, k.hN⟩
/-! a, b = x, y -/
def parS (i j : Nat) (g : Ly.Sem (List D)) : SemS := fun ρ => bndS (g ρ) fun ds ρ1 => match ds with
  | [d, e] => (tgName i d ρ1).bind fun ρ2 => (tgName j e ρ2).map fun ρ3 => (.nx, ρ3)
  | _ => none
theorem par_core {c : Cc} {W : WXX} {io : Nat → Bool} {i j : Nat} {g : Ly.Sem (List D)} {En : Ends} {σ : L2.St} {H : Hp} (hi : io i = false) (hj : io j = false) (h : tS c W io (parS i j g) En σ H) : tPar i j (tFs c W g) En σ H := by
  obtain ⟨ρ, o, P, hR, hP⟩ := h
  refine stm hR Grow.refl Step.refl hP fun ds ρ1 vs H1 o1 P1 R1 G1 S1 M1 hP1 => ?_
  have M1 : Reps c (hide H1 (All o1 P1)) ds vs := M1
  split at hP1
  · rename_i d e _
    obtain ⟨v, r, rfl, m1, m2⟩ := M1.cons_inv
    obtain ⟨w, r2, rfl, m3, m4⟩ := m2.cons_inv
    cases Reps.nil_iff.mp m4
    have R1' := R1.shrink G1.sub
    have lo : Le (hide H1 (All o1 P1)) (hide H1 (All o1 P)) := hide_mono fun a u e n => ⟨e, fun z => n (z.elim (fun z => .inl (G1.sub a z)) .inr)⟩
    cases e1 : tgName i d ρ1 with
    | none => rw [e1] at hP1; exact hP1.elim
    | some ρ2 =>
      cases e2 : tgName j e ρ2 with
      | none => simp only [e1, Option.bind_some, e2, Option.map_none] at hP1; exact hP1.elim
      | some ρ3 =>
        simp only [e1, Option.bind_some, e2, Option.map_some] at hP1
        refine ⟨v, w, rfl, ?_⟩
        have k1 := (tg_name (c := c) (i := i) hi).run σ H1 ρ1 o1 P d v ρ2 (fun σ' H' => gName j w σ' H' (fun σ2 H2 => En.nx σ2 H2)) R1' (Rep.mono lo _ _ m1) e1 fun σ2 o2 R2 S2 K2 => ?_
        · exact k1
        · exact (tg_name (c := c) (i := j) hj).run σ2 H1 ρ2 o2 P e w ρ3 _ R2 (Rep.mono (S2.hide fun a z => .inl z) _ _ (Rep.mono lo _ _ m3)) e2 fun σ3 o3 R3 S3 K3 => hP1 σ3 H1 o3 R3 ((S1.trans S2).trans S3) (K2.trans K3)
  · exact hP1.elim
theorem ds_par {c : Cc} {W : WXX} {io : Nat → Bool} {X : Cx} {i j : Nat} {g : Ly.Sem (List D)} {x y : Str} {a b : Expr} {px py pt pos : Pos} {kt k2 pt2} (k : Okc c X) (hio : io i = false) (hjo : io j = false) (hi : X.N[i]? = some x) (hj : X.N[j]? = some y) (hij : i ≠ j)
    (hx : X.env.scope.names.lookup x = some .local) (hy : X.env.scope.names.lookup y = some .local) (ha : PA X [a, b] (tFs c W g))
    (hw : swappedStores [.Tuple [.Name x px, .Name y py] kt pt] (.Tuple [a, b] k2 pt2) X.env = pure (some [x, y]))
    (hs : swapsWithSole [.Tuple [.Name x px, .Name y py] kt pt] (.Tuple [a, b] k2 pt2) pos.line X.env = pure false := by rfl) :
    PS X (.Assign [.Tuple [.Name x px, .Name y py] kt pt] (.Tuple [a, b] k2 pt2) pos) (tS c W io (parS i j g)) :=
  ps_of (ps_par k.calm k.hN hi hj hij hx hy ha hw hs) fun En σ H h => par_core hio hjo h
theorem mt_one {c : Cc} {K : PySem.W.Frag} {n : Nat} {cv : Value} (h : PySem.W.exmOne K (.ref (c.cls n)) cv = some true) : ∀ k b, (fun k => if k = n then some true else none) k = some b → PySem.W.exmOne K (.ref (c.cls k)) cv = some b := fun k b e => by
  have e : (if k = n then some true else none) = some b := e
  by_cases z : k = n
  · rw [if_pos z] at e; cases e; rw [z]; exact h
  · rw [if_neg z] at e; cases e
/-- a def that is never called so: the ground of a recursion -/
theorem ok_none {c : Cc} {io : Nat → Bool} {n : Nat} {P : Program} {w : World} {K : PySem.W.Frag} {mg : Str → Option Value} {base : Heap} {CX : CXT} {k : Nat} {f : Addr} {fd : FuncData} {ps : List Str} (hn : ps.length = n) : FnOk P w K mg base CX k f fd ps (spD c io n fun _ => none) :=
  ⟨spD_len hn, fun _ _ _ _ _ _ _ _ _ _ _ _ _ h => (by obtain ⟨_, _, _, _, _, z⟩ := h; exact z.elim)⟩
end Ly
set_option Elab.async false
set_option linter.all false
set_option maxRecDepth 100000
set_option maxHeartbeats 1000000
namespace Ly
open PySem L2
section
variable {c : Cc} {W : WXX} {io : Nat → Bool} {X : Cx} {σ : L2.St} {H H1 G : Hp} {e : Expr} {f : Ly.Sem R}
/-! ### 33. xs[::-1], -x, attributes of one class -/
def revD : D → Option R
  | .lst xs => some (.fr (.lst xs.reverse))
  | _ => none
theorem o_rev : UnD c (fun x H1 Q => ∃ a xs, x = .ref a ∧ SqL c.K H1 a xs ∧ ∀ p, H1 p = none → Q (.ref p) (upd H1 p (.lst xs.reverse))) revD := by
  intro H G d1 v1 r Q hl h1 hg hq
  cases d1 <;> first | (cases hg; done) | skip
  cases hg
  obtain ⟨a, ys, rfl, h2, h3⟩ := rd_lst h1
  exact ⟨a, ys, rfl, .of h2, res_lst h3.reverse hq⟩
theorem pd_revL {k : Nat} {p1 p2 p3 pos : Pos} (ko : Okc c X) (he : PE X e (tE c W f)) : PE X (.Subscript e (.Slice none none (some (.UnaryOp .USub (.Constant (.int 1) k p1) p2)) p3) pos) (tE c W (unS revD f)) :=
  pe_of (pe_revL he) fun σ H Q h => by
    have := un_core (r1 := fun x H1 Q => ∃ a xs, x = .ref a ∧ SqL c.K H1 a xs ∧ ∀ p, H1 p = none → Q (.ref p) (upd H1 p (.lst xs.reverse))) o_rev Q h
    rw [ko.hK] at this
    exact this
theorem attr_one {f : Str} {n j : Nat} {names : List Str} (hC : Cls X.K (c.cls n)) (hN : NoAttr X.K (c.cls n) f) (hn : c.nms n = names) (h1 : names[j]? = some f) (h2 : ∀ i, i < j → names[i]? ≠ some f) : AttrOk c X f (fun k => if k = n then some j else none) := ⟨fun k i e => by
  by_cases z : k = n
  · rw [if_pos z] at e; cases e
    subst z
    exact ⟨hC, hN, by rw [hn]; exact h1, fun l hl => by rw [hn]; exact h2 l hl⟩
  · rw [if_neg z] at e; cases e⟩
end
end Ly
set_option Elab.async false
set_option linter.all false
set_option maxRecDepth 100000
set_option maxHeartbeats 2000000
/-! ### 34. a dict comprehension over any kind of keys: u0 the empty dict's cell, st what a store does -/
namespace Ly
open PySem PySem.Spec PyProof.Rows L2
abbrev TStore := V → V → Addr → Hp → (Hp → Prop) → Prop
def StoreOk (X : Cx) (st : TStore) : Prop := ∀ (B : Cx), B.prog = X.prog → B.w = X.w → B.A = X.A → ∀ (pins : List (Addr × Obj)) (σ : L2.St) (H : Hp) (s : Shared) (D : Addr) (y z : V) (a b : Value) (Q : Hp → Prop) (E : Value → Shared → Prop), L2.Inv B pins σ H s → RelV y a → RelV z b → st y z D H Q →
  wpAny (model X.prog X.w) X.A (dictSet D a b) (fun _ s' => ∃ H', L2.Inv B pins σ H' s' ∧ Q H') E s
def tDcG (u0 : HO) (st : TStore) (wi : TI) (g : TG) (tt : TT) (tk tv : TE) (vs : List Nat) : TE := fun σ H Q => wi σ H fun J H1 => ∀ D, H1 D = none → ∃ Wv : Nat → Nat → Hp → Prop, (∃ m, Wv 0 m (upd H1 D u0)) ∧ ∀ i m H, Wv i m H →
  (J.stop i H ∧ Q (.ref D) H) ∨ (J.go i H ∧ ∃ Nx : Hp → Prop, (∀ H', Nx H' → ∃ m', m' < m ∧ Wv (i + 1) m' H') ∧ ∀ x H', J.yld i H x H' → g x (wipe σ vs) H' fun σ2 H2 => wipe σ2 vs = wipe σ vs ∧ tt σ2 H2 fun b H3 =>
    if b = true then tk σ2 H3 fun y H4 => tv σ2 H4 fun z H5 => st y z D H5 Nx else Nx H3)
section
variable {X : Cx} {kx vx tg iter : Expr} {ifs : List Expr} {scope : Scope} {own : List (Str × Nat)} {pos : Pos} {wi : TI} {g : TG} {tt : TT} {tk tv : TE} {u0 : HO} {st : TStore}
theorem pe_dcG (h0 : ∀ (P : Program) (w : World) (H : Hp) (h : Heap), sysModules < h.objs.size → ObjOk P w H (h.push { cls := .type "dict", data := .dict #[] }) h.objs.size u0) (hst : StoreOk X st) (hc : X.calm = true) (hN : X.N.Nodup) (hi : PI X tg iter wi) (ok : BlkOk X.N X.env.scope scope own)
    (hg : AllBlk X scope fun B => PG B tg g) (ht : AllBlk X scope fun B => PTs B ifs tt) (hk : AllBlk X scope fun B => PE B kx tk) (he : AllBlk X scope fun B => PE B vx tv) (hs : ∀ x, foldedSetIterable iter X.env x = pure x := by intro _; rfl) :
    PE X (.DictComp kx vx [⟨tg, iter, ifs, 0⟩] scope pos) (tDcG u0 st wi g tt tk tv (own.map (·.2))) := by
  refine ⟨fun pins s σ H Q I hw => ?_⟩
  rw [arm_eval_DictComp]
  have caught : ∀ y ∈ scope.names, y.2 = .free → ∃ c, X.env.cells.lookup y.1 = some c := fun y hy e => (ok.free y hy e).elim (fun k => I.ok.has _ (.inl k)) fun k => I.ok.has _ (.inr k)
  refine wpAny_comprehension_free rfl hs (closure_ok caught) ok.kind (fun y hy e => by rw [ok.uniq y hy, e]) (thn (hi.run pins s σ H _ I hw) fun xv sa ha => thn ha fun itv sb hb => ?_)
  obtain ⟨it, fp, tn, J, Hb, ev, Ib, Tn, tn0, fpo, want⟩ := hb
  subst ev
  refine wpAny_newObj_type (newEnv_comp ?_)
  -- the new dict stands at the heap's end
  obtain ⟨D, hD⟩ : ∃ D, D = sb.heap.objs.size := ⟨_, rfl⟩
  obtain ⟨Wv, ⟨m0, w0⟩, turn⟩ := want D (by rw [hD]; exact Ib.hok.fresh (Nat.le_refl _))
  rw [← hD]
  obtain ⟨sc, hsc⟩ : ∃ sc : Shared, sc = { sb with heap := sb.heap.push { cls := .type "dict", data := .dict #[] } } := ⟨_, rfl⟩
  have Ic : L2.Inv X pins σ (upd Hb D u0) sc := by
    rw [hsc]
    refine Ib.laid (t' := sb.toks) (fun b o e => Heap.get?_push_of_some _ e) (Nat.le_of_eq hD.symm) ?_
    rw [hD]
    exact h0 _ _ _ _ Ib.big
  have hhc : sc.heap = sb.heap.push { cls := .type "dict", data := .dict #[] } := by rw [hsc]
  have small : ∀ b ∈ fp, b < sb.heap.objs.size := fun b hb => let ⟨o, e, _⟩ := Tn.obj _ _ tn0 b hb; Heap.lt_size e
  have fpc : ∀ b ∈ fp, FpOk X pins (upd Hb D u0) b ∧ b < sc.heap.objs.size := fun b hb => by
    have lt := small b hb
    refine ⟨⟨?_, (fpo b hb).2⟩, by rw [hhc, Heap.size_push]; exact Nat.lt_succ_of_lt lt⟩
    rw [upd_ne (by rw [hD]; exact Nat.ne_of_lt lt)]
    exact (fpo b hb).1
  have tnc : tn 0 sc.heap := Tn.keep _ _ _ tn0 fun b _ o e => by rw [hhc]; exact Heap.get?_push_of_some _ e
  have Id := block_start Ic ok hN fpc
  have pg := hg sc (upd Hb D u0) sc.heap.objs.size (cellsFrom (sc.heap.objs.size + 1) scope.names (cloFrom X.env.cells scope.names [])) fp
  have pt := ht sc (upd Hb D u0) sc.heap.objs.size (cellsFrom (sc.heap.objs.size + 1) scope.names (cloFrom X.env.cells scope.names [])) fp
  have pk := hk sc (upd Hb D u0) sc.heap.objs.size (cellsFrom (sc.heap.objs.size + 1) scope.names (cloFrom X.env.cells scope.names [])) fp
  have pv := he sc (upd Hb D u0) sc.heap.objs.size (cellsFrom (sc.heap.objs.size + 1) scope.names (cloFrom X.env.cells scope.names [])) fp
  rw [← hsc]
  generalize hce : compEnvC scope (cellsFrom (sc.heap.objs.size + 1) scope.names (cloFrom X.env.cells scope.names [])) sc.heap.objs.size X.env = ce at Id pg pt pk pv
  have cL : ce.locals = sc.heap.objs.size := by subst hce; rfl
  have none0 : ∀ b ∈ fp, (upd Hb D u0) b = none := fun b hb => (fpc b hb).1.1
  generalize upd Hb D u0 = Hc at Ic Id pg pt pk pv w0 none0 fpc
  generalize hsd : ({ sc with heap := pushCells (sc.heap.push { cls := .type "dict", data := .dict #[] }) scope.names } : Shared) = sd at Id
  have tnd : tn 0 sd.heap := Tn.keep _ _ _ tnc fun b _ o e => by rw [← hsd]; exact pushCells_keeps _ _ _ _ (Heap.get?_push_of_some _ e)
  have still : ∀ {σ' : L2.St} {H' : Hp} {s' : Shared}, L2.Inv (X.blk sc Hc scope ce fp) [] σ' H' s' → (∀ b ∈ fp, H' b = none) → ∀ b ∈ fp, FpOk (X.blk sc Hc scope ce fp) [] H' b := fun {σ' H' s'} I' hn b hb =>
    ⟨hn b hb, (I'.ok.exf b hb).1, I'.ok.exfs b hb, .inl hb, fun x c e => (I'.ok.exf b hb).2 x c e, fun p hp => absurd (show p ∈ ([] : List (Addr × Obj)) ++ [] from hp) (by simp)⟩
  -- the end: back in the def's context
  have fin : ∀ {s' : Shared} {H' : Hp}, L2.Inv (X.blk sc Hc scope ce fp) [] (wipe σ (own.map (·.2))) H' s' → Q (.ref D) H' → compPost (model X.prog X.w) X.A X.xe none (EP X pins σ Q) (.ref D) sc.heap.objs.size (.ok .next) s' := fun {s' H'} I' q => by
    have I7 : L2.Inv X pins σ H' s' := Ic.call' (ch := fp) I'.os I'.base I'.hok I'.bare fun b hb => ⟨(fpc b hb).1.2.2.2.1, (fpc b hb).1.2.1, (fpc b hb).1.2.2.2.2.1, (fpc b hb).1.2.2.2.2.2⟩
    have nC : H' sc.heap.objs.size = none := by
      have z : H' ce.locals = none := I'.free
      rw [cL] at z
      exact z
    obtain ⟨m, hn, _⟩ := I'.loc
    have hn : s'.heap.Ns ce.locals m := hn
    rw [cL] at hn
    obtain ⟨f0, f1, f2, f3, f4, f5⟩ := Ic.fpOk (Nat.le_refl _) nC
    exact ⟨m, hn, fun h'' sb' => ⟨.ref D, H', I7.turned (t' := s'.toks) (fun b o hb e => (sb'.2 b hb).trans e) f0 f1 f3 f4 f5, rfl, q⟩⟩
  have loop : codeAny (model X.prog X.w) X.A (.compLoop (.DictComp kx vx [⟨tg, iter, ifs, 0⟩] scope pos) 0 (.ref it) (.ref D) ce) (compPost (model X.prog X.w) X.A X.xe none (EP X pins σ Q) (.ref D) sc.heap.objs.size) sd := by
    refine compLoop_anyD (fun n s' => ∃ i H', L2.Inv (X.blk sc Hc scope ce fp) [] (wipe σ (own.map (·.2))) H' s' ∧ tn i s'.heap ∧ (∀ b ∈ fp, H' b = none) ∧ Wv i n H') ?_ m0 ⟨0, Hc, Id, tnd, none0, w0⟩
    rintro n s5 ⟨i, H5, I5, t5, n5, w5⟩
    rcases turn i n H5 w5 with ⟨stop, qq⟩ | ⟨go, Nx, hNx, step⟩
    · refine thnF (Tn.done (X.blk sc Hc scope ce fp) rfl rfl rfl hc i [] s5 _ H5 (fun _ _ => False) I5 (still I5 n5) t5 stop) fun r s6 ⟨hr, I6⟩ => ?_
      subst hr
      exact fin I6 qq
    · refine thnF (Tn.item (X.blk sc Hc scope ce fp) rfl rfl rfl hc i [] s5 _ H5 (fun _ _ => False) I5 (still I5 n5) t5 go) fun r s6 ⟨u, hr, h6⟩ => ?_
      subst hr
      refine thnF h6 fun _ s7 ⟨x, H7, I7, r7, y7, t7, n7⟩ => ?_
      refine thnF (pg.run _ s7 _ H7 x u _ (I7.pinned (still I7 n7) (Tn.obj _ _ t7)) r7 (step x H7 y7)) fun _ s8 ⟨σ8, H8, I8, hw8, q8⟩ => ?_
      refine thnF (pt.run _ s8 σ8 H8 _ I8 q8) fun b s9 ⟨H9, I9, q9⟩ => ?_
      have next : ∀ {s' : Shared} {H' : Hp}, L2.Inv (X.blk sc Hc scope ce fp) ([] ++ pinsAt fp s7.heap) σ8 H' s' → Nx H' → ∃ m, m < n ∧ ∃ i H', L2.Inv (X.blk sc Hc scope ce fp) [] (wipe σ (own.map (·.2))) H' s' ∧ tn i s'.heap ∧ (∀ b ∈ fp, H' b = none) ∧ Wv i m H' := fun {s' H'} I' nx => by
        obtain ⟨m', hm, w'⟩ := hNx H' nx
        have kept : ∀ b ∈ fp, ∀ o, s7.heap.get? b = some o → s'.heap.get? b = some o ∧ H' b = none := fun b hb o e =>
          let z := I'.pin (b, o) (List.mem_append_right _ (List.mem_append_right _ (mem_pinsAt hb e)))
          ⟨z.1, z.2.1⟩
        refine ⟨m', hm, i + 1, H', (I'.unpinned (pins := [])).weak (by rw [← hw8, wipe_length]) (fun j v e => ?_), Tn.keep _ _ _ t7 fun b hb o e => (kept b hb o e).1, fun b hb => ?_, w'⟩
        · rw [← hw8] at e
          exact (wipe_some e).1
        · obtain ⟨o, e, _⟩ := Tn.obj _ _ t7 b hb
          exact (kept b hb o e).2
      cases b with
      | false =>
        simp only [Bool.false_eq_true, if_false] at q9 ⊢
        exact next I9 q9
      | true =>
        simp only [if_true] at q9 ⊢
        refine thnF (pk.run _ s9 σ8 H9 _ I9 q9) fun za sA ⟨yk, HA, IA, rA, qA⟩ => ?_
        refine thnF (pv.run _ sA σ8 HA _ IA qA) fun zb sB ⟨yv, HB, IB, rB, qB⟩ => ?_
        exact thnF (hst (X.blk sc Hc scope ce fp) rfl rfl rfl _ σ8 HB sB D yk yv za zb Nx (fun _ _ => False) IB rA rB qB) fun _ sC ⟨HC, IC, nC⟩ => next IC nC
  show codeAny _ _ (.compStart (.DictComp kx vx [⟨tg, iter, ifs, 0⟩] scope pos) 0 (.ref it) (.ref D) (compEnvC scope (cellsFrom (sc.heap.objs.size + 1) scope.names (cloFrom X.env.cells scope.names [])) sc.heap.objs.size X.env)) (compPost (model X.prog X.w) X.A X.xe none (EP X pins σ Q) (.ref D) sc.heap.objs.size) sd
  rw [hce]
  exact codeAny_compStart_dict loop (Tn.self X.A 0 _ _ _ tnd loop)
/-- the store of a dict with tuple keys -/
def stT : TStore := fun y z D H Q => ∃ (kvs : List (List Key × V)) (k : List Key) (b : Addr), y = .ref b ∧ H b = some (.tup (k.map kV)) ∧ H D = some (.dT kvs) ∧ kvs.length < sizeLine ∧ Q (upd H D (.dT (putK kvs k z)))
theorem store_T (hu : X.A.units + 1 < cLine) : StoreOk X stT := by
  intro B eP ew eA pins σ H s D y z a b Q E I ra rb ⟨kvs, k, p, ey, hp, hD, hz, q⟩
  subst ey
  cases (show a = Value.ref p from ra)
  obtain ⟨zl, hd, xs, rel, dd⟩ := dt_of I.hok hD
  have hzx : xs.length ≤ sizeLine := by rw [← Paired.length rel]; exact zl
  have hl : (putK kvs k z).length ≤ sizeLine := by have := length_putK kvs k z; omega
  have key := key_of I.hok hp
  rw [eP, ew] at dd key
  refine wpAny_dictSet_heap (hsz := hzx) (show X.A.units < cLine by omega) key dd fun h' dd' hs => ?_
  obtain ⟨o, es, ep, ho, g2, g3, g4, _, g5⟩ := dd'
  refine ⟨_, d_write (ob := .dT (putK kvs k z)) I (by rw [hD]; exact True.intro) hs ⟨o, ho⟩ ⟨hl, hd, _, (rel.put k hp rb).keeps fun c ys ec => ?_, o, es, ep, ho, g2, g3, ?_, g5⟩, q⟩
  · rw [upd_ne (ne_of ec hD (fun z => nomatch z))]
    exact ec
  · rw [eP, ew]; exact g4
end
end Ly
set_option Elab.async false
set_option linter.all false
set_option maxRecDepth 100000
set_option maxHeartbeats 1000000
namespace Ly
open PySem L2
section
variable {c : Cc} {W : WXX} {io : Nat → Bool} {X : Cx} {σ σ1 σ2 : St} {H H0 H1 H' G G' : Hp} {ρ ρ0 ρ1 ρ2 ρ' : Env} {o o0 o1 o2 o' : Ownr} {P P1 P2 P' : Prot} {d d1 d2 : D} {v v1 v2 : V} {r : R} {a b p : Addr} {u w : HO} {e : Expr} {f : Sem R} {t : Sem Bool} {En : Ends} {ds xs ys : List D} {vs : List Nat}
/-! dict comprehensions, tuple keys -/
def dcLoopT (g : D → Env → Option Env) (tt : Sem Bool) (fk f : Sem R) (vs : List Nat) : List D → List D × List D → Env → Option ((List D × List D) × Env)
  | [], acc, ρ => some (acc, ρ)
  | d :: ds, acc, ρ => (g d ρ).bind fun ρ1 => match tt ρ1 with
    | some (.val true, ρ2) => (match frzS fk ρ2 with
      | some (.val y, ρ3) => (match frzS f ρ3 with
        | some (.val x, ρ4) => (match dKey true y with
          | some q => if acc.1.length < 1000000 then dcLoopT g tt fk f vs ds (dput true acc.1 acc.2 q y x) (wipeE ρ4 vs) else none
          | none => none)
        | _ => none)
      | _ => none)
    | some (.val false, ρ2) => dcLoopT g tt fk f vs ds acc (wipeE ρ2 vs)
    | _ => none
def dcST (it : Sem (List D)) (g : D → Env → Option Env) (tt : Sem Bool) (fk f : Sem R) (vs : List Nat) : Sem R := fun ρ => bnd (it ρ) fun ds ρ1 =>
  if noOw ρ1 vs then (dcLoopT g tt fk f vs ds ([], []) (wipeE ρ1 vs)).map fun p => (.val (.fr (.dic true p.1.1 p.1.2)), backE ρ1 p.2 vs) else none
theorem dcT_loop {g : D → Env → Option Env} {tt : Sem Bool} {fk : Sem R} {t : TG} {J : It} {Hd : Hp → Prop} {Q : VK} {L : Addr} (ht : TgOk c (blkIo vs) t g) (hI : ItOk c J Hd ds) (h0 : Rel c σ H ρ o P) (hn : noOw ρ vs = true) (hL : H L = none) (hd : Hd (hide H (All o P)))
    (hP : Post c W RepR σ H o P ((dcLoopT g tt fk f vs ds ([], []) (wipeE ρ vs)).map fun p => (.val (.fr (.dic true p.1.1 p.1.2)), backE ρ p.2 vs)) Q) :
    ∃ Wv : Nat → Nat → Hp → Prop, (∃ m, Wv 0 m (upd H L (.dT []))) ∧ ∀ i m H, Wv i m H →
  (J.stop i H ∧ Q (.ref L) H) ∨ (J.go i H ∧ ∃ Nx : Hp → Prop, (∀ H', Nx H' → ∃ m', m' < m ∧ Wv (i + 1) m' H') ∧ ∀ x H', J.yld i H x H' → t x (wipe σ vs) H' fun σ2 H2 => wipe σ2 vs = wipe σ vs ∧ tT c WF tt σ2 H2 fun b H3 =>
    if b = true then tF c WF (frzS fk) σ2 H3 fun y H4 => tF c WF (frzS f) σ2 H4 fun z H5 => stT y z L H5 Nx else Nx H3) := by
  obtain ⟨R0, le0, G0, S0⟩ := h0.lay (u := .dT []) hL (fun _ => nofun)
  obtain ⟨Rw, Sw⟩ := R0.wipeG (vs := vs)
  let In : Nat → Hp → Prop := fun i H' => ∃ ρ' o' acc av, Rel c (wipe σ vs) H' ρ' o' (fun x => P x ∨ x = L) ∧ Step H o H' o' ∧ (∀ i ∈ vs, ∀ a, ¬ o' i a) ∧ Hd (hide H' (All o' fun x => P x ∨ x = L)) ∧ H' L = some (.dT av) ∧ acc.1 = av.map (fun p => .tup (p.1.map kD)) ∧ Reps c (hide H' (All o' fun x => P x ∨ x = L)) acc.2 (av.map (·.2)) ∧
    Post c W RepR σ H o P ((dcLoopT g tt fk f vs (ds.drop i) acc ρ').map fun p => (.val (.fr (.dic true p.1.1 p.1.2)), backE ρ p.2 vs)) Q
  refine ⟨fun i m H' => i + m = ds.length ∧ In i H', ⟨ds.length, by omega, wipeE ρ vs, _, ([], []), [], Rw, S0.trans Sw, fun i hi a z => z.1 hi, ?_, upd_same, rfl, Reps.nil, by simpa using hP⟩, ?_⟩
  · exact hI.mono _ _ (Sw.hide fun a z => .inl z) (hI.mono _ _ le0 hd)
  rintro i m H2 ⟨him, ρ2, o2, acc, av, R2, S2, nv2, hd2, hL2, hak, hacc, hP2⟩
  have und := R2.und
  by_cases hi : i < ds.length
  · refine .inr ⟨hI.go _ _ i und hd2 hi, fun H' => (i + 1) + (m - 1) = ds.length ∧ In (i + 1) H', fun H' hq => ⟨m - 1, by omega, hq⟩, fun x H3 hy => ?_⟩
    have hdi : ds.drop i = ds[i] :: ds.drop (i + 1) := List.drop_eq_getElem_cons hi
    rw [hdi] at hP2
    obtain ⟨R3, S3, M3⟩ := resF R2 (hI.yld _ _ i x H3 ds[i] und hd2 (List.getElem?_eq_getElem hi) hy)
    have hd3 : Hd (hide H3 (All o2 fun x => P x ∨ x = L)) := hI.mono _ _ (S3.hide fun a z => .inl z) hd2
    have ha3 : Reps c (hide H3 (All o2 fun x => P x ∨ x = L)) acc.2 (av.map (·.2)) := Reps.mono (S3.hide fun a z => .inl z) _ _ hacc
    have nL2 : ∀ i, ¬ o2 i L := fun i z => R2.dP i L z (.inr rfl)
    have hL3 : H3 L = some (.dT av) := S3.keep L _ hL2 nL2
    unfold dcLoopT at hP2
    cases e1 : g ds[i] ρ2 with
    | none => simp only [e1, Option.bind_none, Option.map_none] at hP2; exact hP2.elim
    | some ρ3 =>
      simp only [e1, Option.bind_some] at hP2
      refine ht.run _ H3 ρ2 o2 _ _ x ρ3 _ R3 M3 e1 fun σ4 o4 R4 S4 K4 => ?_
      have hl4 : σ4.length = σ.length := by
        rw [R4.len, ht.len _ _ _ e1, ← R3.len, wipe_length]
      refine ⟨wipe_kept K4 hl4, ?_⟩
      have hd4 : Hd (hide H3 (All o4 fun x => P x ∨ x = L)) := hI.mono _ _ (S4.hide fun a z => .inl z) hd3
      have ha4 : Reps c (hide H3 (All o4 fun x => P x ∨ x = L)) acc.2 (av.map (·.2)) := Reps.mono (S4.hide fun a z => .inl z) _ _ ha3
      have S24 := (S2.trans S3).trans S4
      have nL4 : ∀ i, ¬ o4 i L := fun i z => R4.dP i L z (.inr rfl)
      have wk : wipe σ4 vs = wipe σ vs := wipe_kept K4 hl4
      have fin : ∀ {ρ5 o5 H5 acc2 av2}, Rel c σ4 H5 ρ5 o5 (fun x => P x ∨ x = L) → Step H o H5 o5 → Hd (hide H5 (All o5 fun x => P x ∨ x = L)) → H5 L = some (.dT av2) → acc2.1 = av2.map (fun p => .tup (p.1.map kD)) → Reps c (hide H5 (All o5 fun x => P x ∨ x = L)) acc2.2 (av2.map (·.2)) →
          Post c W RepR σ H o P ((dcLoopT g tt fk f vs (ds.drop (i + 1)) acc2 (wipeE ρ5 vs)).map fun p => (.val (.fr (.dic true p.1.1 p.1.2)), backE ρ p.2 vs)) Q → (i + 1) + (m - 1) = ds.length ∧ In (i + 1) H5 := fun {ρ5 o5 H5 acc2 av2} R5 S5 hd5 hL5 hk5 ha5 hP5 => by
        obtain ⟨Rw5, Sw5⟩ := R5.wipeG (vs := vs)
        rw [wk] at Rw5
        exact ⟨by omega, _, _, acc2, av2, Rw5, S5.trans Sw5, fun i hi a z => z.1 hi, hI.mono _ _ (Sw5.hide fun a z => .inl z) hd5, hL5, hk5, Reps.mono (Sw5.hide fun a z => .inl z) _ _ ha5, hP5⟩
      refine ⟨ρ3, o4, _, R4, ?_⟩
      cases e2 : tt ρ3 with
      | none => simp only [e2, Option.map_none] at hP2; exact hP2.elim
      | some q =>
        obtain ⟨q, ρ5⟩ := q
        cases q with
        | exc z => simp only [e2, Option.map_none] at hP2; exact hP2.elim
        | val bb =>
          intro b' H5 o5 P5 R5 G5 S5 M5
          have eb : bb = b' := M5
          subst eb
          have R5 := R5.shrink G5.sub
          have S25 := S24.trans S5
          have hd5 : Hd (hide H5 (All o5 fun x => P x ∨ x = L)) := hI.mono _ _ (S5.hide fun a z => .inl z) hd4
          have ha5 : Reps c (hide H5 (All o5 fun x => P x ∨ x = L)) acc.2 (av.map (·.2)) := Reps.mono (S5.hide fun a z => .inl z) _ _ ha4
          have hL5 : H5 L = some (.dT av) := S5.keep L _ hL3 nL4
          have nL5 : ∀ i, ¬ o5 i L := fun i z => R5.dP i L z (.inr rfl)
          cases bb with
          | false =>
            simp only [e2] at hP2
            exact fin R5 S25 hd5 hL5 hak ha5 hP2
          | true =>
            simp only [e2] at hP2
            show tF c WF (frzS fk) σ4 H5 _
            refine ⟨ρ5, o5, _, R5, ?_⟩
            cases e3 : frzS fk ρ5 with
            | none => simp only [e3, Option.map_none] at hP2; exact hP2.elim
            | some q =>
              obtain ⟨q, ρ6⟩ := q
              cases q with
              | exc z => simp only [e3, Option.map_none] at hP2; exact hP2.elim
              | val yd =>
                simp only [e3] at hP2
                intro y H6 o6 P6 R6 G6 S6 M6
                have M6 : Rep c (hide H6 (All o6 P6)) yd y := M6
                have R6' := R6.shrink G6.sub
                have M6' : Rep c (hide H6 (All o6 fun x => P x ∨ x = L)) yd y := Rep.mono (hide_mono fun a u e n => ⟨e, fun z => n (z.elim (fun z => .inl (G6.sub a z)) .inr)⟩) _ _ M6
                have hL6 : H6 L = some (.dT av) := S6.keep L _ hL5 nL5
                have nL6 : ∀ i, ¬ o6 i L := fun i z => R6'.dP i L z (.inr rfl)
                have ha6 : Reps c (hide H6 (All o6 fun x => P x ∨ x = L)) acc.2 (av.map (·.2)) := Reps.mono (S6.hide fun a z => .inl z) _ _ ha5
                have hd6 : Hd (hide H6 (All o6 fun x => P x ∨ x = L)) := hI.mono _ _ (S6.hide fun a z => .inl z) hd5
                refine ⟨ρ6, o6, _, R6', ?_⟩
                cases e4 : frzS f ρ6 with
                | none => simp only [e4, Option.map_none] at hP2; exact hP2.elim
                | some q =>
                  obtain ⟨q, ρ7⟩ := q
                  cases q with
                  | exc z => simp only [e4, Option.map_none] at hP2; exact hP2.elim
                  | val xd =>
                    simp only [e4] at hP2
                    intro z H7 o7 P7 R7 G7 S7 M7
                    have M7 : Rep c (hide H7 (All o7 P7)) xd z := M7
                    have R7' := R7.shrink G7.sub
                    have M7' : Rep c (hide H7 (All o7 fun x => P x ∨ x = L)) xd z := Rep.mono (hide_mono fun a u e n => ⟨e, fun z => n (z.elim (fun z => .inl (G7.sub a z)) .inr)⟩) _ _ M7
                    have hL7 : H7 L = some (.dT av) := S7.keep L _ hL6 nL6
                    have ha7 : Reps c (hide H7 (All o7 fun x => P x ∨ x = L)) acc.2 (av.map (·.2)) := Reps.mono (S7.hide fun a z => .inl z) _ _ ha6
                    have hd7 : Hd (hide H7 (All o7 fun x => P x ∨ x = L)) := hI.mono _ _ (S7.hide fun a z => .inl z) hd6
                    cases ek : dKey true yd with
                    | none => simp only [ek, Option.map_none] at hP2; exact hP2.elim
                    | some key =>
                      simp only [ek] at hP2
                      by_cases hlen : acc.1.length < 1000000
                      · rw [if_pos hlen] at hP2
                        have hav : av.length < sizeLine := by
                          rw [hak, List.length_map] at hlen; exact m_lt hlen
                        obtain ⟨yx, rfl⟩ : ∃ yx, yd = .tup yx := by cases yd <;> first | (cases ek; done) | exact ⟨_, rfl⟩
                        obtain ⟨kk, ekk, rfl⟩ := Option.map_eq_some_iff.mp (show (kOfs yx).map DKey.t = some key from ek)
                        have eyd := map_kOfs ekk
                        subst eyd
                        obtain ⟨R8, le8⟩ := R7'.fill (p := L) (u := .dT (putK av kk z)) (.inr rfl) (fun _ => nofun)
                        obtain ⟨q1, q2⟩ := dput_t kk ha7 M7'
                        obtain ⟨bb, zs, rfl, m1, m2⟩ := rep_tup (Rep.mono (S7.hide fun a z => .inl z) _ _ M6')
                        have := reps_keys m2
                        subst this
                        refine ⟨av, kk, bb, rfl, (hide_some.mp m1).1, hL7, hav, fin R8 (((S25.trans S6).trans S7).fill hL) (hI.mono _ _ le8 hd7) upd_same ?_ ?_ hP2⟩
                        · rw [hak]; exact q1
                        · rw [hak]; exact Reps.mono le8 _ _ q2
                      · rw [if_neg hlen] at hP2; exact hP2.elim
  · have hl : i = ds.length := by omega
    subst hl
    refine .inl ⟨hI.stop _ _ und hd2, ?_⟩
    rw [List.drop_length] at hP2
    have R3 := h0.backG hn R2 (P1 := fun x => P x ∨ x = L) ⟨fun _ z => .inl z, fun b z => z.elim .inl fun z => .inr (z ▸ hL)⟩ S2 nv2
    refine hP2 (.ref L) H2 o2 (fun x => P x ∨ x = L) R3 ⟨fun _ z => .inl z, fun b z => z.elim .inl fun z => .inr (z ▸ hL)⟩ S2 ⟨L, fun x => x = L, rfl, cell_own hL2 ⟨hak, hacc⟩ (fun _ => nofun), fun x hx => ⟨.inr hx, fun q => ?_⟩⟩
    obtain ⟨w, q1, _⟩ := h0.prot x q
    rw [hx, hL] at q1; cases q1
theorem dcT_core' {it : Sem (List D)} {g : D → Env → Option Env} {tt : Sem Bool} {fk : Sem R} {t : TG} {Q : VK} (ht : TgOk c (blkIo vs) t g) (h : tE c W (dcST it g tt fk f vs) σ H Q) : tDcG (.dT []) stT (tI c W it) t (tT c WF tt) (tF c WF (frzS fk)) (tF c WF (frzS f)) vs σ H Q := by
  obtain ⟨ρ, o, P, hR, hP⟩ := h
  refine seq1 base_R hR hP fun ds ρ1 J H1 o1 P1 R1 G1 S1 M1 hP1 => ?_
  obtain ⟨Hd, hI, hd⟩ := M1
  intro L hL
  by_cases hn : noOw ρ1 vs = true
  · simp only [hn, if_true] at hP1
    exact dcT_loop ht hI R1 hn hL hd hP1
  · simp only [hn] at hP1; exact hP1.elim
/-- over the keys of a dict in a slot -/
theorem pd_dcTK {i : Nat} {x : Str} {kx vx tg : Expr} {ifs : List Expr} {scope : Scope} {own : List (Str × Nat)} {p pos : Pos} {g : D → Env → Option Env} {tt : Sem Bool} {fk : Sem R} {t : TG} (k : Okc c X) (hN : X.N[i]? = some x) (hv : Vis X.env.scope x) (ok : BlkOk X.N X.env.scope scope own)
    (hg : AllBlk X scope fun B => PG B tg t) (ht : TgOk c (blkIo (own.map (·.2))) t g) (htt : AllBlk X scope fun B => PTs B ifs (tT c WF tt)) (hk : AllBlk X scope fun B => PE B kx (tE c WF fk)) (he : AllBlk X scope fun B => PE B vx (tE c WF f)) (hd : (x == ("__debug__" : Str)) = false := by decide +kernel) (hcd : (x == ("__classdict__" : Str)) = false := by decide +kernel)
    (hs : ∀ y, foldedSetIterable (.Name x p) X.env y = pure y := by intro _; rfl) : PE X (.DictComp kx vx [⟨tg, .Name x p, ifs, 0⟩] scope pos) (tE c W (dcST (keyIt i) g tt fk f (own.map (·.2)))) := by
  have h1 := pe_dcG (pos := pos) (u0 := .dT []) (st := stT) (fun P w H h hb => dt_empty h hb) (store_T (by have := k.hu; omega)) k.calm k.hN (keyIt_locked (pos := p) (tg := tg) hN hv hd hcd) ok hg htt (fun s H C cl fp => fd_of (hk s H C cl fp)) (fun s H C cl fp => fd_of (he s H C cl fp)) hs
  have h2 := pe_lock h1
  refine ⟨fun pins s σ H Q I hw => ?_⟩
  obtain ⟨ρ, o, P, hR, hP⟩ := hw
  unfold dcST at hP
  rcases keyIt_val (ρ := ρ) (i := i) with e | ⟨ks, ρ1, e⟩
  · rw [e] at hP; exact hP.elim
  · rw [e] at hP
    obtain ⟨o1, kk, ws, a, u, R1, S1, hsl, hu, hrd, hna, hc⟩ := key_slot hR e
    by_cases hn : noOw ρ1 (own.map (·.2)) = true
    · simp only [bnd, hn, if_true] at hP
      have hP1 := Post.later (res := (dcLoopT g tt fk f (own.map (·.2)) ks ([], []) (wipeE ρ1 (own.map (·.2)))).map fun p => (.val (.fr (.dic true p.1.1 p.1.2)), backE ρ1 p.2 (own.map (·.2)))) base_R hP S1 (Grow.refl (P := P))
      rcases hrd with hH | ⟨ob, hH⟩
      · refine h2.run pins s σ H Q I ⟨a, u, hH, mut_dic hu, fun od => ?_⟩
        have rk : Relock u (.frz od u) := ⟨u, od, hu, .inl ⟨rfl, rfl⟩⟩
        have rk' : Relock (.frz od u) u := ⟨u, od, hu, .inr ⟨rfl, rfl⟩⟩
        have R2 := R1.relock hH hna rk
        have hno : ∀ i, ¬ o1 i a := fun i z => hna (.inr ⟨i, z⟩)
        refine keyIt_core R2 hsl hu upd_same hna (hc.monoR (rk.leR hH hna)) fun J Hd hI hd L hL => ?_
        refine dcT_loop (W := W) (g := g) (tt := tt) (fk := fk) (f := f) (Q := fun v H' => H' a = some (HO.frz od u) ∧ Q v (upd H' a u)) ht hI R2 hn hL hd ?_
        cases el : dcLoopT g tt fk f (own.map (·.2)) ks ([], []) (wipeE ρ1 (own.map (·.2))) with
        | none => rw [el] at hP1; exact hP1
        | some q =>
          rw [el] at hP1
          intro v H' o' P' R' G' S' M'
          obtain ⟨e1, S3⟩ := S'.relock hH hno
          have hna' : ¬ All o' P' a := fun z => by
            rcases z with z | ⟨j, z⟩
            · rcases G'.new a z with q | q
              · exact hna (.inl q)
              · rw [upd_same] at q; cases q
            · rcases S'.news j a z with q | q
              · exact hno j q
              · rw [upd_same] at q; cases q
          exact ⟨e1, hP1 v _ o' P' (R'.relock e1 hna' rk') (G'.relock hH) S3 (M'.relock R' e1 hna' rk')⟩
      · refine h1.run pins s σ H Q I (keyIt_core R1 hsl hu hH hna hc fun J Hd hI hd L hL => ?_)
        exact dcT_loop ht hI R1 hn hL hd hP1
    · simp only [bnd, hn] at hP; exact hP.elim
theorem pd_dcT {kx vx tg iter : Expr} {ifs : List Expr} {scope : Scope} {own : List (Str × Nat)} {pos : Pos} {it : Sem (List D)} {g : D → Env → Option Env} {tt : Sem Bool} {fk : Sem R} {t : TG} (k : Okc c X) (hi : PI X tg iter (tI c W it)) (ok : BlkOk X.N X.env.scope scope own)
    (hg : AllBlk X scope fun B => PG B tg t) (ht : TgOk c (blkIo (own.map (·.2))) t g) (htt : AllBlk X scope fun B => PTs B ifs (tT c WF tt)) (hk : AllBlk X scope fun B => PE B kx (tE c WF fk)) (he : AllBlk X scope fun B => PE B vx (tE c WF f)) (hs : ∀ x, foldedSetIterable iter X.env x = pure x := by intro _; rfl) :
    PE X (.DictComp kx vx [⟨tg, iter, ifs, 0⟩] scope pos) (tE c W (dcST it g tt fk f (own.map (·.2)))) :=
  pe_of (pe_dcG (u0 := .dT []) (st := stT) (fun P w H h hb => dt_empty h hb) (store_T (by have := k.hu; omega)) k.calm k.hN hi ok hg htt (fun s H C cl fp => fd_of (hk s H C cl fp)) (fun s H C cl fp => fd_of (he s H C cl fp)) hs) fun σ H Q h => dcT_core' ht h
end
end Ly
set_option Elab.async false
set_option linter.all false
set_option maxRecDepth 100000
set_option maxHeartbeats 1000000
namespace Ly
open PySem L2

/-! ### sorted of a dict -/
def leN (a b : List Nat) : Bool := !Spec.ltCps b a
def insN (a : List Nat) : List (List Nat) → List (List Nat)
  | [] => [a]
  | b :: r => if leN a b then a :: b :: r else b :: insN a r
def sortStrs : List (List Nat) → List (List Nat)
  | [] => []
  | a :: r => insN a (sortStrs r)
def insI (a : Int) : List Int → List Int
  | [] => [a]
  | b :: r => if a ≤ b then a :: b :: r else b :: insI a r
def sortInts : List Int → List Int
  | [] => []
  | a :: r => insI a (sortInts r)
def sortedK (ks : List D) : Option R := if ks.length < 64 then (match strsD ks with
  | some ss => some (.fr (.lst ((sortStrs ss).map .str)))
  | none => (intsD ks).map fun is => .fr (.lst ((sortInts is).map .int))) else none
def sorted2 : D → Option R
  | .lst xs => sortedL xs
  | .dic false ks _ => sortedK ks
  | _ => none
def sortedD2 : List D → Option R := one sorted2
theorem rising_pw : ∀ (l : List Str) (p : Str), PyProof.Rows.risingS p l = true → (p :: l).Pairwise fun a b => a.cps.toList ≤ b.cps.toList
  | [], p, _ => by simp
  | x :: r, p, h => by
    have h : (!Spec.ltCps x.cps.toList p.cps.toList && PyProof.Rows.risingS x r) = true := h
    rw [Bool.and_eq_true, PyProof.Rows.ltCps_eq, Bool.not_eq_true', decide_eq_false_iff_not] at h
    have h1 : p.cps.toList ≤ x.cps.toList := h.1
    have h2 := rising_pw r x h.2
    refine List.pairwise_cons.mpr ⟨fun y hy => ?_, h2⟩
    rcases List.mem_cons.mp hy with rfl | hy
    · exact h1
    · exact List.le_trans h1 ((List.pairwise_cons.mp h2).1 y hy)
theorem sorted_pw : ∀ {l : List Str}, PyProof.Rows.sortedS l = true → l.Pairwise fun a b => a.cps.toList ≤ b.cps.toList
  | [], _ => .nil
  | x :: r, h => rising_pw r x h
theorem leN_iff {a b : List Nat} : leN a b = true ↔ a ≤ b := by
  unfold leN
  rw [PyProof.Rows.ltCps_eq, Bool.not_eq_true', decide_eq_false_iff_not]
  exact Iff.rfl
theorem insN_perm (a : List Nat) : ∀ l, (insN a l).Perm (a :: l)
  | [] => .refl _
  | b :: r => by
    unfold insN
    split
    · exact .refl _
    · exact ((insN_perm a r).cons b).trans (.swap a b r)
theorem insN_pw (a : List Nat) : ∀ l : List (List Nat), l.Pairwise (· ≤ ·) → (insN a l).Pairwise (· ≤ ·)
  | [], _ => by unfold insN; simp
  | b :: r, h => by
    unfold insN
    obtain ⟨h1, h2⟩ := List.pairwise_cons.mp h
    split
    · rename_i q
      have q := leN_iff.mp q
      exact List.pairwise_cons.mpr ⟨fun y hy => (List.mem_cons.mp hy).elim (fun e => e ▸ q) fun hy => List.le_trans q (h1 y hy), h⟩
    · rename_i q
      have q : b ≤ a := (List.le_total a b).elim (fun z => (q (leN_iff.mpr z)).elim) id
      refine List.pairwise_cons.mpr ⟨fun y hy => ?_, insN_pw a r h2⟩
      rcases List.mem_cons.mp ((insN_perm a r).mem_iff.mp hy) with rfl | hy
      · exact q
      · exact h1 y hy
theorem sortStrs_perm : ∀ ss : List (List Nat), (sortStrs ss).Perm ss
  | [] => .refl _
  | a :: r => (insN_perm a _).trans ((sortStrs_perm r).cons a)
theorem sortStrs_pw : ∀ ss : List (List Nat), (sortStrs ss).Pairwise (· ≤ ·)
  | [] => .nil
  | a :: r => insN_pw a _ (sortStrs_pw r)
theorem insI_perm (a : Int) : ∀ l, (insI a l).Perm (a :: l)
  | [] => .refl _
  | b :: r => by
    unfold insI
    split
    · exact .refl _
    · exact ((insI_perm a r).cons b).trans (.swap a b r)
theorem insI_pw (a : Int) : ∀ l : List Int, l.Pairwise (· ≤ ·) → (insI a l).Pairwise (· ≤ ·)
  | [], _ => by unfold insI; simp
  | b :: r, h => by
    unfold insI
    obtain ⟨h1, h2⟩ := List.pairwise_cons.mp h
    split
    · rename_i q
      exact List.pairwise_cons.mpr ⟨fun y hy => (List.mem_cons.mp hy).elim (fun e => e ▸ q) fun hy => Int.le_trans q (h1 y hy), h⟩
    · rename_i q
      refine List.pairwise_cons.mpr ⟨fun y hy => ?_, insI_pw a r h2⟩
      rcases List.mem_cons.mp ((insI_perm a r).mem_iff.mp hy) with rfl | hy
      · omega
      · exact h1 y hy
theorem sortInts_perm : ∀ ss : List Int, (sortInts ss).Perm ss
  | [] => .refl _
  | a :: r => (insI_perm a _).trans ((sortInts_perm r).cons a)
theorem sortInts_pw : ∀ ss : List Int, (sortInts ss).Pairwise (· ≤ ·)
  | [] => .nil
  | a :: r => insI_pw a _ (sortInts_pw r)
theorem sortStrs_uniq {ss ys : List (List Nat)} (h : ys.Perm ss) (hp : ys.Pairwise (· ≤ ·)) : ys = sortStrs ss :=
  List.Perm.eq_of_pairwise (fun a b _ _ h1 h2 => List.le_antisymm h1 h2) hp (sortStrs_pw ss) (h.trans (sortStrs_perm ss).symm)
theorem sortInts_uniq {ss ys : List Int} (h : ys.Perm ss) (hp : ys.Pairwise (· ≤ ·)) : ys = sortInts ss :=
  List.Perm.eq_of_pairwise (fun a b _ _ h1 h2 => by omega) hp (sortInts_pw ss) (h.trans (sortInts_perm ss).symm)
theorem strsD_kOfs : ∀ {ds : List D} {ss : List (List Nat)}, strsD ds = some ss → kOfs ds = some (ss.map fun s => Sum.inr ⟨s.toArray⟩)
  | [], ss, e => by cases e; rfl
  | d :: ds, ss, e => by
    cases d <;> first | (cases e; done) | skip
    rename_i s
    obtain ⟨t, e2, rfl⟩ := Option.map_eq_some_iff.mp (show (strsD ds).map (fun ss => s :: ss) = some ss from e)
    show (kOf (.str s)).bind (fun k => (kOfs ds).map fun ks => k :: ks) = _
    rw [strsD_kOfs e2]
    rfl
theorem intsD_kOfs : ∀ {ds : List D} {ss : List Int}, intsD ds = some ss → kOfs ds = some (ss.map Sum.inl)
  | [], ss, e => by cases e; rfl
  | d :: ds, ss, e => by
    cases d <;> first | (cases e; done) | skip
    rename_i s
    obtain ⟨t, e2, rfl⟩ := Option.map_eq_some_iff.mp (show (intsD ds).map (fun ss => s :: ss) = some ss from e)
    show (kOf (.int s)).bind (fun k => (kOfs ds).map fun ks => k :: ks) = _
    rw [intsD_kOfs e2]
    rfl
abbrev rSortDS : List V → Hp → VK → Prop := fun xs H Q => ∃ (a : Addr) (kvs : List (Key × V)) (ks : List Str), xs = [.ref a] ∧ Rd H a (.dK kvs) ∧ kvs.map (·.1) = ks.map Sum.inr ∧ ks.length < 64 ∧
    ∀ ys p, ys.Perm ks → PyProof.Rows.sortedS ys = true → H p = none → Q (.ref p) (upd H p (.lst (ys.map V.str)))
abbrev rSortDI : List V → Hp → VK → Prop := fun xs H Q => ∃ (a : Addr) (kvs : List (Key × V)) (ks : List Int), xs = [.ref a] ∧ Rd H a (.dK kvs) ∧ kvs.map (·.1) = ks.map Sum.inl ∧ ks.length < 64 ∧
    ∀ (ys : List Int) (p : Addr), ys.Perm ks → ys.Pairwise (· ≤ ·) → H p = none → Q (.ref p) (upd H p (.lst (ys.map V.int)))
abbrev rSorted2 (c : Cc) : List V → Hp → VK → Prop := fun xs H Q => rSortedA c xs H Q ∨ rSortDS xs H Q ∨ rSortDI xs H Q
section
variable {c : Cc} {X : Cx} {G : Hp}
theorem call_sorted2 (hc : X.calm = true) (hu : X.A.units + 150 < cLine) (hK : c.K = X.K) : CallR X (.builtin "sorted") (rSorted2 c) := CallR.or (call_sortedA hu hK) (CallR.or (call_sortedD hc) (call_sortedDI hc))
theorem reps_str : ∀ ss : List (List Nat), Reps c G (ss.map D.str) (ss.map fun s => V.str ⟨s.toArray⟩)
  | [] => .nil
  | s :: ss => .cons (by unfold Rep; rfl) (reps_str ss)
theorem k_sorted2 : CalD c (rSorted2 c) sortedD2 := by
  refine CalD.one fun H G d v res Q hl h1 hg hq => ?_
  cases d <;> first | (cases hg; done) | skip
  · rename_i xs
    refine .inl (k_sorted H G [.lst xs] [v] res Q hl (.cons h1 .nil) hg hq)
  · rename_i t ks ws
    cases t with
    | true => cases hg
    | false =>
      have hg : sortedK ks = some res := hg
      obtain ⟨a, kvs, rfl, h2, e1, h3⟩ := rd_dicK h1
      unfold sortedK at hg
      by_cases hn : ks.length < 64
      · rw [if_pos hn] at hg
        have ek : kOfs ks = some (kvs.map (·.1)) := by
          rw [e1, ← kOfs_map (kvs.map (·.1)), List.map_map]
          rfl
        cases es : strsD ks with
        | some ss =>
          rw [es] at hg
          cases hg
          have e2 := strsD_kOfs es
          rw [ek] at e2
          have e2 := Option.some.inj e2
          have hlen : (ss.map fun s => (⟨s.toArray⟩ : Str)).length < 64 := by
            have := congrArg List.length e2
            rw [e1, List.length_map] at hn
            rw [List.length_map, List.length_map] at this
            rw [List.length_map]; omega
          refine .inr (.inl ⟨a, kvs, ss.map fun s => ⟨s.toArray⟩, rfl, h2, by rw [e2, List.map_map]; rfl, hlen, fun ys p hp hs hf => ?_⟩)
          have hu : ys.map (fun y => y.cps.toList) = sortStrs ss := by
            refine sortStrs_uniq ?_ (List.pairwise_map.mpr (sorted_pw hs))
            have := hp.map fun y => y.cps.toList
            rw [List.map_map] at this
            refine this.trans (List.Perm.of_eq ?_)
            conv => rhs; rw [← List.map_id ss]
            exact List.map_congr_left fun s _ => by simp
          refine res_lst (ds := (sortStrs ss).map D.str) ?_ hq p hf
          rw [← hu]
          have := reps_str (c := c) (G := G) (ys.map fun y => y.cps.toList)
          rw [List.map_map, List.map_map] at this
          rw [List.map_map]
          have e3 : (ys.map ((fun s : List Nat => V.str ⟨s.toArray⟩) ∘ fun y => y.cps.toList)) = ys.map V.str := List.map_congr_left fun y _ => by simp
          rw [e3] at this
          exact this
        | none =>
          rw [es] at hg
          obtain ⟨is, ei, rfl⟩ := Option.map_eq_some_iff.mp (show (intsD ks).map (fun is => R.fr (.lst ((sortInts is).map .int))) = some res from hg)
          have e2 := intsD_kOfs ei
          rw [ek] at e2
          have e2 := Option.some.inj e2
          have hlen : is.length < 64 := by
            have := congrArg List.length e2
            rw [e1, List.length_map] at hn
            rw [List.length_map, List.length_map] at this
            omega
          refine .inr (.inr ⟨a, kvs, is, rfl, h2, e2, hlen, fun ys p hp hs hf => ?_⟩)
          rw [sortInts_uniq hp hs]
          exact res_lst (reps_int _) hq p hf
      · rw [if_neg hn] at hg; cases hg
end
end Ly
set_option Elab.async false
set_option linter.all false
set_option maxRecDepth 100000
set_option maxHeartbeats 1000000
namespace Ly
open PySem L2

/-! ### the end of the file -/
def spLaw (K : PySem.W.Frag) : Sp := fun vs H Q _ => ∃ (a : Addr) (ns : List Int), vs = [.ref a] ∧ SqL K H a (ns.map V.int) ∧ ns.length ≤ 63 ∧ ∀ H', Q (.bl true) H'
/-- the law's function answers True at every script -/
def Yes (F : FS) : Prop := ∀ ns : List Int, ns.length ≤ 63 → ∃ outs, F [.scr ns] = some (.val (.fz (.bl true)), outs)
theorem law_sp {c : Cc} {F : FS} (hF : Yes F) : ∀ vs H Q E, spLaw c.K vs H Q E → spD c (fun _ => false) 1 F vs H Q E := by
  rintro vs H Q E ⟨a, ns, rfl, hs, hl, q⟩
  obtain ⟨outs, e⟩ := hF ns hl
  have hh : hide H (All (fun _ _ => False) fun _ => False) = H := by
    funext b
    unfold hide
    rw [if_neg]
    rintro (z | ⟨_, z⟩) <;> exact z
  refine ⟨rfl, [.scr ns], fun _ _ => False, fun _ => False, ⟨rfl, fun i => ?_, fun _ _ _ z => z.elim, fun _ _ z => z.elim, fun _ z => z.elim⟩, ?_⟩
  · rw [hh]
    match i with
    | 0 => exact ⟨fun _ z => z, _, rfl, (by unfold Rep; exact ⟨a, rfl, hs⟩)⟩
    | i + 1 => exact fun _ z => z
  · rw [e]
    refine ⟨rfl, fun v H' o' P' _ _ _ hM => ?_⟩
    have hM : Rep c (hide H' (All o' P')) (.bl true) v := hM
    unfold Rep at hM
    rw [hM]
    exact q H'
def excO (K : PySem.W.Frag) (C : Addr) (bm : List Value) (n : String) (o : Option Obj) : Bool := match o with
  | some ⟨.type "type", _, .cls cd, sl⟩ => (match cd.mro, sl.toList with
    | .ref C' :: bm', [_, _, _, _, some (.builtin n'), _] => C' == C && n' == n && !cd.hasDel && PySem.W.tailIn K bm bm' && PySem.W.nsOkIn K cd.ns && PySem.W.nsIn K cd.ns "__init__" == some none
    | _, _ => false)
  | _ => false
theorem excIn_of {K : PySem.W.Frag} {C : Addr} {bm : List Value} {n : String} {o : Obj} (l : K.lookup C = some o) (h : excO K C bm n (some o) = true) : PySem.W.excIn K C bm n = true := by
  rw [← l] at h
  exact h
/-- an error of the class at S is what «except S» names -/
theorem exm_own {K : PySem.W.Frag} {S : Addr} (h1 : PySem.W.subIn K (.ref S) (.type "BaseException") = some true) (h2 : PySem.W.isClsIn K S = true) (h3 : PySem.W.typeIn K (.ref S) = some (.type "type")) (h4 : PySem.W.subIn K (.ref S) (.ref S) = some true) :
    PySem.W.exmOne K (.ref S) (.ref S) = some true := by
  have e1 : (PySem.W.subIn K (.ref S) (.type "BaseException") == some true) = true := by rw [h1] <;> rfl
  have e2 : ((PySem.W.clsIn K S).isSome && PySem.W.typeIn K (.ref S) == some (.type "type")) = true := by
    have h2' : (PySem.W.clsIn K S).isSome = true := h2
    rw [h2', h3] <;> rfl
  show (if (PySem.W.subIn K (.ref S) (.type "BaseException") == some true) = true then (if ((PySem.W.clsIn K S).isSome && PySem.W.typeIn K (.ref S) == some (.type "type")) = true then PySem.W.subIn K (.ref S) (.ref S) else none) else none) = some true
  rw [if_pos e1, if_pos e2]
  exact h4
theorem walk_end {l : PySem.W.OpenLaw} {q : Program} {loose : List Str} {XP : (Str → Option Value) → Heap → Prop} {YP : World → Heap → Prop} {d : DefRec} {K : Params → PySem.W.Frag} {k : Nat} (hn : l.most = some 63) (hdf : d.params.defaults = []) (hr : Room k callerA)
    (hY : ∀ (w : World) (h : Heap), YP w h → (K w.params).In h)
    (F : ∀ (w : World) (mg : Str → Option Value) (fa : Addr) (h : Heap), (K w.params).In h → h.Ns mainGlobals mg → mg d.name = some (.ref fa) →
      ∃ fd : FuncData, (∀ (s : Shared) (u : Value), BindsTo s fd ⟨[u], []⟩ [("_law_script", u)]) ∧ ∀ base : Heap, (K w.params).In base → base.Ns mainGlobals mg → FnOk l.prog w (K w.params) mg base (L2.CX l.prog w) k fa fd ["_law_script"] (spLaw (K w.params))) :
    PySem.W.WalkO q loose XP YP l.row.toRowW d [] (fun f vs => PySem.call f vs) :=
  L2.walk_of (n := 63) (k := k) (x := "_law_script") (CX := fun w => L2.CX l.prog w) (sp := fun w => spLaw (K w.params)) hn (by decide) hdf hr hY F (fun _ _ a ns hl _ hS => ⟨a, ns, rfl, hS, hl, fun _ => rfl⟩)
    fun _ _ _ _ _ ⟨_, _, _, _, _, _, _, _, _, _, _, _, z⟩ => z
end Ly
set_option Elab.async false
set_option linter.all false
set_option maxRecDepth 100000
set_option maxHeartbeats 1000000
namespace Ly
open PySem L2

/-! ### reading the functions: what a run gives -/
inductive wp {α : Type} (m : Option (Out α × Env)) (Q : α → Env → Prop) : Prop
  | mk (a : α) (ρ : Env) (e : m = some (.val a, ρ)) (q : Q a ρ)
  | no (h : False)
inductive wps (m : Option (Fl × Env)) (Q : Fl → Env → Prop) : Prop
  | mk (a : Fl) (ρ : Env) (e : m = some (a, ρ)) (q : Q a ρ)
  | no (h : False)
inductive wpF (m : Option (Out R × List D)) (Q : R → List D → Prop) : Prop
  | mk (r : R) (outs : List D) (e : m = some (.val r, outs)) (q : Q r outs)
  | no (h : False)
theorem wp.out {α : Type} {m : Option (Out α × Env)} {Q : α → Env → Prop} (h : wp m Q) : ∃ a ρ, m = some (.val a, ρ) ∧ Q a ρ := by
  cases h with
  | mk a ρ e q => exact ⟨a, ρ, e, q⟩
  | no h => exact h.elim
theorem wps.out {m : Option (Fl × Env)} {Q : Fl → Env → Prop} (h : wps m Q) : ∃ a ρ, m = some (a, ρ) ∧ Q a ρ := by
  cases h with
  | mk a ρ e q => exact ⟨a, ρ, e, q⟩
  | no h => exact h.elim
theorem wpF.out {m : Option (Out R × List D)} {Q : R → List D → Prop} (h : wpF m Q) : ∃ r outs, m = some (.val r, outs) ∧ Q r outs := by
  cases h with
  | mk a ρ e q => exact ⟨a, ρ, e, q⟩
  | no h => exact h.elim
section
variable {α β : Type} {ρ : Env} {f g h fa fb fc : Sem R} {t u : Sem Bool} {xs : Sem (List R)} {ys : Sem (List D)} {as : Sem (List Ar)} {Q : R → Env → Prop} {QB : Bool → Env → Prop} {QL : List R → Env → Prop} {QD : List D → Env → Prop} {QA : List Ar → Env → Prop} {QS : Fl → Env → Prop} {i j n m : Nat} {d e : D} {s s2 : SemS} {F : FS} {io : Nat → Bool}
theorem wp_bnd {m : Option (Out α × Env)} {k : α → Env → Option (Out β × Env)} {Q : β → Env → Prop} (h : wp m fun a ρ1 => wp (k a ρ1) Q) : wp (bnd m k) Q := by
  obtain ⟨a, ρ1, e, h⟩ := h.out
  obtain ⟨b, ρ2, e2, q⟩ := h.out
  exact .mk b ρ2 (by rw [e]; exact e2) q
theorem wps_bnd {m : Option (Out α × Env)} {k : α → Env → Option (Fl × Env)} {Q : Fl → Env → Prop} (h : wp m fun a ρ1 => wps (k a ρ1) Q) : wps (bndS m k) Q := by
  obtain ⟨a, ρ1, e, h⟩ := h.out
  obtain ⟨b, ρ2, e2, q⟩ := h.out
  exact .mk b ρ2 (by rw [e]; exact e2) q
theorem wp_ret {a : α} {Q : α → Env → Prop} (h : Q a ρ) : wp (some (.val a, ρ)) Q := .mk a ρ rfl h
theorem wps_ret {a : Fl} (h : QS a ρ) : wps (some (a, ρ)) QS := .mk a ρ rfl h
theorem wp_imp {m : Option (Out α × Env)} {Q Q' : α → Env → Prop} (h : wp m Q) (k : ∀ a ρ, Q a ρ → Q' a ρ) : wp m Q' := by
  obtain ⟨a, ρ1, e, q⟩ := h.out
  exact .mk a ρ1 e (k _ _ q)
theorem wps_imp {m : Option (Fl × Env)} {Q Q' : Fl → Env → Prop} (h : wps m Q) (k : ∀ a ρ, Q a ρ → Q' a ρ) : wps m Q' := by
  obtain ⟨a, ρ1, e, q⟩ := h.out
  exact .mk a ρ1 e (k _ _ q)
theorem wpF_imp {m : Option (Out R × List D)} {Q Q' : R → List D → Prop} (h : wpF m Q) (k : ∀ a ρ, Q a ρ → Q' a ρ) : wpF m Q' := by
  obtain ⟨a, ρ1, e, q⟩ := h.out
  exact .mk a ρ1 e (k _ _ q)
theorem wp_map {β : Type} {m : Option β} {k : β → R} {Q : R → Env → Prop} {b : β} (e : m = some b) (h : Q (k b) ρ) : wp (m.map fun b => (Out.val (k b), ρ)) Q := by
  subst e
  exact (.mk _ _ rfl (h))
/-! expressions -/
theorem w_var {s : Slot} (e : ρ[i]? = some s) (hs : (match s with | .no => False | _ => True)) (h : Q (.sl i) ρ) : wp (varS i ρ) Q := by
  refine .mk (.sl i) ρ ?_ h
  unfold varS
  rw [e]
  cases s with
  | no => exact hs.elim
  | _ => rfl
theorem w_con (h : Q (.fz d) ρ) : wp (conS d ρ) Q := (.mk _ _ rfl (h))
theorem w_op1 {g : D → Option R} {r1 : R} {a : D} {r : R} (e1 : val ρ r1 = some a) (e2 : g a = some r) (h : Q r ρ) : wp (op1 g ρ r1) Q := by
  unfold op1
  rw [e1, Option.bind_some, e2]
  exact (.mk _ _ rfl (h))
theorem w_op2 {g : D → D → Option R} {r1 r2 : R} {a b : D} {r : R} (e1 : val ρ r1 = some a) (e2 : val ρ r2 = some b) (e3 : g a b = some r) (h : Q r ρ) : wp (op2 g ρ r1 r2) Q := by
  unfold op2
  rw [e1, Option.bind_some, e2, Option.bind_some, e3]
  exact (.mk _ _ rfl (h))
theorem w_un {g : D → Option R} (h : wp (f ρ) fun r ρ1 => ∃ a z, val ρ1 r = some a ∧ g a = some z ∧ Q z ρ1) : wp (unS g f ρ) Q :=
  wp_bnd (wp_imp h fun r ρ1 ⟨a, z, e1, e2, q⟩ => w_op1 e1 e2 q)
theorem w_bin {g : D → D → Option R} (h : wp (fa ρ) fun r1 ρ1 => wp (fb ρ1) fun r2 ρ2 => ∃ a b z, val ρ2 r1 = some a ∧ val ρ2 r2 = some b ∧ g a b = some z ∧ Q z ρ2) : wp (binS g fa fb ρ) Q :=
  wp_bnd (wp_imp h fun r ρ1 h => wp_bnd (wp_imp h fun r2 ρ2 ⟨a, b, z, e1, e2, e3, q⟩ => w_op2 e1 e2 e3 q))
theorem w_cmp {g : D → D → Option Bool} (h : wp (fa ρ) fun r1 ρ1 => wp (fb ρ1) fun r2 ρ2 => ∃ a b z, val ρ2 r1 = some a ∧ val ρ2 r2 = some b ∧ g a b = some z ∧ QB z ρ2) : wp (cmpT g fa fb ρ) QB :=
  wp_bnd (wp_imp h fun r ρ1 h => wp_bnd (wp_imp h fun r2 ρ2 ⟨a, b, z, e1, e2, e3, q⟩ => by
    unfold cop2
    rw [e1, Option.bind_some, e2, Option.bind_some, e3]
    exact (.mk _ _ rfl (q))))
theorem w_bool {g : D → D → Option Bool} (h : wp (fa ρ) fun r1 ρ1 => wp (fb ρ1) fun r2 ρ2 => ∃ a b z, val ρ2 r1 = some a ∧ val ρ2 r2 = some b ∧ g a b = some z ∧ Q (.fz (.bl z)) ρ2) : wp (binS (boolR g) fa fb ρ) Q :=
  w_bin (wp_imp h fun r ρ1 h => wp_imp h fun r2 ρ2 ⟨a, b, z, e1, e2, e3, q⟩ => ⟨a, b, _, e1, e2, by unfold boolR; rw [e3]; rfl, q⟩)
theorem w_andT (h : wp (t ρ) fun b ρ1 => (b = true → wp (u ρ1) QB) ∧ (b = false → QB false ρ1)) : wp (andT t u ρ) QB :=
  wp_bnd (wp_imp h fun b ρ1 ⟨h1, h2⟩ => by
    cases b with
    | true => exact h1 rfl
    | false => exact (.mk _ _ rfl (h2 rfl)))
theorem w_orT (h : wp (t ρ) fun b ρ1 => (b = true → QB true ρ1) ∧ (b = false → wp (u ρ1) QB)) : wp (orT t u ρ) QB :=
  wp_bnd (wp_imp h fun b ρ1 ⟨h1, h2⟩ => by
    cases b with
    | true => exact (.mk _ _ rfl (h1 rfl))
    | false => exact h2 rfl)
theorem w_notT (h : wp (t ρ) fun b ρ1 => QB (!b) ρ1) : wp (notT t ρ) QB := wp_bnd (wp_imp h fun b ρ1 q => (.mk _ _ rfl (q)))
theorem w_tst {g : D → Option Bool} (h : wp (f ρ) fun r ρ1 => ∃ a b, val ρ1 r = some a ∧ g a = some b ∧ QB b ρ1) : wp (tstT g f ρ) QB :=
  wp_bnd (wp_imp h fun r ρ1 ⟨a, b, e1, e2, q⟩ => by
    unfold cop1
    rw [e1, Option.bind_some, e2]
    exact (.mk _ _ rfl (q)))
theorem w_andV (h : wp (fa ρ) fun r ρ1 => ∃ b, val ρ1 r = some (.bl b) ∧ (b = true → wp (fb ρ1) Q) ∧ (b = false → Q (.fz (.bl false)) ρ1)) : wp (andV fa fb ρ) Q :=
  wp_bnd (wp_imp h fun r ρ1 ⟨b, e, h1, h2⟩ => by
    rw [e, Option.bind_some]
    cases b with
    | true => exact h1 rfl
    | false => exact (.mk _ _ rfl (h2 rfl)))
theorem w_orV (h : wp (fa ρ) fun r ρ1 => ∃ b, val ρ1 r = some (.bl b) ∧ (b = true → Q (.fz (.bl true)) ρ1) ∧ (b = false → wp (fb ρ1) Q)) : wp (orV fa fb ρ) Q :=
  wp_bnd (wp_imp h fun r ρ1 ⟨b, e, h1, h2⟩ => by
    rw [e, Option.bind_some]
    cases b with
    | true => exact (.mk _ _ rfl (h1 rfl))
    | false => exact h2 rfl)
theorem w_notV (h : wp (f ρ) fun r ρ1 => ∃ b, val ρ1 r = some (.bl b) ∧ Q (.fz (.bl (!b))) ρ1) : wp (notV f ρ) Q :=
  wp_bnd (wp_imp h fun r ρ1 ⟨b, e, q⟩ => by
    rw [e, Option.bind_some]
    exact (.mk _ _ rfl (q)))
theorem w_ifV (h : wp (t ρ) fun b ρ1 => (b = true → wp (fa ρ1) Q) ∧ (b = false → wp (fb ρ1) Q)) : wp (ifV t fa fb ρ) Q :=
  wp_bnd (wp_imp h fun b ρ1 ⟨h1, h2⟩ => by
    cases b with
    | true => exact h1 rfl
    | false => exact h2 rfl)
theorem w_chn {g g' : D → D → Option Bool} (h : wp (fa ρ) fun r1 ρ1 => wp (fb ρ1) fun r2 ρ2 => ∃ a b z, val ρ2 r1 = some a ∧ val ρ2 r2 = some b ∧ g a b = some z ∧ (z = true → wp (fc ρ2) fun r3 ρ4 => ∃ b' c z', val ρ4 r2 = some b' ∧ val ρ4 r3 = some c ∧ g' b' c = some z' ∧ QB z' ρ4) ∧ (z = false → QB false ρ2)) : wp (chnT g g' fa fb fc ρ) QB :=
  wp_bnd (wp_imp h fun r ρ1 h => wp_bnd (wp_imp h fun r2 ρ2 ⟨a, b, z, e1, e2, e3, h1, h2⟩ => by
    have e : cop2 g ρ2 r r2 = some (.val z, ρ2) := by
      unfold cop2
      rw [e1, Option.bind_some, e2, Option.bind_some, e3]
      rfl
    rw [e]
    show wp (if z = true then bnd (fc ρ2) fun r3 ρ4 => cop2 g' ρ4 r2 r3 else some (.val false, ρ2)) QB
    cases z with
    | true =>
      rw [if_pos rfl]
      exact wp_bnd (wp_imp (h1 rfl) fun r3 ρ4 ⟨b', c, z', x1, x2, x3, q⟩ => by
        unfold cop2
        rw [x1, Option.bind_some, x2, Option.bind_some, x3]
        exact (.mk _ _ rfl (q)))
    | false =>
      rw [if_neg Bool.false_ne_true]
      exact (.mk _ _ rfl (h2 rfl))))
theorem w_bol (h : wp (t ρ) fun b ρ1 => Q (.fz (.bl b)) ρ1) : wp (bolS t ρ) Q := wp_bnd (wp_imp h fun b ρ1 q => (.mk _ _ rfl (q)))
theorem w_isi {tab : D → Option Bool} (h : wp (f ρ) fun r ρ1 => ∃ d b, val ρ1 r = some d ∧ tab d = some b ∧ Q (.fz (.bl b)) ρ1) : wp (isiS tab f ρ) Q :=
  wp_bnd (wp_imp h fun r ρ1 ⟨d, b, e1, e2, q⟩ => by
    rw [e1, Option.bind_some, e2]
    exact (.mk _ _ rfl (q)))
theorem w_nilA (h : QL [] ρ) : wp (nilA ρ) QL := (.mk _ _ rfl (h))
theorem w_consA (h : wp (f ρ) fun r ρ1 => wp (xs ρ1) fun rs ρ2 => QL (r :: rs) ρ2) : wp (consA f xs ρ) QL :=
  wp_bnd (wp_imp h fun r ρ1 h => wp_bnd (wp_imp h fun rs ρ2 q => (.mk _ _ rfl (q))))
theorem w_cal {g : List D → Option R} (h : wp (xs ρ) fun rs ρ1 => ∃ ds z, valsR ρ1 rs = some ds ∧ g ds = some z ∧ Q z ρ1) : wp (calS g xs ρ) Q :=
  wp_bnd (wp_imp h fun rs ρ1 ⟨ds, z, e1, e2, q⟩ => by
    unfold calR
    rw [e1, Option.bind_some, e2]
    exact (.mk _ _ rfl (q)))
theorem w_frz {QF : D → Env → Prop} (h : wp (f ρ) fun r ρ1 => ∃ d ρ2, frz ρ1 r = some (d, ρ2) ∧ QF d ρ2) : wp (frzS f ρ) QF :=
  wp_bnd (wp_imp h fun r ρ1 ⟨d, ρ2, e, q⟩ => by
    rw [e]
    exact (.mk _ _ rfl (q)))
theorem w_nilF (h : QD [] ρ) : wp (nilF ρ) QD := (.mk _ _ rfl (h))
theorem w_consF (h : wp (f ρ) fun r ρ1 => ∃ d ρ2, frz ρ1 r = some (d, ρ2) ∧ wp (ys ρ2) fun ds ρ3 => QD (d :: ds) ρ3) : wp (consF f ys ρ) QD :=
  wp_bnd (w_frz (wp_imp h fun r ρ1 ⟨d, ρ2, e, h⟩ => ⟨d, ρ2, e, wp_bnd (wp_imp h fun ds ρ3 q => (.mk _ _ rfl (q)))⟩))
theorem w_tup (h : wp (ys ρ) fun ds ρ1 => ds.length ≤ 1000000 ∧ Q (.fz (.tup ds)) ρ1) : wp (tupS ys ρ) Q :=
  wp_bnd (wp_imp h fun ds ρ1 ⟨h1, q⟩ => by rw [if_pos h1]; exact (.mk _ _ rfl (q)))
theorem w_lst (h : wp (ys ρ) fun ds ρ1 => ds.length ≤ 1000000 ∧ Q (.fr (.lst ds)) ρ1) : wp (lstS ys ρ) Q :=
  wp_bnd (wp_imp h fun ds ρ1 ⟨h1, q⟩ => by rw [if_pos h1]; exact (.mk _ _ rfl (q)))
theorem w_newD {b : Bool} (h : Q (.fr (.dic b [] [])) ρ) : wp (newDS b ρ) Q := (.mk _ _ rfl (h))
theorem w_noPart {QO : Option Int → Env → Prop} (h : QO none ρ) : wp (noPart ρ) QO := (.mk _ _ rfl (h))
theorem w_part {QO : Option Int → Env → Prop} (h : wp (f ρ) fun r ρ1 => ∃ i, val ρ1 r = some (.int i) ∧ QO (some i) ρ1) : wp (partS f ρ) QO :=
  wp_bnd (wp_imp h fun r ρ1 ⟨i, e, q⟩ => by
    rw [e, Option.bind_some]
    exact (.mk _ _ rfl (q)))
theorem w_slice {lo hi : Sem (Option Int)} (h : wp (f ρ) fun r ρ1 => wp (lo ρ1) fun l ρ2 => wp (hi ρ2) fun u ρ3 => ∃ d z, val ρ3 r = some d ∧ slD d l u = some z ∧ Q z ρ3) : wp (sliceS f lo hi ρ) Q :=
  wp_bnd (wp_imp h fun r ρ1 h => wp_bnd (wp_imp h fun l ρ2 h => wp_bnd (wp_imp h fun u ρ3 ⟨d, z, e1, e2, q⟩ => by
    rw [e1, Option.bind_some, e2]
    exact (.mk _ _ rfl (q)))))
theorem w_mut {g : List D → List D → Option (List D × D)} (h0 : isLst ρ i = true) (h : wp (ys ρ) fun args ρ1 => ∃ ds ds' res, ρ1[i]? = some (.ow (.lst ds)) ∧ g ds args = some (ds', res) ∧ Q (.fz res) (ρ1.set i (.ow (.lst ds')))) : wp (mutS i g ys ρ) Q := by
  unfold mutS
  rw [if_pos h0]
  exact wp_bnd (wp_imp h fun args ρ1 ⟨ds, ds', res, e1, e2, q⟩ => by
    unfold mutR
    rw [e1]
    show wp ((g ds args).map fun p => (Out.val (R.fz p.2), ρ1.set i (.ow (.lst p.1)))) Q
    rw [e2]
    exact (.mk _ _ rfl (q)))
theorem w_join (h : wp (fa ρ) fun r1 ρ1 => ∃ sep, val ρ1 r1 = some (.str sep) ∧ wp (fb ρ1) fun r2 ρ2 => ∃ d z, val ρ2 r2 = some d ∧ joinV sep d = some z ∧ Q z ρ2) : wp (joS fa fb ρ) Q :=
  wp_bnd (wp_imp h fun r1 ρ1 ⟨sep, e, h⟩ => by
    rw [e]
    exact wp_bnd (wp_imp h fun r2 ρ2 ⟨d, z, e1, e2, q⟩ => by
      rw [e1, Option.bind_some, e2]
      exact (.mk _ _ rfl (q))))
theorem w_get {fd fk fx : Sem R} (h : wp (frzS fd ρ) fun d ρ1 => ∃ t ks ws, d = .dic t ks ws ∧ wp (frzS fk ρ1) fun y ρ2 => wp (frzS fx ρ2) fun z ρ3 => ∃ q, dKey t y = some q ∧ Q (.fz ((dget t ks ws q).getD z)) ρ3) : wp (getS fd fk fx ρ) Q :=
  wp_bnd (wp_imp h fun d ρ1 ⟨t, ks, ws, e, h⟩ => by
    subst e
    exact wp_bnd (wp_imp h fun y ρ2 h => wp_bnd (wp_imp h fun z ρ3 ⟨q, e, h⟩ => by
      rw [e]
      exact (.mk _ _ rfl (h)))))
/-! calls -/
theorem w_nilX (h : QA [] ρ) : wp (nilX ρ) QA := (.mk _ _ rfl (h))
theorem w_consX (h : wp (f ρ) fun r ρ1 => ∃ d ρ2, frz ρ1 r = some (d, ρ2) ∧ wp (as ρ2) fun ds ρ3 => QA (.val d :: ds) ρ3) : wp (consX f as ρ) QA :=
  wp_bnd (w_frz (wp_imp h fun r ρ1 ⟨d, ρ2, e, h⟩ => ⟨d, ρ2, e, wp_bnd (wp_imp h fun ds ρ3 q => (.mk _ _ rfl (q)))⟩))
theorem w_slotX (h0 : ρ[i]? = some (.ow d)) (h : wp (as ρ) fun ds ρ3 => QA (.slot i :: ds) ρ3) : wp (slotX i as ρ) QA := by
  unfold slotX
  rw [h0]
  exact wp_bnd (wp_imp h fun ds ρ3 q => (.mk _ _ rfl (q)))
theorem w_calR2 {xs : List Ar} {ds : List D} (e1 : argD ρ xs = some ds) (e2 : (maskOk io 0 xs && noDup (slotsOf xs) && decide (xs.length = n)) = true) (h : wpF (F ds) fun r outs => isSl r = false ∧ outs.length = xs.length ∧ Q r (setIo ρ xs outs)) : wp (calR2 io n F ρ xs) Q := by
  obtain ⟨r, outs, e, h1, h2, q⟩ := h.out
  unfold calR2
  rw [e1, Option.bind_some, if_pos e2, e]
  cases r with
  | sl i => cases h1
  | fz d => exact (.mk _ _ (if_pos h2) (q))
  | fr d => exact (.mk _ _ (if_pos h2) (q))
theorem w_call (h : wp (as ρ) fun xs ρ1 => ∃ ds, argD ρ1 xs = some ds ∧ (maskOk io 0 xs && noDup (slotsOf xs) && decide (xs.length = n)) = true ∧ wpF (F ds) fun r outs => isSl r = false ∧ outs.length = xs.length ∧ Q r (setIo ρ1 xs outs)) : wp (callS io n F as ρ) Q :=
  wp_bnd (wp_imp h fun xs ρ1 ⟨ds, e1, e2, q⟩ => w_calR2 e1 e2 q)
/-! statements -/
theorem ws_seq (h : wps (s ρ) fun a ρ1 => (a = .nx → wps (s2 ρ1) QS) ∧ (a ≠ .nx → QS a ρ1)) : wps (seqS s s2 ρ) QS := by
  obtain ⟨a, ρ1, e, h1, h2⟩ := h.out
  unfold seqS
  rw [e]
  cases a with
  | nx => exact h1 rfl
  | _ => exact (.mk _ _ rfl (h2 (by intro z; cases z)))
theorem ws_next (h : QS .nx ρ) : wps (nextS ρ) QS := (.mk _ _ rfl (h))
theorem ws_expr (h : wp (f ρ) fun _ ρ1 => QS .nx ρ1) : wps (exprS f ρ) QS := wps_bnd (wp_imp h fun r ρ1 q => (.mk _ _ rfl (q)))
theorem ws_retS (h : wp (f ρ) fun r ρ1 => QS (.ret r) ρ1) : wps (retS f ρ) QS := wps_bnd (wp_imp h fun r ρ1 q => (.mk _ _ rfl (q)))
theorem ws_ite (h : wp (t ρ) fun b ρ1 => (b = true → wps (s ρ1) QS) ∧ (b = false → wps (s2 ρ1) QS)) : wps (iteS t s s2 ρ) QS :=
  wps_bnd (wp_imp h fun b ρ1 ⟨h1, h2⟩ => by
    cases b with
    | true => exact h1 rfl
    | false => exact h2 rfl)
theorem ws_set (h : wp (f ρ) fun r ρ1 => ∃ ρ2, stoR i ρ1 r = some ρ2 ∧ QS .nx ρ2) : wps (setS i f ρ) QS :=
  wps_bnd (wp_imp h fun r ρ1 ⟨ρ2, e, q⟩ => by
    rw [e]
    exact (.mk _ _ rfl (q)))
theorem ws_par (h : wp (ys ρ) fun ds ρ1 => ∃ d e, ds = [d, e] ∧ i < ρ1.length ∧ j < ρ1.length ∧ QS .nx ((ρ1.set i (.fz d)).set j (.fz e))) : wps (parS i j ys ρ) QS :=
  wps_bnd (wp_imp h fun ds ρ1 ⟨d, e, h1, h2, h3, q⟩ => by
    subst h1
    show wps ((tgName i d ρ1).bind fun ρ2 => (tgName j e ρ2).map fun ρ3 => (.nx, ρ3)) QS
    unfold tgName
    rw [if_pos h2, Option.bind_some, if_pos (by simpa using h3)]
    exact (.mk _ _ rfl (q)))
theorem ws_put {fy : Sem R} (h : wp (f ρ) fun r ρ0 => ∃ d ρ1, frz ρ0 r = some (d, ρ1) ∧ ∃ o, ρ1[i]? = some (.ow o) ∧ wp (fy ρ1) fun r2 ρ2 => ∃ y ρ3, frz ρ2 r2 = some (y, ρ3) ∧ ∃ ρ4, putR i ρ3 d y = some ρ4 ∧ QS .nx ρ4) : wps (putS i fy f ρ) QS :=
  wps_bnd (w_frz (wp_imp h fun r ρ0 ⟨d, ρ1, e1, o, e2, h⟩ => ⟨d, ρ1, e1, by
    simp only [e2]
    exact wps_bnd (w_frz (wp_imp h fun r2 ρ2 ⟨y, ρ3, e3, ρ4, e4, q⟩ => ⟨y, ρ3, e3, by rw [e4]; exact (.mk _ _ rfl (q))⟩))⟩))
/-! loops: J of what is gone through and the names -/
theorem ws_loop {g : D → Env → Option Env} {all : List D} (J : List D → Env → Prop) (k : ∀ pre d suf ρ, all = pre ++ d :: suf → J pre ρ → ∃ ρ1, g d ρ = some ρ1 ∧ wps (s ρ1) fun a ρ2 => (a = .nx ∨ a = .ct) ∧ J (pre ++ [d]) ρ2) : ∀ (ds pre : List D) (ρ : Env), all = pre ++ ds → J pre ρ →
    ∃ ρ', loopS g s ds ρ = some (.nx, ρ') ∧ J all ρ'
  | [], pre, ρ, e, h => ⟨ρ, rfl, by rw [e]; simpa using h⟩
  | d :: ds, pre, ρ, e, h => by
    obtain ⟨ρ1, e1, hk⟩ := k pre d ds ρ e h
    obtain ⟨a, ρ2, e2, h1, h2⟩ := hk.out
    obtain ⟨ρ', e3, h3⟩ := ws_loop J k ds (pre ++ [d]) ρ2 (by rw [e]; simp) h2
    refine ⟨ρ', ?_, h3⟩
    unfold loopS
    simp only [e1, e2]
    rcases h1 with rfl | rfl
    · exact e3
    · exact e3
/-- a for loop that runs through -/
theorem ws_for {it : Sem (List D)} {g : D → Env → Option Env} (h : wp (it ρ) fun ds ρ1 => ∃ J : List D → Env → Prop, J [] ρ1 ∧ (∀ pre d suf ρ, ds = pre ++ d :: suf → J pre ρ → ∃ ρ1, g d ρ = some ρ1 ∧ wps (s ρ1) fun a ρ2 => (a = .nx ∨ a = .ct) ∧ J (pre ++ [d]) ρ2) ∧ ∀ ρ', J ds ρ' → QS .nx ρ') : wps (forS it g s ρ) QS :=
  wps_bnd (wp_imp h fun ds ρ1 ⟨J, h0, h1, h2⟩ => by
    obtain ⟨ρ', e, q⟩ := ws_loop (s := s) (g := g) J h1 ds [] ρ1 rfl h0
    exact .mk _ _ e (h2 ρ' q))
theorem w_tgName (h : i < ρ.length) : tgName i d ρ = some (ρ.set i (.fz d)) := if_pos h
theorem w_its (h : wp (f ρ) fun r ρ0 => ∃ d ρ1, frz ρ0 r = some (d, ρ1) ∧ ∃ ds, iterD d = some ds ∧ QD ds ρ1) : wp (itS f ρ) QD :=
  wp_bnd (w_frz (wp_imp h fun r ρ0 ⟨d, ρ1, e, ds, e2, q⟩ => ⟨d, ρ1, e, by rw [e2]; exact (.mk _ _ rfl (q))⟩))
theorem w_ita {g : List D → Option (List D)} (h : wp (ys ρ) fun ds ρ1 => ∃ z, g ds = some z ∧ QD z ρ1) : wp (itA g ys ρ) QD :=
  wp_bnd (wp_imp h fun ds ρ1 ⟨z, e, q⟩ => by rw [e]; exact (.mk _ _ rfl (q)))
structure S62 (j : Int) : Prop where
  lo : -4611686018427387904 ≤ j
  hi : j < 4611686018427387904
theorem S62.ok {j : Int} (h : S62 j) : small62 j = true := by
  unfold small62
  rw [Bool.and_eq_true, decide_eq_true_eq, decide_eq_true_eq]
  exact ⟨h.lo, h.hi⟩
theorem w_rng1 (h : wp (f ρ) fun r ρ1 => ∃ j, val ρ1 r = some (.int j) ∧ S62 j ∧ QD (rng 0 j) ρ1) : wp (rng1S f ρ) QD :=
  wp_bnd (wp_imp h fun r ρ1 ⟨j, e, h1, q⟩ => by
    rw [e, Option.bind_some]
    exact (.mk _ _ (if_pos h1.ok) (q)))
theorem w_rng2 (h : wp (f ρ) fun r ρ1 => wp (fb ρ1) fun r2 ρ2 => ∃ i j, val ρ2 r = some (.int i) ∧ val ρ2 r2 = some (.int j) ∧ S62 i ∧ S62 j ∧ QD (rng i j) ρ2) : wp (rng2S f fb ρ) QD :=
  wp_bnd (wp_imp h fun r ρ1 h => wp_bnd (wp_imp h fun r2 ρ2 ⟨i, j, e, e2, h1, h2, q⟩ => by
    rw [e, Option.bind_some, e2, Option.bind_some]
    exact .mk _ _ (if_pos (by rw [h1.ok, h2.ok]; rfl)) q))
/-! a comprehension: J of what is gone through, what is gathered, the names -/
theorem w_lcLoop {g : D → Env → Option Env} {vs : List Nat} {all : List D} (J : List D → List D → Env → Prop) (hl : ∀ pre acc ρ, J pre acc ρ → acc.length ≤ pre.length) (hn : all.length ≤ 1000000)
    (k : ∀ pre acc d suf ρ, all = pre ++ d :: suf → J pre acc ρ → ∃ ρ1, g d ρ = some ρ1 ∧ wp (t ρ1) fun b ρ2 => (b = true → wp (f ρ2) fun r ρ3 => ∃ x ρ4, frz ρ3 r = some (x, ρ4) ∧ J (pre ++ [d]) (acc ++ [x]) (wipeE ρ4 vs)) ∧ (b = false → J (pre ++ [d]) acc (wipeE ρ2 vs))) :
    ∀ (ds pre acc : List D) (ρ : Env), all = pre ++ ds → J pre acc ρ → ∃ acc' ρ', lcLoop g t f vs ds acc ρ = some (acc', ρ') ∧ J all acc' ρ'
  | [], pre, acc, ρ, e, h => ⟨acc, ρ, rfl, by rw [e]; simpa using h⟩
  | d :: ds, pre, acc, ρ, e, h => by
    obtain ⟨ρ1, e1, hk⟩ := k pre acc d ds ρ e h
    obtain ⟨b, ρ2, e2, h1, h2⟩ := hk.out
    have hl0 := hl _ _ _ h
    have he : all = (pre ++ [d]) ++ ds := by rw [e]; simp
    have hlen := congrArg List.length e
    rw [List.length_append, List.length_cons] at hlen
    cases b with
    | false =>
      obtain ⟨acc', ρ', e3, h3⟩ := w_lcLoop J hl hn k ds (pre ++ [d]) acc _ he (h2 rfl)
      refine ⟨acc', ρ', ?_, h3⟩
      unfold lcLoop
      rw [e1, Option.bind_some]
      simp only [e2]
      exact e3
    | true =>
      obtain ⟨r, ρ3, e3, x, ρ4, e4, h4⟩ := (h1 rfl).out
      obtain ⟨acc', ρ', e5, h5⟩ := w_lcLoop J hl hn k ds (pre ++ [d]) (acc ++ [x]) _ he h4
      refine ⟨acc', ρ', ?_, h5⟩
      have ef : frzS f ρ2 = some (.val x, ρ4) := by
        unfold frzS
        rw [e3]
        show (frz ρ3 r).map _ = _
        rw [e4]
        rfl
      unfold lcLoop
      rw [e1, Option.bind_some]
      simp only [e2, ef]
      rw [if_pos (by omega)]
      exact e5
theorem w_lc {it : Sem (List D)} {g : D → Env → Option Env} {vs : List Nat} (h : wp (it ρ) fun ds ρ1 => noOw ρ1 vs = true ∧ ds.length ≤ 1000000 ∧ ∃ J : List D → List D → Env → Prop, J [] [] (wipeE ρ1 vs) ∧ (∀ pre acc ρ, J pre acc ρ → acc.length ≤ pre.length) ∧
    (∀ pre acc d suf ρ, ds = pre ++ d :: suf → J pre acc ρ → ∃ ρ1, g d ρ = some ρ1 ∧ wp (t ρ1) fun b ρ2 => (b = true → wp (f ρ2) fun r ρ3 => ∃ x ρ4, frz ρ3 r = some (x, ρ4) ∧ J (pre ++ [d]) (acc ++ [x]) (wipeE ρ4 vs)) ∧ (b = false → J (pre ++ [d]) acc (wipeE ρ2 vs))) ∧
    ∀ acc ρ', J ds acc ρ' → Q (.fr (.lst acc)) (backE ρ1 ρ' vs)) : wp (lcS it g t f vs ρ) Q :=
  wp_bnd (wp_imp h fun ds ρ1 ⟨h1, hn, J, h0, hl, h2, h3⟩ => by
    rw [if_pos h1]
    obtain ⟨acc, ρ', e, q⟩ := w_lcLoop (t := t) (f := f) (g := g) (vs := vs) J hl hn h2 ds [] [] _ rfl h0
    rw [e]
    exact (.mk _ _ rfl (h3 acc ρ' q)))
/-- a comprehension that leaves the names alone: its items by a function -/
theorem w_lcPure {it : Sem (List D)} {g : D → Env → Option Env} {vs : List Nat} (p : D → Bool) (k : D → D) (h : wp (it ρ) fun ds ρ1 => noOw ρ1 vs = true ∧ ds.length ≤ 1000000 ∧
    (∀ d, d ∈ ds → ∃ ρ2, g d (wipeE ρ1 vs) = some ρ2 ∧ wp (t ρ2) fun b ρ3 => b = p d ∧ (b = true → wp (f ρ3) fun r ρ4 => ∃ ρ5, frz ρ4 r = some (k d, ρ5) ∧ wipeE ρ5 vs = wipeE ρ1 vs) ∧ (b = false → wipeE ρ3 vs = wipeE ρ1 vs)) ∧
    Q (.fr (.lst ((ds.filter p).map k))) (backE ρ1 (wipeE ρ1 vs) vs)) : wp (lcS it g t f vs ρ) Q :=
  w_lc (wp_imp h fun ds ρ1 ⟨h1, hn, h2, h3⟩ => ⟨h1, hn, fun pre acc ρ => acc = (pre.filter p).map k ∧ ρ = wipeE ρ1 vs, ⟨rfl, rfl⟩, fun pre acc ρ ⟨e, _⟩ => by rw [e, List.length_map]; exact List.length_filter_le _ _, fun pre acc d suf ρ ed ⟨e1, e2⟩ => by
    subst e1 e2
    obtain ⟨ρ2, x1, hk⟩ := h2 d (by rw [ed]; simp)
    obtain ⟨b, ρ3, x2, hb, x3, x4⟩ := hk.out
    refine ⟨ρ2, x1, .mk b ρ3 x2 ⟨fun hbt => ?_, fun hbf => ⟨?_, x4 hbf⟩⟩⟩
    · refine wp_imp (x3 hbt) fun r ρ4 ⟨ρ5, y1, y2⟩ => ⟨k d, ρ5, y1, ?_, y2⟩
      rw [List.filter_append, List.filter_cons, ← hb, hbt, if_pos rfl]
      simp
    · rw [List.filter_append, List.filter_cons, ← hb, hbf, if_neg Bool.false_ne_true]
      simp, fun acc ρ' ⟨e1, e2⟩ => by subst e1 e2; exact h3⟩)
/-! a function -/
theorem wF_fun {ds : List D} {Q : R → List D → Prop} (h : wps (s (argE io 0 ds ++ List.replicate (m - ds.length) .no)) fun a ρ => ∃ outs, outsE io ρ 0 ds = some outs ∧ (match a with
    | .nx => Q (.fz .non) outs
    | .ret r => ∃ z, outR io ds.length ρ r = some z ∧ Q z outs
    | _ => False)) : wpF (funS io m s ds) Q := by
  obtain ⟨a, ρ1, e, outs, e2, h⟩ := h.out
  unfold funS
  rw [e]
  cases a with
  | nx => exact .mk _ outs (by simp only [e2]; rfl) h
  | ret r =>
    obtain ⟨z, e3, q⟩ := h
    exact .mk z outs (by simp only [e2, Option.bind_some, e3]; rfl) q
  | _ => exact h.elim
end
end Ly
set_option Elab.async false
set_option linter.all false
set_option maxRecDepth 100000
set_option maxHeartbeats 1000000
namespace Ly
open PySem L2
section
variable {x y : Int} {a b : Bool} {s t : List Nat}
theorem eqB_int : eqB (.int x) (.int y) = some (decide (x = y)) := by
  show some (PyData.eqv (.int x) (.int y)) = _
  by_cases h : x = y <;> simp [PyData.eqv, h]
theorem neB_int : neB (.int x) (.int y) = some (decide (x ≠ y)) := by
  unfold neB; rw [eqB_int]; simp
theorem ltB_int : ltB (.int x) (.int y) = some (decide (x < y)) := by
  show (if cmpOk (.int x) (.int y) then some (PySem.W.dataLt (.int x) (.int y)) else none) = _
  rw [if_pos (by rfl), PySem.W.dataLt_int]
theorem gtB_int : gtB (.int x) (.int y) = some (decide (y < x)) := by
  show (if cmpOk (.int x) (.int y) then some (PySem.W.dataLt (.int y) (.int x)) else none) = _
  rw [if_pos (by rfl), PySem.W.dataLt_int]
theorem leB_int : leB (.int x) (.int y) = some (decide (x ≤ y)) := by
  show (if cmpOk (.int x) (.int y) then some (!PySem.W.dataLt (.int y) (.int x)) else none) = _
  rw [if_pos (by rfl), PySem.W.dataLt_int]
  by_cases h : x ≤ y
  · have : ¬ y < x := by omega
    simp [h, this]
  · have : y < x := by omega
    simp [h, this]
theorem geB_int : geB (.int x) (.int y) = some (decide (y ≤ x)) := by
  show (if cmpOk (.int x) (.int y) then some (!PySem.W.dataLt (.int x) (.int y)) else none) = _
  rw [if_pos (by rfl), PySem.W.dataLt_int]
  by_cases h : y ≤ x
  · have : ¬ x < y := by omega
    simp [h, this]
  · have : x < y := by omega
    simp [h, this]
def okS (s : List Nat) : Bool := PyData.strOk ⟨s.toArray⟩
theorem eqv_str : PyData.eqv (.str ⟨s.toArray⟩) (.str ⟨t.toArray⟩) = decide (s = t) := by
  show ((⟨s.toArray⟩ : Str) == (⟨t.toArray⟩ : Str)) = _
  by_cases h : s = t
  · subst h; simp
  · have : ¬ (⟨s.toArray⟩ : Str) = (⟨t.toArray⟩ : Str) := fun e => h (by injection e with e; simpa using congrArg Array.toList e)
    simp [h, this]
theorem shaped_str (hs : okS s = true) : SeqAt.shaped (.str ⟨s.toArray⟩) = true := by
  unfold SeqAt.shaped
  rw [show (PyData.str ⟨s.toArray⟩).canLay0 = true from hs]
  rfl
theorem eqB_str (hs : okS s = true) (ht : okS t = true) : eqB (.str s) (.str t) = some (decide (s = t)) := by
  show (if SeqAt.shaped (.str ⟨s.toArray⟩) && SeqAt.shaped (.str ⟨t.toArray⟩) then some (PyData.eqv (.str ⟨s.toArray⟩) (.str ⟨t.toArray⟩)) else none) = _
  rw [shaped_str hs, shaped_str ht, eqv_str]
  rfl
theorem eqB_bl : eqB (.bl a) (.bl b) = some (a == b) := rfl
theorem neB_bl : neB (.bl a) (.bl b) = some (!(a == b)) := rfl
theorem mul_small (h : -18446744073709551616 < x ∧ x < 18446744073709551616) : mulD (.int x) (.int y) = some (.fz (.int (x * y))) := by
  unfold mulD
  simp [h.1, h.2]
theorem mul_smallR (h : -18446744073709551616 < y ∧ y < 18446744073709551616) : mulD (.int x) (.int y) = some (.fz (.int (x * y))) := by
  unfold mulD
  simp [h.1, h.2]
theorem mod_pos (h : 0 < y) : modD (.int x) (.int y) = some (.fz (.int (x % y))) := by
  unfold modD
  simp [h]
theorem fd_pos (h : 0 < y ∧ y < 1073741824) : fdD (.int x) (.int y) = some (.fz (.int (x / y))) := by
  unfold fdD
  simp [h.1, h.2]
theorem ixN_nat {n : Nat} {i : Int} (h0 : 0 ≤ i) (h : i.toNat < n) : ixN n i = some i.toNat := by
  unfold ixN
  rw [if_pos h0, if_pos (by omega)]
theorem atI_nat {α : Type} {xs : List α} {i : Int} {z : α} (h0 : 0 ≤ i) (h : xs[i.toNat]? = some z) : atI xs i = some z := by
  unfold atI
  rw [ixN_nat h0 (List.getElem?_eq_some_iff.mp h).1]
  exact h
theorem ix_lst {xs : List D} {i : Int} {z : D} (h0 : 0 ≤ i) (h : xs[i.toNat]? = some z) : ixD (.lst xs) (.int i) = some (.fz z) := by
  show ((atI xs i).map R.fz).or _ = _
  rw [atI_nat h0 h]
  rfl
theorem ix_tup {xs : List D} {i : Int} {z : D} (h0 : 0 ≤ i) (h : xs[i.toNat]? = some z) : ixD (.tup xs) (.int i) = some (.fz z) := by
  show ((atI xs i).map R.fz).or _ = _
  rw [atI_nat h0 h]
  rfl
theorem ix_str {s : List Nat} {i : Int} {z : Nat} (hl : s.length ≤ 1000000) (h0 : 0 ≤ i) (h : s[i.toNat]? = some z) : ixD (.str s) (.int i) = some (.fz (.str [z])) := by
  show (if s.length ≤ 1000000 then (atI s i).map fun k => R.fz (.str [k]) else none).or _ = _
  rw [if_pos hl, atI_nat h0 h]
  rfl
end
theorem ws_cut {ρ : Env} {s s2 : SemS} {QS : Fl → Env → Prop} (J : Env → Prop) (h1 : wps (s ρ) fun a ρ1 => a = .nx ∧ J ρ1) (h2 : ∀ ρ1, J ρ1 → wps (s2 ρ1) QS) : wps (seqS s s2 ρ) QS :=
  ws_seq (wps_imp h1 fun a ρ1 ⟨e, j⟩ => ⟨fun _ => h2 ρ1 j, fun n => (n e).elim⟩)
theorem ws_whileN {t : Ly.Sem Bool} {s : SemS} {QS : Fl → Env → Prop} (J : Nat → Env → Prop) (k : ∀ n ρ, J n ρ → wp (t ρ) fun b ρ1 => (b = true → wps (s ρ1) fun a ρ2 => (a = .nx ∨ a = .ct) ∧ ∃ m, m < n ∧ J m ρ2) ∧ (b = false → QS .nx ρ1)) : ∀ (fuel n : Nat) (ρ : Env), n < fuel → J n ρ → wps (whileN t s fuel ρ) QS
  | 0, n, ρ, h, _ => absurd h (Nat.not_lt_zero _)
  | fuel + 1, n, ρ, h, hJ => by
    obtain ⟨b, ρ1, e, h1, h2⟩ := (k n ρ hJ).out
    show wps (bndS (t ρ) _) QS
    rw [e]
    show wps (if b = true then _ else _) QS
    cases b with
    | false => exact .mk _ _ rfl (h2 rfl)
    | true =>
      obtain ⟨a, ρ2, e2, ha, m, hm, hJ2⟩ := (h1 rfl).out
      rw [if_pos rfl, e2]
      have := ws_whileN J k fuel m ρ2 (by omega) hJ2
      rcases ha with rfl | rfl
      · exact this
      · exact this
theorem ws_while {ρ : Env} {t : Ly.Sem Bool} {s : SemS} {QS : Fl → Env → Prop} (J : Nat → Env → Prop) {n : Nat} (hn : n < 1000000000) (h0 : J n ρ) (k : ∀ n ρ, J n ρ → wp (t ρ) fun b ρ1 => (b = true → wps (s ρ1) fun a ρ2 => (a = .nx ∨ a = .ct) ∧ ∃ m, m < n ∧ J m ρ2) ∧ (b = false → QS .nx ρ1)) : wps (whileS t s ρ) QS :=
  ws_whileN J k _ n ρ hn h0
theorem popAt_nat {xs : List D} {z : Int} (h0 : 0 ≤ z) (h : z.toNat < xs.length) (hl : xs.length ≤ 1000000) : popAtD xs [.int z] = some (xs.eraseIdx z.toNat, xs[z.toNat]) := by
  show (if small62 z = true then (seqIndex? z xs.length).bind fun k => (xs[k]?).map fun d => (xs.eraseIdx k, d) else none) = _
  rw [if_pos (by unfold small62; rw [Bool.and_eq_true, decide_eq_true_eq, decide_eq_true_eq]; omega)]
  have e : seqIndex? z xs.length = some z.toNat := (ixN_seq (ixN_nat h0 h)).1
  rw [e, Option.bind_some, List.getElem?_eq_getElem h]
  rfl
theorem erase_perm {α : Type} : ∀ (l : List α) (i : Nat) (h : i < l.length), (l[i] :: l.eraseIdx i).Perm l
  | a :: l, 0, _ => .refl _
  | a :: l, i + 1, h => ((List.Perm.swap a _ _).trans ((erase_perm l i (by simpa using h)).cons a))
theorem w_dcLoop {tt : Ly.Sem Bool} {fk f : Ly.Sem R} {g : D → Env → Option Env} {vs : List Nat} {all : List D} (J : List D → List D × List D → Env → Prop) (hl : ∀ pre acc ρ, J pre acc ρ → acc.1.length ≤ pre.length) (hn : all.length ≤ 1000000)
    (k : ∀ pre acc d suf ρ, all = pre ++ d :: suf → J pre acc ρ → ∃ ρ1, g d ρ = some ρ1 ∧ wp (tt ρ1) fun b ρ2 => (b = true → wp (fk ρ2) fun r ρ3 => ∃ y ρ4, frz ρ3 r = some (y, ρ4) ∧ wp (f ρ4) fun r2 ρ5 => ∃ x ρ6, frz ρ5 r2 = some (x, ρ6) ∧ ∃ q, kOf y = some q ∧ J (pre ++ [d]) (dput false acc.1 acc.2 (.k q) y x) (wipeE ρ6 vs)) ∧ (b = false → J (pre ++ [d]) acc (wipeE ρ2 vs))) :
    ∀ (ds pre : List D) (acc : List D × List D) (ρ : Env), all = pre ++ ds → J pre acc ρ → ∃ acc' ρ', dcLoop g tt fk f vs ds acc ρ = some (acc', ρ') ∧ J all acc' ρ'
  | [], pre, acc, ρ, e, h => ⟨acc, ρ, rfl, by rw [e]; simpa using h⟩
  | d :: ds, pre, acc, ρ, e, h => by
    obtain ⟨ρ1, e1, hk⟩ := k pre acc d ds ρ e h
    obtain ⟨b, ρ2, e2, h1, h2⟩ := hk.out
    have hl0 := hl _ _ _ h
    have he : all = (pre ++ [d]) ++ ds := by rw [e]; simp
    have hlen := congrArg List.length e
    rw [List.length_append, List.length_cons] at hlen
    cases b with
    | false =>
      obtain ⟨acc', ρ', e3, h3⟩ := w_dcLoop J hl hn k ds (pre ++ [d]) acc _ he (h2 rfl)
      refine ⟨acc', ρ', ?_, h3⟩
      unfold dcLoop
      rw [e1, Option.bind_some]
      simp only [e2]
      exact e3
    | true =>
      obtain ⟨r, ρ3, e3, y, ρ4, e4, h1⟩ := (h1 rfl).out
      obtain ⟨r2, ρ5, e5, x, ρ6, e6, q, e7, h4⟩ := h1.out
      obtain ⟨acc', ρ', e8, h5⟩ := w_dcLoop J hl hn k ds (pre ++ [d]) _ _ he h4
      refine ⟨acc', ρ', ?_, h5⟩
      have ef : frzS fk ρ2 = some (.val y, ρ4) := by
        unfold frzS
        rw [e3]
        show (frz ρ3 r).map _ = _
        rw [e4]
        rfl
      have ef2 : frzS f ρ4 = some (.val x, ρ6) := by
        unfold frzS
        rw [e5]
        show (frz ρ5 r2).map _ = _
        rw [e6]
        rfl
      unfold dcLoop
      rw [e1, Option.bind_some]
      simp only [e2, ef, ef2, e7]
      rw [if_pos (by omega)]
      exact e8
theorem w_dc {ρ : Env} {Q : R → Env → Prop} {it : Ly.Sem (List D)} {tt : Ly.Sem Bool} {fk f : Ly.Sem R} {g : D → Env → Option Env} {vs : List Nat} (h : wp (it ρ) fun ds ρ1 => noOw ρ1 vs = true ∧ ds.length ≤ 1000000 ∧ ∃ J : List D → List D × List D → Env → Prop, J [] ([], []) (wipeE ρ1 vs) ∧ (∀ pre acc ρ, J pre acc ρ → acc.1.length ≤ pre.length) ∧
    (∀ pre acc d suf ρ, ds = pre ++ d :: suf → J pre acc ρ → ∃ ρ1, g d ρ = some ρ1 ∧ wp (tt ρ1) fun b ρ2 => (b = true → wp (fk ρ2) fun r ρ3 => ∃ y ρ4, frz ρ3 r = some (y, ρ4) ∧ wp (f ρ4) fun r2 ρ5 => ∃ x ρ6, frz ρ5 r2 = some (x, ρ6) ∧ ∃ q, kOf y = some q ∧ J (pre ++ [d]) (dput false acc.1 acc.2 (.k q) y x) (wipeE ρ6 vs)) ∧ (b = false → J (pre ++ [d]) acc (wipeE ρ2 vs))) ∧
    ∀ acc ρ', J ds acc ρ' → Q (.fr (.dic false acc.1 acc.2)) (backE ρ1 ρ' vs)) : wp (dcS it g tt fk f vs ρ) Q :=
  wp_bnd (wp_imp h fun ds ρ1 ⟨h1, hn, J, h0, hl, h2, h3⟩ => by
    rw [if_pos h1]
    obtain ⟨acc, ρ', e, q⟩ := w_dcLoop (tt := tt) (fk := fk) (f := f) (g := g) (vs := vs) J hl hn h2 ds [] _ _ rfl h0
    rw [e]
    exact .mk _ _ rfl (h3 acc ρ' q))
theorem ws_forK {ρ : Env} {QS : Fl → Env → Prop} {i : Nat} {g : D → Env → Option Env} {s : SemS} (h : ∃ t ks vs ρ1, frz ρ (.sl i) = some (.dic t ks vs, ρ1) ∧ ∃ J : List D → Env → Prop, J [] ρ1 ∧ (∀ pre d suf ρ, ks = pre ++ d :: suf → J pre ρ → ∃ ρ1, g d ρ = some ρ1 ∧ wps (s ρ1) fun a ρ2 => (a = .nx ∨ a = .ct) ∧ J (pre ++ [d]) ρ2) ∧ ∀ ρ', J ks ρ' → QS .nx ρ') : wps (forKS i g s ρ) QS := by
  obtain ⟨t, ks, vs, ρ1, e, J, h0, h1, h2⟩ := h
  obtain ⟨ρ', e2, q⟩ := ws_loop (s := s) (g := g) J h1 ks [] ρ1 rfl h0
  refine .mk .nx ρ' ?_ (h2 ρ' q)
  unfold forKS forS keyIt
  rw [e]
  show noExc (loopS g s ks ρ1) = _
  rw [e2]
  rfl
/-! dicts with texts as keys -/
theorem dKey_str (s t : List Nat) : (dKey false (.str s) = some (.k (.inr ⟨t.toArray⟩))) ↔ s = t := by
  show (some (DKey.k (.inr ⟨s.toArray⟩)) = some (DKey.k (.inr ⟨t.toArray⟩))) ↔ _
  constructor
  · intro h
    injection h with h
    injection h with h
    injection h with h
    injection h with h
    simpa using congrArg Array.toList h
  · rintro rfl
    rfl
theorem dhas_str (ss : List (List Nat)) (t : List Nat) : dhas false (ss.map .str) (.k (.inr ⟨t.toArray⟩)) = decide (t ∈ ss) := by
  unfold dhas
  induction ss with
  | nil => rfl
  | cons s ss ih =>
    rw [List.map_cons, List.any_cons, ih]
    by_cases h : s = t
    · have h3 := (dKey_str s t).mpr h
      rw [decide_eq_true h3]
      simp [h]
    · have h2 : ¬ t = s := fun e => h e.symm
      have h3 : ¬ dKey false (.str s) = some (.k (.inr ⟨t.toArray⟩)) := fun e => h ((dKey_str s t).mp e)
      rw [decide_eq_false h3]
      simp [h2]
theorem dget_str : ∀ (ss : List (List Nat)) (ws : List D) (t : List Nat), ws.length = ss.length → (dget false (ss.map .str) ws (.k (.inr ⟨t.toArray⟩))).isSome = decide (t ∈ ss)
  | [], ws, t, _ => by
    unfold dget
    simp
  | s :: ss, [], t, h => by simp at h
  | s :: ss, w :: ws, t, h => by
    show (if dKey false (.str s) = some (.k (.inr ⟨t.toArray⟩)) then some w else dget false (ss.map .str) ws (.k (.inr ⟨t.toArray⟩))).isSome = _
    by_cases e : s = t
    · rw [if_pos ((dKey_str s t).mpr e)]
      simp [e]
    · have e2 : ¬ t = s := fun z => e z.symm
      rw [if_neg fun z => e ((dKey_str s t).mp z), dget_str ss ws t (by simpa using h)]
      simp [e2]
theorem drep_len (t : Bool) (x : DKey) (z : D) : ∀ ks vs : List D, vs.length = ks.length → (drep t ks vs x z).length = ks.length
  | [], vs, _ => by unfold drep; rfl
  | k :: ks, [], h => by simp at h
  | k :: ks, v :: vs, h => by
    show (_ :: drep t ks vs x z).length = _
    rw [List.length_cons, List.length_cons, drep_len t x z ks vs (by simpa using h)]
theorem rng_at {i j : Int} {pre suf : List D} {d : D} (h : rng i j = pre ++ d :: suf) : d = .int (i + pre.length) ∧ pre.length < (j - i).toNat := by
  unfold rng at h
  have h1 := congrArg List.length h
  rw [List.length_map, List.length_range, List.length_append, List.length_cons] at h1
  have h2 := congrArg (fun l => l[pre.length]?) h
  simp only [List.getElem?_map] at h2
  rw [List.getElem?_range (by omega), List.getElem?_append_right (Nat.le_refl _), Nat.sub_self] at h2
  simp at h2
  exact ⟨h2.symm, by omega⟩
theorem rng_len {i j : Int} : (rng i j).length = (j - i).toNat := by unfold rng; rw [List.length_map, List.length_range]
theorem inB_dstr {ss : List (List Nat)} {ws : List D} {t : List Nat} (h : ws.length = ss.length) : inB (.str t) (.dic false (ss.map .str) ws) = some (decide (t ∈ ss)) := by
  show some ((dget false (ss.map .str) ws (.k (.inr ⟨t.toArray⟩))).isSome) = _
  rw [dget_str ss ws t h]
theorem sIx_no (n e : Nat) : HT.sIx n e none = e := rfl
theorem sIx_nat (n e : Nat) {i : Int} (h : 0 ≤ i) : HT.sIx n e (some i) = min i.toNat n := by
  unfold HT.sIx
  first
    | rfl
    | (simp only []; omega)
    | (show (if _ then _ else _) = _; split <;> omega)
    | (simp; omega)
theorem sl_strFrom {s : List Nat} {i : Int} (hl : s.length ≤ 1000000) (h : 0 ≤ i) : slD (.str s) (some i) none = some (.fz (.str (s.drop i.toNat))) := by
  show (if s.length ≤ 1000000 then some _ else none) = _
  rw [if_pos hl, sIx_no, sIx_nat _ _ h]
  congr 3
  by_cases h2 : i.toNat ≤ s.length
  · rw [Nat.min_eq_left h2, List.take_of_length_le (by simp)]
  · rw [Nat.min_eq_right (by omega), List.drop_of_length_le (Nat.le_refl _), List.drop_of_length_le (by omega)]
    simp
theorem sl_strTo {s : List Nat} {i : Int} (hl : s.length ≤ 1000000) (h : 0 ≤ i) : slD (.str s) none (some i) = some (.fz (.str (s.take i.toNat))) := by
  show (if s.length ≤ 1000000 then some _ else none) = _
  rw [if_pos hl, sIx_no, sIx_nat _ _ h, Nat.sub_zero, List.drop_zero]
  congr 3
  by_cases h2 : i.toNat ≤ s.length
  · rw [Nat.min_eq_left h2]
  · rw [Nat.min_eq_right (by omega), List.take_of_length_le (Nat.le_refl _), List.take_of_length_le (by omega)]
theorem sl_lstFrom {s : List D} {i : Int} (h : 0 ≤ i) : slD (.lst s) (some i) none = some (.fr (.lst (s.drop i.toNat))) := by
  show some (R.fr (.lst _)) = _
  rw [sIx_no, sIx_nat _ _ h]
  congr 3
  by_cases h2 : i.toNat ≤ s.length
  · rw [Nat.min_eq_left h2, List.take_of_length_le (by simp)]
  · rw [Nat.min_eq_right (by omega), List.drop_of_length_le (Nat.le_refl _), List.drop_of_length_le (by omega)]
    simp
theorem sl_lstTo {s : List D} {i : Int} (h : 0 ≤ i) : slD (.lst s) none (some i) = some (.fr (.lst (s.take i.toNat))) := by
  show some (R.fr (.lst _)) = _
  rw [sIx_no, sIx_nat _ _ h, Nat.sub_zero, List.drop_zero]
  congr 3
  by_cases h2 : i.toNat ≤ s.length
  · rw [Nat.min_eq_left h2]
  · rw [Nat.min_eq_right (by omega), List.take_of_length_le (Nat.le_refl _), List.take_of_length_le (by omega)]
theorem add_lst {xs ys : List D} (h : xs.length + ys.length ≤ 1000000) : addD (.lst xs) (.lst ys) = some (.fr (.lst (xs ++ ys))) := if_pos (decide_eq_true h)
theorem add_str {xs ys : List Nat} (h : xs.length + ys.length ≤ 1000000) : addD (.str xs) (.str ys) = some (.fz (.str (xs ++ ys))) := if_pos (decide_eq_true h)
theorem add_tup {xs ys : List D} (h : xs.length + ys.length ≤ 1000000) : addD (.tup xs) (.tup ys) = some (.fz (.tup (xs ++ ys))) := if_pos (decide_eq_true h)
/-! exceptions -/
theorem ws_raise {k : Nat} {ρ : Env} {QS : Fl → Env → Prop} (h : QS (.exc ⟨k, []⟩) ρ) : wps (raiseS k ρ) QS := .mk _ _ rfl h
def noX (a : Fl) : Prop := match a with
  | .exc _ => False
  | _ => True
theorem ws_tryOk {mt : Nat → Option Bool} {body suite : SemS} {ρ : Env} {QS : Fl → Env → Prop} (h : wps (body ρ) fun a ρ1 => noX a ∧ QS a ρ1) : wps (tryS mt body suite ρ) QS := by
  obtain ⟨a, ρ1, e, h1, q⟩ := h.out
  unfold tryS
  rw [e]
  cases a with
  | exc x => exact h1.elim
  | _ => exact .mk _ _ rfl q
theorem ws_tryExc {mt : Nat → Option Bool} {body suite : SemS} {ρ ρ1 : Env} {x : XD} {QS : Fl → Env → Prop} (e : body ρ = some (.exc x, ρ1)) (hm : mt x.k = some true) (h : wps (suite ρ1) fun a ρ2 => noX a ∧ QS a ρ2) : wps (tryS mt body suite ρ) QS := by
  obtain ⟨a, ρ2, e2, h1, q⟩ := h.out
  unfold tryS
  rw [e]
  simp only [hm, e2]
  cases a with
  | exc x => exact h1.elim
  | _ => exact .mk _ _ rfl q
theorem wF_exc {io : Nat → Bool} {m : Nat} {s : SemS} {ds outs : List D} {x : XD} (h : wps (s (argE io 0 ds ++ List.replicate (m - ds.length) .no)) fun a ρ => a = .exc x ∧ outsE io ρ 0 ds = some outs) : funS io m s ds = some (.exc x, outs) := by
  obtain ⟨a, ρ1, e, rfl, e2⟩ := h.out
  unfold funS
  rw [e]
  simp only [e2]
  rfl
theorem set_exc {io : Nat → Bool} {n i : Nat} {F : FS} {as : Ly.Sem (List Ar)} {ρ ρ1 : Env} {xs : List Ar} {ds outs : List D} {x : XD} (e1 : as ρ = some (.val xs, ρ1)) (e2 : argD ρ1 xs = some ds) (e3 : (maskOk io 0 xs && noDup (slotsOf xs) && decide (xs.length = n)) = true) (e4 : F ds = some (.exc x, outs)) (e5 : outs.length = xs.length) :
    setS i (callS io n F as) ρ = some (.exc x, setIo ρ1 xs outs) := by
  unfold setS callS
  rw [e1]
  show bndS (calR2 io n F ρ1 xs) _ = _
  unfold calR2
  rw [e2, Option.bind_some, if_pos e3, e4]
  show bndS (if outs.length = xs.length then some (Out.exc x, setIo ρ1 xs outs) else none) _ = _
  rw [if_pos e5]
  rfl
theorem w_make {k n : Nat} {io : Nat → Bool} {F : FS} {as : Ly.Sem (List Ar)} {ρ : Env} {Q : R → Env → Prop} (h : wp (as ρ) fun xs ρ1 => ∃ ds outs fs ρ2, argD (ρ1 ++ [.ow (.obj k [])]) (.slot ρ1.length :: xs) = some ds ∧ (maskOk io 0 (.slot ρ1.length :: xs) && noDup (slotsOf (.slot ρ1.length :: xs)) && decide ((Ar.slot ρ1.length :: xs).length = n)) = true ∧
    F ds = some (.val (.fz .non), outs) ∧ outs.length = (Ar.slot ρ1.length :: xs).length ∧ setIo (ρ1 ++ [.ow (.obj k [])]) (.slot ρ1.length :: xs) outs = ρ2 ++ [.ow (.obj k fs)] ∧ Q (.fr (.obj k fs)) ρ2) : wp (makeS k io n F as ρ) Q :=
  wp_bnd (wp_imp h fun xs ρ1 ⟨ds, outs, fs, ρ2, e1, e2, e3, e4, e5, q⟩ => by
    unfold calR2
    rw [e1, Option.bind_some, if_pos e2, e3]
    show wp (popR (if outs.length = _ then _ else none)) Q
    rw [if_pos e4, e5]
    unfold popR
    simp only [List.getLast?_append, List.getLast?_singleton, Option.some_or, List.dropLast_concat]
    exact .mk _ _ rfl q)
def isSet (ρ : Env) (i : Nat) : Bool := match ρ[i]? with
  | some (.fz _) => true
  | some (.ow _) => true
  | _ => false
def isOw (ρ : Env) (i : Nat) : Bool := match ρ[i]? with
  | some (.ow _) => true
  | _ => false
theorem w_var1 {ρ : Env} {Q : R → Env → Prop} {i : Nat} (e : isSet ρ i = true) (h : Q (.sl i) ρ) : wp (varS i ρ) Q := by
  refine .mk (.sl i) ρ ?_ h
  unfold varS
  unfold isSet at e
  split at e
  · rename_i e2; first | rfl | rw [e2]
  · rename_i e2; first | rfl | rw [e2]
  · cases e
theorem w_slotX1 {ρ : Env} {i : Nat} {as : Ly.Sem (List Ar)} {QA : List Ar → Env → Prop} (e : isOw ρ i = true) (h : wp (as ρ) fun ds ρ3 => QA (.slot i :: ds) ρ3) : wp (slotX i as ρ) QA := by
  unfold isOw at e
  split at e
  · rename_i e2; exact w_slotX e2 h
  · cases e
theorem id_ex {α : Sort _} {p : α → Prop} (h : ∃ x, p x) : ∃ x, p x := h
theorem id_and {p q : Prop} (h : p ∧ q) : p ∧ q := h
theorem w_yes {ρ : Env} {QB : Bool → Env → Prop} (h : QB true ρ) : wp (yesT ρ) QB := .mk _ _ rfl h
theorem wp_in {α : Type} {m : Option (Out α × Env)} {Q : α → Env → Prop} {a : α} {ρ : Env} (e : m = some (.val a, ρ)) (q : Q a ρ) : wp m Q := .mk a ρ e q
theorem wps_in {m : Option (Fl × Env)} {Q : Fl → Env → Prop} {a : Fl} {ρ : Env} (e : m = some (a, ρ)) (q : Q a ρ) : wps m Q := .mk a ρ e q
theorem wpF_out {m : Option (Out R × List D)} {Q : R → List D → Prop} (h : wpF m Q) : ∃ r outs, m = some (.val r, outs) ∧ Q r outs := h.out
theorem wpF_in {m : Option (Out R × List D)} {Q : R → List D → Prop} {r : R} {outs : List D} (e : m = some (.val r, outs)) (q : Q r outs) : wpF m Q := .mk r outs e q
end Ly
set_option Elab.async false
set_option linter.all false
set_option maxRecDepth 100000
set_option maxHeartbeats 4000000
namespace Lx
open PySem L2 Ly
def ioN (_ : Nat) : Bool := false
def io0 (i : Nat) : Bool := i == 0
def io01 (i : Nat) : Bool := i == 0 || i == 1
def top (i : Nat) : Stmt := PySem.Challenge.pw_neverjoin_k22_whole_texts_that_clash.main.body.getD i (.Pass ⟨0, 0, 0, 0⟩)
def nc : Nat := 1
structure Txt (c : Cc) (K : PySem.W.Frag) (mg : Str → Option Value) (fa : Nat → Addr) (fd : Nat → FuncData) : Prop where
  hK : c.K = K
  n_abs : mg "abs" = none
  n_all : mg "all" = none
  n_bool : mg "bool" = none
  n_int : mg "int" = none
  n_isinstance : mg "isinstance" = none
  n_len : mg "len" = none
  n_list : mg "list" = none
  n_min : mg "min" = none
  n_range : mg "range" = none
  n_sorted : mg "sorted" = none
  n_str : mg "str" = none
  n_tuple : mg "tuple" = none
  n_zip : mg "zip" = none
  ob : ∀ X : Cx, X.K = K → Objs c X nc
  v_LETTERS : ∃ u, mg "LETTERS" = some u ∧ L2.RelV (.str "abcdefghijklmnopqrstuvwxyz") u
  v_MOST_ARROWS : ∃ u, mg "MOST_ARROWS" = some u ∧ L2.RelV (.int 60) u
  v_MOST_POINTS : ∃ u, mg "MOST_POINTS" = some u ∧ L2.RelV (.int 12) u
  e_NoTexts : PySem.W.excIn K (c.cls 3) [.type "ValueError", .type "Exception", .type "BaseException", .type "object"] "ValueError.__new__" = true ∧ mg "NoTexts" = some (.ref (c.cls 3)) ∧ PySem.W.keepIn K (.ref (c.cls 3)) = true ∧ PySem.W.subIn K (.ref (c.cls 3)) (.type "BaseException") = some true ∧ PySem.W.typeIn K (.ref (c.cls 3)) = some (.type "type")
  x_NoTexts : PySem.W.exmOne K (.ref (c.cls 3)) (.ref (c.cls 3)) = some true
  g_is_integer : mg "is_integer" = some (.ref (fa 0))
  k_is_integer : PySem.W.keepIn K (.ref (fa 0)) = true
  f_is_integer : Fun K "is_integer" "is_integer" (top 6) (fa 0) (fd 0)
  b_is_integer : Binds K (fd 0) ["thing"] []
  g_is_within : mg "is_within" = some (.ref (fa 1))
  k_is_within : PySem.W.keepIn K (.ref (fa 1)) = true
  f_is_within : Fun K "is_within" "is_within" (top 7) (fa 1) (fd 1)
  b_is_within : Binds K (fd 1) ["thing", "least", "most"] []
  g_is_listed : mg "is_listed" = some (.ref (fa 2))
  k_is_listed : PySem.W.keepIn K (.ref (fa 2)) = true
  f_is_listed : Fun K "is_listed" "is_listed" (top 8) (fa 2) (fd 2)
  b_is_listed : Binds K (fd 2) ["thing"] []
  g_is_letter : mg "is_letter" = some (.ref (fa 3))
  k_is_letter : PySem.W.keepIn K (.ref (fa 3)) = true
  f_is_letter : Fun K "is_letter" "is_letter" (top 9) (fa 3) (fd 3)
  b_is_letter : Binds K (fd 3) ["thing"] []
  g_is_text : mg "is_text" = some (.ref (fa 4))
  k_is_text : PySem.W.keepIn K (.ref (fa 4)) = true
  f_is_text : Fun K "is_text" "is_text" (top 10) (fa 4) (fd 4)
  b_is_text : Binds K (fd 4) ["thing"] []
  g_are_ascending : mg "are_ascending" = some (.ref (fa 5))
  k_are_ascending : PySem.W.keepIn K (.ref (fa 5)) = true
  f_are_ascending : Fun K "are_ascending" "are_ascending" (top 11) (fa 5) (fd 5)
  b_are_ascending : Binds K (fd 5) ["things"] []
  g_is_arrow : mg "is_arrow" = some (.ref (fa 6))
  k_is_arrow : PySem.W.keepIn K (.ref (fa 6)) = true
  f_is_arrow : Fun K "is_arrow" "is_arrow" (top 15) (fa 6) (fd 6)
  b_is_arrow : Binds K (fd 6) ["thing", "points"] []
  g_are_arrows : mg "are_arrows" = some (.ref (fa 7))
  k_are_arrows : PySem.W.keepIn K (.ref (fa 7)) = true
  f_are_arrows : Fun K "are_arrows" "are_arrows" (top 16) (fa 7) (fd 7)
  b_are_arrows : Binds K (fd 7) ["thing", "points"] []
  g_reached : mg "reached" = some (.ref (fa 8))
  k_reached : PySem.W.keepIn K (.ref (fa 8)) = true
  f_reached : Fun K "reached" "reached" (top 17) (fa 8) (fd 8)
  b_reached : Binds K (fd 8) ["pairs", "start"] []
  g_hangs : mg "hangs" = some (.ref (fa 9))
  k_hangs : PySem.W.keepIn K (.ref (fa 9)) = true
  f_hangs : Fun K "hangs" "hangs" (top 18) (fa 9) (fd 9)
  b_hangs : Binds K (fd 9) ["points", "arrows"] []
  k_Web_keep : PySem.W.keepIn K (.ref (fa 10)) = true
  f_Web_keep : Fun K "keep" "Web.keep" (inClass (top 19) 1) (fa 10) (fd 10)
  b_Web_keep : Binds K (fd 10) ["self", "points", "arrows"] []
  k_Web___init__ : PySem.W.keepIn K (.ref (fa 11)) = true
  f_Web___init__ : Fun K "__init__" "Web.__init__" (inClass (top 19) 0) (fa 11) (fd 11)
  b_Web___init__ : Binds K (fd 11) ["self", "points", "arrows"] []
  g_clash_of : mg "clash_of" = some (.ref (fa 12))
  k_clash_of : PySem.W.keepIn K (.ref (fa 12)) = true
  f_clash_of : Fun K "clash_of" "clash_of" (top 21) (fa 12) (fd 12)
  b_clash_of : Binds K (fd 12) ["texts"] []
  g_clash : mg "clash" = some (.ref (fa 13))
  k_clash : PySem.W.keepIn K (.ref (fa 13)) = true
  f_clash : Fun K "clash" "clash" (top 22) (fa 13) (fd 13)
  b_clash : Binds K (fd 13) ["texts"] []
  g__law_hand : mg "_law_hand" = some (.ref (fa 14))
  k__law_hand : PySem.W.keepIn K (.ref (fa 14)) = true
  f__law_hand : Fun K "_law_hand" "_law_hand" (top 24) (fa 14) (fd 14)
  b__law_hand : Binds K (fd 14) ["_law_script"] []
  g__law_draw : mg "_law_draw" = some (.ref (fa 15))
  k__law_draw : PySem.W.keepIn K (.ref (fa 15)) = true
  f__law_draw : Fun K "_law_draw" "_law_draw" (top 25) (fa 15) (fd 15)
  b__law_draw : Binds K (fd 15) ["_law_hand_here", "_law_many"] []
  g__law_is : mg "_law_is" = some (.ref (fa 16))
  k__law_is : PySem.W.keepIn K (.ref (fa 16)) = true
  f__law_is : Fun K "_law_is" "_law_is" (top 26) (fa 16) (fd 16)
  b__law_is : Binds K (fd 16) ["_law_told_here", "_law_due"] []
  g__law_some : mg "_law_some" = some (.ref (fa 17))
  k__law_some : PySem.W.keepIn K (.ref (fa 17)) = true
  f__law_some : Fun K "_law_some" "_law_some" (top 27) (fa 17) (fd 17)
  b__law_some : Binds K (fd 17) ["_law_hand_here", "_law_things"] []
  g__law_some_b : mg "_law_some" = some (.ref (fa 18))
  k__law_some_b : PySem.W.keepIn K (.ref (fa 18)) = true
  f__law_some_b : Fun K "_law_some" "_law_some" (top 27) (fa 18) (fd 18)
  b__law_some_b : Binds K (fd 18) ["_law_hand_here", "_law_things"] []
  g__law_shuffled : mg "_law_shuffled" = some (.ref (fa 19))
  k__law_shuffled : PySem.W.keepIn K (.ref (fa 19)) = true
  f__law_shuffled : Fun K "_law_shuffled" "_law_shuffled" (top 28) (fa 19) (fd 19)
  b__law_shuffled : Binds K (fd 19) ["_law_hand_here", "_law_things"] []
  g__law_clashing : mg "_law_clashing" = some (.ref (fa 20))
  k__law_clashing : PySem.W.keepIn K (.ref (fa 20)) = true
  f__law_clashing : Fun K "_law_clashing" "_law_clashing" (top 29) (fa 20) (fd 20)
  b__law_clashing : Binds K (fd 20) ["_law_one", "_law_other"] []
  g__law_deep : mg "_law_deep" = some (.ref (fa 21))
  k__law_deep : PySem.W.keepIn K (.ref (fa 21)) = true
  f__law_deep : Fun K "_law_deep" "_law_deep" (top 30) (fa 21) (fd 21)
  b__law_deep : Binds K (fd 21) ["_law_kind"] []
  g__law_least_clash : mg "_law_least_clash" = some (.ref (fa 22))
  k__law_least_clash : PySem.W.keepIn K (.ref (fa 22)) = true
  f__law_least_clash : Fun K "_law_least_clash" "_law_least_clash" (top 31) (fa 22) (fd 22)
  b__law_least_clash : Binds K (fd 22) ["_law_texts_here"] []
  g__law_told : mg "_law_told" = some (.ref (fa 23))
  k__law_told : PySem.W.keepIn K (.ref (fa 23)) = true
  f__law_told : Fun K "_law_told" "_law_told" (top 32) (fa 23) (fd 23)
  b__law_told : Binds K (fd 23) ["_law_thing"] []
  g__law_texts : mg "_law_texts" = some (.ref (fa 24))
  k__law_texts : PySem.W.keepIn K (.ref (fa 24)) = true
  f__law_texts : Fun K "_law_texts" "_law_texts" (top 33) (fa 24) (fd 24)
  b__law_texts : Binds K (fd 24) ["_law_hand_here"] []
  g_law : mg "law" = some (.ref (fa 25))
  k_law : PySem.W.keepIn K (.ref (fa 25)) = true
  f_law : Fun K "law" "law" (top 34) (fa 25) (fd 25)
  b_law : Binds K (fd 25) ["_law_script"] []
  m_Web : mg "Web" = some (.ref (c.cls 0))
  C_Web : Cls K (c.cls 0)
  nms_Web : c.nms 0 = (["points", "arrows", "kept_letters", "kept_steps"] : List Str)
  mk_Web : Mk K (c.cls 0) (fa 11)
  na_Web_arrows : NoAttr K (c.cls 0) "arrows"
  na_Web_kept_letters : NoAttr K (c.cls 0) "kept_letters"
  na_Web_kept_steps : NoAttr K (c.cls 0) "kept_steps"
  na_Web_points : NoAttr K (c.cls 0) "points"
  meth_Web_keep : Meth K (c.cls 0) "keep" (fa 10)
section
variable {P : Program} {w : World} {c : Cc} {K : PySem.W.Frag} {mg : Str → Option Value} {base : Heap} {fa : Nat → Addr} {fd : Nat → FuncData}
def B_is_integer : SemS := retS (andV (isiS (isiB nc ["int"]) (varS 0)) (notV (isiS (isiB nc ["bool"]) (varS 0))))
def F_is_integer : FS := funS ioN 1 B_is_integer
theorem sc_is_integer : FnScope ["thing"] ["thing"] (defScope (top 6)) := ⟨rfl, rfl, rfl, by decide +kernel, rfl, by decide +kernel, by decide +kernel⟩
theorem ok_is_integer (T : Txt c K mg fa fd) : FnOk P w K mg base (L2.CX P w) 1 (fa 0) (fd 0) ["thing"] (spD c ioN 1 F_is_integer) := by
  refine T.f_is_integer.okX sc_is_integer (spD_len rfl) (fun cdv A outer s H vs Q E hr h => ⟨_, ?_, fun_entry (N := ["thing"]) (by decide) h⟩)
  have ko : Okc c (cxOf (L2.CX P w) P w K mg base ["thing"] "is_integer" (defScope (top 6)) (fa 0) cdv A outer s H E) := okc_cx T.hK hr sc_is_integer.nd
  have tk : Takes (cxOf (L2.CX P w) P w K mg base ["thing"] "is_integer" (defScope (top 6)) (fa 0) cdv A outer s H E) (fun cl dd _ H => E cl dd H) := takes_of rfl rfl rfl rfl
  exact (ds_one (ds_ret (pd_and (pd_isi (isi_one (isi_tab (l := ["int"]) (T.ob _ rfl) (by decide) (by intro T hT; simp only [List.mem_cons, List.not_mem_nil, or_false] at hT; rcases hT with rfl | rfl | rfl | rfl | rfl | rfl | rfl <;> rfl))) (.ty _) (by rfl) T.n_isinstance (pd_var (i := 0) rfl (by first | exact Or.inl rfl | exact Or.inr (Or.inl rfl) | exact Or.inr (Or.inr rfl))) (pe_bltn (v := .ty "int") (by rfl) T.n_int PyProof.Rows.boot_int rfl (by decide +kernel) (by decide +kernel))) (pd_one (pd_not (pd_isi (isi_one (isi_tab (l := ["bool"]) (T.ob _ rfl) (by decide) (by intro T hT; simp only [List.mem_cons, List.not_mem_nil, or_false] at hT; rcases hT with rfl | rfl | rfl | rfl | rfl | rfl | rfl <;> rfl))) (.ty _) (by rfl) T.n_isinstance (pd_var (i := 0) rfl (by first | exact Or.inl rfl | exact Or.inr (Or.inl rfl) | exact Or.inr (Or.inr rfl))) (pe_bltn (v := .ty "bool") (by rfl) T.n_bool PyProof.Rows.boot_bool rfl (by decide +kernel) (by decide +kernel))))))))
def B_is_within : SemS := retS (andV (callS ioN 1 F_is_integer (consX (varS 0) (nilX))) (bolS (chnT leB leB (varS 1) (varS 0) (varS 2))))
def F_is_within : FS := funS ioN 3 B_is_within
theorem sc_is_within : FnScope ["thing", "least", "most"] ["thing", "least", "most"] (defScope (top 7)) := ⟨rfl, rfl, rfl, by decide +kernel, rfl, by decide +kernel, by decide +kernel⟩
theorem ok_is_within (T : Txt c K mg fa fd) : FnOk P w K mg base (L2.CX P w) 2 (fa 1) (fd 1) ["thing", "least", "most"] (spD c ioN 3 F_is_within) := by
  refine T.f_is_within.okX sc_is_within (spD_len rfl) (fun cdv A outer s H vs Q E hr h => ⟨_, ?_, fun_entry (N := ["thing", "least", "most"]) (by decide) h⟩)
  have ko : Okc c (cxOf (L2.CX P w) P w K mg base ["thing", "least", "most"] "is_within" (defScope (top 7)) (fa 1) cdv A outer s H E) := okc_cx T.hK hr sc_is_within.nd
  have tk : Takes (cxOf (L2.CX P w) P w K mg base ["thing", "least", "most"] "is_within" (defScope (top 7)) (fa 1) cdv A outer s H E) (fun cl dd _ H => E cl dd H) := takes_of rfl rfl rfl rfl
  exact (ds_one (ds_ret (pd_and (pd_call (ok_is_integer T) (hr.mono (by decide)) (by rfl) T.g_is_integer T.k_is_integer T.b_is_integer tk (ax_cons (pd_var (i := 0) rfl (by first | exact Or.inl rfl | exact Or.inr (Or.inl rfl) | exact Or.inr (Or.inr rfl))) ax_nil)) (pd_one (pd_chain (op_leD ko.hu) (op_leD ko.hu) (c_ord ko.hK _) (c_ord ko.hK _) (pd_var (i := 1) rfl (by first | exact Or.inl rfl | exact Or.inr (Or.inl rfl) | exact Or.inr (Or.inr rfl))) (pd_var (i := 0) rfl (by first | exact Or.inl rfl | exact Or.inr (Or.inl rfl) | exact Or.inr (Or.inr rfl))) (pd_var (i := 2) rfl (by first | exact Or.inl rfl | exact Or.inr (Or.inl rfl) | exact Or.inr (Or.inr rfl))))))))
def B_is_listed : SemS := retS (isiS (isiB nc ["list", "tuple"]) (varS 0))
def F_is_listed : FS := funS ioN 1 B_is_listed
theorem sc_is_listed : FnScope ["thing"] ["thing"] (defScope (top 8)) := ⟨rfl, rfl, rfl, by decide +kernel, rfl, by decide +kernel, by decide +kernel⟩
theorem ok_is_listed (T : Txt c K mg fa fd) : FnOk P w K mg base (L2.CX P w) 1 (fa 2) (fd 2) ["thing"] (spD c ioN 1 F_is_listed) := by
  refine T.f_is_listed.okX sc_is_listed (spD_len rfl) (fun cdv A outer s H vs Q E hr h => ⟨_, ?_, fun_entry (N := ["thing"]) (by decide) h⟩)
  have ko : Okc c (cxOf (L2.CX P w) P w K mg base ["thing"] "is_listed" (defScope (top 8)) (fa 2) cdv A outer s H E) := okc_cx T.hK hr sc_is_listed.nd
  have tk : Takes (cxOf (L2.CX P w) P w K mg base ["thing"] "is_listed" (defScope (top 8)) (fa 2) cdv A outer s H E) (fun cl dd _ H => E cl dd H) := takes_of rfl rfl rfl rfl
  exact (ds_one (ds_ret (pd_isiT (isi_tab (l := ["list", "tuple"]) (T.ob _ rfl) (by decide) (by intro T hT; simp only [List.mem_cons, List.not_mem_nil, or_false] at hT; rcases hT with rfl | rfl | rfl | rfl | rfl | rfl | rfl <;> rfl)) (cvs := [.ty "list", .ty "tuple"]) (.cons (.ty _) (.cons (.ty _) .nil)) (by decide) (by rfl) T.n_isinstance (pd_var (i := 0) rfl (by first | exact Or.inl rfl | exact Or.inr (Or.inl rfl) | exact Or.inr (Or.inr rfl))) (pa_cons (pe_bltn (v := .ty "list") (by rfl) T.n_list PyProof.Rows.boot_list rfl (by decide +kernel) (by decide +kernel)) (pa_cons (pe_bltn (v := .ty "tuple") (by rfl) T.n_tuple PyProof.Rows.boot_tuple rfl (by decide +kernel) (by decide +kernel)) pa_nil)) (fun _ _ _ q => q))))
def B_is_letter : SemS := retS (andV (isiS (isiB nc ["str"]) (varS 0)) (andV (binS (boolR eqB) (calS lenD (consA (varS 0) (nilA))) (conS (.int 1))) (binS (boolR inB) (varS 0) (conS (.str [97, 98, 99, 100, 101, 102, 103, 104, 105, 106, 107, 108, 109, 110, 111, 112, 113, 114, 115, 116, 117, 118, 119, 120, 121, 122])))))
def F_is_letter : FS := funS ioN 1 B_is_letter
theorem sc_is_letter : FnScope ["thing"] ["thing"] (defScope (top 9)) := ⟨rfl, rfl, rfl, by decide +kernel, rfl, by decide +kernel, by decide +kernel⟩
theorem ok_is_letter (T : Txt c K mg fa fd) : FnOk P w K mg base (L2.CX P w) 1 (fa 3) (fd 3) ["thing"] (spD c ioN 1 F_is_letter) := by
  refine T.f_is_letter.okX sc_is_letter (spD_len rfl) (fun cdv A outer s H vs Q E hr h => ⟨_, ?_, fun_entry (N := ["thing"]) (by decide) h⟩)
  have ko : Okc c (cxOf (L2.CX P w) P w K mg base ["thing"] "is_letter" (defScope (top 9)) (fa 3) cdv A outer s H E) := okc_cx T.hK hr sc_is_letter.nd
  have tk : Takes (cxOf (L2.CX P w) P w K mg base ["thing"] "is_letter" (defScope (top 9)) (fa 3) cdv A outer s H E) (fun cl dd _ H => E cl dd H) := takes_of rfl rfl rfl rfl
  exact (ds_one (ds_ret (pd_and (pd_isi (isi_one (isi_tab (l := ["str"]) (T.ob _ rfl) (by decide) (by intro T hT; simp only [List.mem_cons, List.not_mem_nil, or_false] at hT; rcases hT with rfl | rfl | rfl | rfl | rfl | rfl | rfl <;> rfl))) (.ty _) (by rfl) T.n_isinstance (pd_var (i := 0) rfl (by first | exact Or.inl rfl | exact Or.inr (Or.inl rfl) | exact Or.inr (Or.inr rfl))) (pe_bltn (v := .ty "str") (by rfl) T.n_str PyProof.Rows.boot_str rfl (by decide +kernel) (by decide +kernel))) (pd_and (pd_cmp (op_eqD (by have := ko.hu; omega)) (c_eq ko.hK) (pd_callB call_lenA (by first | exact k_len | exact ko.hK ▸ k_len) (by rfl) T.n_len PySem.boot_len (ad_cons (pd_var (i := 0) rfl (by first | exact Or.inl rfl | exact Or.inr (Or.inl rfl) | exact Or.inr (Or.inr rfl))) ad_nil)) pd_int) (pd_one (pd_cmp (op_inA ko.hu) (c_in ko.hK) (pd_var (i := 0) rfl (by first | exact Or.inl rfl | exact Or.inr (Or.inl rfl) | exact Or.inr (Or.inr rfl))) (pd_glob (d := .str [97, 98, 99, 100, 101, 102, 103, 104, 105, 106, 107, 108, 109, 110, 111, 112, 113, 114, 115, 116, 117, 118, 119, 120, 121, 122]) (by rfl) T.v_LETTERS rfl) rfl))))))
def B_is_text : SemS := retS (andV (isiS (isiB nc ["str"]) (varS 0)) (calS allD (consA (lcS (itS (varS 0)) (tgName 1) (yesT) (binS (boolR inB) (varS 1) (conS (.str [97, 98, 99, 100, 101, 102, 103, 104, 105, 106, 107, 108, 109, 110, 111, 112, 113, 114, 115, 116, 117, 118, 119, 120, 121, 122]))) [1]) (nilA))))
def F_is_text : FS := funS ioN 2 B_is_text
theorem sc_is_text : FnScope ["thing", "sign"] ["thing"] (defScope (top 10)) := ⟨rfl, rfl, rfl, by decide +kernel, rfl, by decide +kernel, by decide +kernel⟩
theorem ok_is_text (T : Txt c K mg fa fd) : FnOk P w K mg base (L2.CX P w) 1 (fa 4) (fd 4) ["thing"] (spD c ioN 1 F_is_text) := by
  refine T.f_is_text.okX sc_is_text (spD_len rfl) (fun cdv A outer s H vs Q E hr h => ⟨_, ?_, fun_entry (N := ["thing", "sign"]) (by decide) h⟩)
  have ko : Okc c (cxOf (L2.CX P w) P w K mg base ["thing", "sign"] "is_text" (defScope (top 10)) (fa 4) cdv A outer s H E) := okc_cx T.hK hr sc_is_text.nd
  have tk : Takes (cxOf (L2.CX P w) P w K mg base ["thing", "sign"] "is_text" (defScope (top 10)) (fa 4) cdv A outer s H E) (fun cl dd _ H => E cl dd H) := takes_of rfl rfl rfl rfl
  exact (ds_one (ds_ret (pd_and (pd_isi (isi_one (isi_tab (l := ["str"]) (T.ob _ rfl) (by decide) (by intro T hT; simp only [List.mem_cons, List.not_mem_nil, or_false] at hT; rcases hT with rfl | rfl | rfl | rfl | rfl | rfl | rfl <;> rfl))) (.ty _) (by rfl) T.n_isinstance (pd_var (i := 0) rfl (by first | exact Or.inl rfl | exact Or.inr (Or.inl rfl) | exact Or.inr (Or.inr rfl))) (pe_bltn (v := .ty "str") (by rfl) T.n_str PyProof.Rows.boot_str rfl (by decide +kernel) (by decide +kernel))) (pd_one (pd_callB (cr_all rfl) (by first | exact k_all | exact ko.hK ▸ k_all) (by rfl) T.n_all (by decide +kernel) (ad_cons (pd_lc (own := [("sign", 1)]) ko (id_seq ko (pd_var (i := 0) rfl (by first | exact Or.inl rfl | exact Or.inr (Or.inl rfl) | exact Or.inr (Or.inr rfl)))) (blkOk_by (N := ["thing", "sign"]) (sc := defScope (top 10)) (by decide +kernel)) (fun s H _ _ fp => (pg_name (i := 1) sc_is_text.nd rfl (by first | exact Or.inl rfl | exact Or.inr rfl))) (tg_name (io := (blkIo [1])) (i := 1) (by decide +kernel)) (fun s H _ _ fp => td_nil) (fun s H _ _ fp => (pd_cmp (op_inA (ko.blk s H _ _ fp).hu) (c_in (ko.blk s H _ _ fp).hK) (pd_var (i := 1) rfl (by first | exact Or.inl rfl | exact Or.inr (Or.inl rfl) | exact Or.inr (Or.inr rfl))) (pd_glob (d := .str [97, 98, 99, 100, 101, 102, 103, 104, 105, 106, 107, 108, 109, 110, 111, 112, 113, 114, 115, 116, 117, 118, 119, 120, 121, 122]) (by rfl) T.v_LETTERS rfl) rfl))) ad_nil))))))
def B_are_ascending : SemS := retS (calS allD (consA (lcS (rng2S (conS (.int 1)) (calS lenD (consA (varS 0) (nilA)))) (tgName 1) (yesT) (binS (boolR ltB) (binS ixD (varS 0) (binS subD (varS 1) (conS (.int 1)))) (binS ixD (varS 0) (varS 1))) [1]) (nilA)))
def F_are_ascending : FS := funS ioN 2 B_are_ascending
theorem sc_are_ascending : FnScope ["things", "at"] ["things"] (defScope (top 11)) := ⟨rfl, rfl, rfl, by decide +kernel, rfl, by decide +kernel, by decide +kernel⟩
theorem ok_are_ascending (T : Txt c K mg fa fd) : FnOk P w K mg base (L2.CX P w) 1 (fa 5) (fd 5) ["things"] (spD c ioN 1 F_are_ascending) := by
  refine T.f_are_ascending.okX sc_are_ascending (spD_len rfl) (fun cdv A outer s H vs Q E hr h => ⟨_, ?_, fun_entry (N := ["things", "at"]) (by decide) h⟩)
  have ko : Okc c (cxOf (L2.CX P w) P w K mg base ["things", "at"] "are_ascending" (defScope (top 11)) (fa 5) cdv A outer s H E) := okc_cx T.hK hr sc_are_ascending.nd
  have tk : Takes (cxOf (L2.CX P w) P w K mg base ["things", "at"] "are_ascending" (defScope (top 11)) (fa 5) cdv A outer s H E) (fun cl dd _ H => E cl dd H) := takes_of rfl rfl rfl rfl
  exact (ds_one (ds_ret (pd_callB (cr_all rfl) (by first | exact k_all | exact ko.hK ▸ k_all) (by rfl) T.n_all (by decide +kernel) (ad_cons (pd_lc (own := [("at", 1)]) ko (id_rng2 (by rfl) T.n_range pd_int (pd_callB call_lenA (by first | exact k_len | exact ko.hK ▸ k_len) (by rfl) T.n_len PySem.boot_len (ad_cons (pd_var (i := 0) rfl (by first | exact Or.inl rfl | exact Or.inr (Or.inl rfl) | exact Or.inr (Or.inr rfl))) ad_nil))) (blkOk_by (N := ["things", "at"]) (sc := defScope (top 11)) (by decide +kernel)) (fun s H _ _ fp => (pg_name (i := 1) sc_are_ascending.nd rfl (by first | exact Or.inl rfl | exact Or.inr rfl))) (tg_name (io := (blkIo [1])) (i := 1) (by decide +kernel)) (fun s H _ _ fp => td_nil) (fun s H _ _ fp => (pd_cmp (op_ltD (ko.blk s H _ _ fp).hu) (c_ord (ko.blk s H _ _ fp).hK _) (pd_ix (ko.blk s H _ _ fp) (pd_var (i := 0) rfl (by first | exact Or.inl rfl | exact Or.inr (Or.inl rfl) | exact Or.inr (Or.inr rfl))) (pd_bin op_sub o_sub (pd_var (i := 1) rfl (by first | exact Or.inl rfl | exact Or.inr (Or.inl rfl) | exact Or.inr (Or.inr rfl))) pd_int)) (pd_ix (ko.blk s H _ _ fp) (pd_var (i := 0) rfl (by first | exact Or.inl rfl | exact Or.inr (Or.inl rfl) | exact Or.inr (Or.inr rfl))) (pd_var (i := 1) rfl (by first | exact Or.inl rfl | exact Or.inr (Or.inl rfl) | exact Or.inr (Or.inr rfl))))))) ad_nil))))
def B_is_arrow : SemS := seqS (iteS (orT (notT (tstT truD (isiS (isiB nc ["tuple"]) (varS 0)))) (cmpT neB (calS lenD (consA (varS 0) (nilA))) (conS (.int 3)))) (retS (conS (.bl false))) (nextS)) (retS (andV (callS ioN 3 F_is_within (consX (binS ixD (varS 0) (conS (.int 0))) (consX (conS (.int 0)) (consX (binS subD (varS 1) (conS (.int 1))) (nilX))))) (andV (callS ioN 1 F_is_letter (consX (binS ixD (varS 0) (conS (.int 1))) (nilX))) (callS ioN 3 F_is_within (consX (binS ixD (varS 0) (conS (.int 2))) (consX (conS (.int 0)) (consX (binS subD (varS 1) (conS (.int 1))) (nilX))))))))
def F_is_arrow : FS := funS ioN 2 B_is_arrow
theorem sc_is_arrow : FnScope ["thing", "points"] ["thing", "points"] (defScope (top 15)) := ⟨rfl, rfl, rfl, by decide +kernel, rfl, by decide +kernel, by decide +kernel⟩
theorem ok_is_arrow (T : Txt c K mg fa fd) : FnOk P w K mg base (L2.CX P w) 3 (fa 6) (fd 6) ["thing", "points"] (spD c ioN 2 F_is_arrow) := by
  refine T.f_is_arrow.okX sc_is_arrow (spD_len rfl) (fun cdv A outer s H vs Q E hr h => ⟨_, ?_, fun_entry (N := ["thing", "points"]) (by decide) h⟩)
  have ko : Okc c (cxOf (L2.CX P w) P w K mg base ["thing", "points"] "is_arrow" (defScope (top 15)) (fa 6) cdv A outer s H E) := okc_cx T.hK hr sc_is_arrow.nd
  have tk : Takes (cxOf (L2.CX P w) P w K mg base ["thing", "points"] "is_arrow" (defScope (top 15)) (fa 6) cdv A outer s H E) (fun cl dd _ H => E cl dd H) := takes_of rfl rfl rfl rfl
  exact (ds_cons (ds_if (td_or (td_not (td_tru ko (pd_isi (isi_one (isi_tab (l := ["tuple"]) (T.ob _ rfl) (by decide) (by intro T hT; simp only [List.mem_cons, List.not_mem_nil, or_false] at hT; rcases hT with rfl | rfl | rfl | rfl | rfl | rfl | rfl <;> rfl))) (.ty _) (by rfl) T.n_isinstance (pd_var (i := 0) rfl (by first | exact Or.inl rfl | exact Or.inr (Or.inl rfl) | exact Or.inr (Or.inr rfl))) (pe_bltn (v := .ty "tuple") (by rfl) T.n_tuple PyProof.Rows.boot_tuple rfl (by decide +kernel) (by decide +kernel))))) (td_or1 (td_cmp (op_neD (by have := ko.hu; omega)) (c_ne ko.hK) (pd_callB call_lenA (by first | exact k_len | exact ko.hK ▸ k_len) (by rfl) T.n_len PySem.boot_len (ad_cons (pd_var (i := 0) rfl (by first | exact Or.inl rfl | exact Or.inr (Or.inl rfl) | exact Or.inr (Or.inr rfl))) ad_nil)) pd_int))).pt (ds_one (ds_ret pd_bl)) ds_nil) (ds_one (ds_ret (pd_and (pd_call (ok_is_within T) (hr.mono (by decide)) (by rfl) T.g_is_within T.k_is_within T.b_is_within tk (ax_cons (pd_ix ko (pd_var (i := 0) rfl (by first | exact Or.inl rfl | exact Or.inr (Or.inl rfl) | exact Or.inr (Or.inr rfl))) pd_int) (ax_cons pd_int (ax_cons (pd_bin op_sub o_sub (pd_var (i := 1) rfl (by first | exact Or.inl rfl | exact Or.inr (Or.inl rfl) | exact Or.inr (Or.inr rfl))) pd_int) ax_nil)))) (pd_and (pd_call (ok_is_letter T) (hr.mono (by decide)) (by rfl) T.g_is_letter T.k_is_letter T.b_is_letter tk (ax_cons (pd_ix ko (pd_var (i := 0) rfl (by first | exact Or.inl rfl | exact Or.inr (Or.inl rfl) | exact Or.inr (Or.inr rfl))) pd_int) ax_nil)) (pd_one (pd_call (ok_is_within T) (hr.mono (by decide)) (by rfl) T.g_is_within T.k_is_within T.b_is_within tk (ax_cons (pd_ix ko (pd_var (i := 0) rfl (by first | exact Or.inl rfl | exact Or.inr (Or.inl rfl) | exact Or.inr (Or.inr rfl))) pd_int) (ax_cons pd_int (ax_cons (pd_bin op_sub o_sub (pd_var (i := 1) rfl (by first | exact Or.inl rfl | exact Or.inr (Or.inl rfl) | exact Or.inr (Or.inr rfl))) pd_int) ax_nil))))))))))
def B_are_arrows : SemS := seqS (iteS (orT (notT (tstT truD (isiS (isiB nc ["tuple"]) (varS 0)))) (notT (chnT leB leB (conS (.int 1)) (calS lenD (consA (varS 0) (nilA))) (conS (.int 60))))) (retS (conS (.bl false))) (nextS)) (retS (andV (calS allD (consA (lcS (itS (varS 0)) (tgName 2) (yesT) (callS ioN 2 F_is_arrow (consX (varS 2) (consX (varS 1) (nilX)))) [2]) (nilA))) (callS ioN 1 F_are_ascending (consX (varS 0) (nilX)))))
def F_are_arrows : FS := funS ioN 3 B_are_arrows
theorem sc_are_arrows : FnScope ["thing", "points", "arrow"] ["thing", "points"] (defScope (top 16)) := ⟨rfl, rfl, rfl, by decide +kernel, rfl, by decide +kernel, by decide +kernel⟩
theorem ok_are_arrows (T : Txt c K mg fa fd) : FnOk P w K mg base (L2.CX P w) 4 (fa 7) (fd 7) ["thing", "points"] (spD c ioN 2 F_are_arrows) := by
  refine T.f_are_arrows.okX sc_are_arrows (spD_len rfl) (fun cdv A outer s H vs Q E hr h => ⟨_, ?_, fun_entry (N := ["thing", "points", "arrow"]) (by decide) h⟩)
  have ko : Okc c (cxOf (L2.CX P w) P w K mg base ["thing", "points", "arrow"] "are_arrows" (defScope (top 16)) (fa 7) cdv A outer s H E) := okc_cx T.hK hr sc_are_arrows.nd
  have tk : Takes (cxOf (L2.CX P w) P w K mg base ["thing", "points", "arrow"] "are_arrows" (defScope (top 16)) (fa 7) cdv A outer s H E) (fun cl dd _ H => E cl dd H) := takes_of rfl rfl rfl rfl
  exact (ds_cons (ds_if (td_or (td_not (td_tru ko (pd_isi (isi_one (isi_tab (l := ["tuple"]) (T.ob _ rfl) (by decide) (by intro T hT; simp only [List.mem_cons, List.not_mem_nil, or_false] at hT; rcases hT with rfl | rfl | rfl | rfl | rfl | rfl | rfl <;> rfl))) (.ty _) (by rfl) T.n_isinstance (pd_var (i := 0) rfl (by first | exact Or.inl rfl | exact Or.inr (Or.inl rfl) | exact Or.inr (Or.inr rfl))) (pe_bltn (v := .ty "tuple") (by rfl) T.n_tuple PyProof.Rows.boot_tuple rfl (by decide +kernel) (by decide +kernel))))) (td_or1 (td_not (td_chain (op_leD ko.hu) (op_leD ko.hu) (c_ord ko.hK _) (c_ord ko.hK _) pd_int (pd_callB call_lenA (by first | exact k_len | exact ko.hK ▸ k_len) (by rfl) T.n_len PySem.boot_len (ad_cons (pd_var (i := 0) rfl (by first | exact Or.inl rfl | exact Or.inr (Or.inl rfl) | exact Or.inr (Or.inr rfl))) ad_nil)) (pd_glob (d := .int 60) (by rfl) T.v_MOST_ARROWS rfl))))).pt (ds_one (ds_ret pd_bl)) ds_nil) (ds_one (ds_ret (pd_and (pd_callB (cr_all rfl) (by first | exact k_all | exact ko.hK ▸ k_all) (by rfl) T.n_all (by decide +kernel) (ad_cons (pd_lc (own := [("arrow", 2)]) ko (id_seq ko (pd_var (i := 0) rfl (by first | exact Or.inl rfl | exact Or.inr (Or.inl rfl) | exact Or.inr (Or.inr rfl)))) (blkOk_by (N := ["thing", "points", "arrow"]) (sc := defScope (top 16)) (by decide +kernel)) (fun s H _ _ fp => (pg_name (i := 2) sc_are_arrows.nd rfl (by first | exact Or.inl rfl | exact Or.inr rfl))) (tg_name (io := (blkIo [2])) (i := 2) (by decide +kernel)) (fun s H _ _ fp => td_nil) (fun s H _ _ fp => (pd_call (ok_is_arrow T) (hr.mono (by decide)) (by rfl) T.g_is_arrow T.k_is_arrow T.b_is_arrow takes0 (ax_cons (pd_var (i := 2) rfl (by first | exact Or.inl rfl | exact Or.inr (Or.inl rfl) | exact Or.inr (Or.inr rfl))) (ax_cons (pd_var (i := 1) rfl (by first | exact Or.inl rfl | exact Or.inr (Or.inl rfl) | exact Or.inr (Or.inr rfl))) ax_nil))))) ad_nil)) (pd_one (pd_call (ok_are_ascending T) (hr.mono (by decide)) (by rfl) T.g_are_ascending T.k_are_ascending T.b_are_ascending tk (ax_cons (pd_var (i := 0) rfl (by first | exact Or.inl rfl | exact Or.inr (Or.inl rfl) | exact Or.inr (Or.inr rfl))) ax_nil)))))))
def B_reached : SemS := seqS (setS 2 (newDS false)) (seqS (forS (itS (varS 0)) (tgTup (tgsCons (tgName 3) (tgsCons (tgName 4) (tgsNil)))) (exprS (sdaS 2 (varS 3) (varS 4)))) (seqS (setS 5 (dispS [(varS 1, conS (.bl true))])) (seqS (setS 6 (lstS (consF (varS 1) (nilF)))) (seqS (whileS (cmpT gtB (calS lenD (consA (varS 6) (nilA))) (conS (.int 0))) (forS (itS (getS (varS 2) (mutS 6 popD nilF) (lstS (nilF)))) (tgName 7) (iteS (cmpT ninB (varS 7) (varS 5)) (seqS (putS 5 (varS 7) (conS (.bl true))) (exprS (mutS 6 appendD (consF (varS 7) (nilF))))) (nextS)))) (retS (varS 5))))))
def F_reached : FS := funS ioN 8 B_reached
theorem sc_reached : FnScope ["pairs", "start", "steps", "one", "other", "found", "todo", "goal"] ["pairs", "start"] (defScope (top 17)) := ⟨rfl, rfl, rfl, by decide +kernel, rfl, by decide +kernel, by decide +kernel⟩
theorem ok_reached (T : Txt c K mg fa fd) : FnOk P w K mg base (L2.CX P w) 1 (fa 8) (fd 8) ["pairs", "start"] (spD c ioN 2 F_reached) := by
  refine T.f_reached.okX sc_reached (spD_len rfl) (fun cdv A outer s H vs Q E hr h => ⟨_, ?_, fun_entry (N := ["pairs", "start", "steps", "one", "other", "found", "todo", "goal"]) (by decide) h⟩)
  have ko : Okc c (cxOf (L2.CX P w) P w K mg base ["pairs", "start", "steps", "one", "other", "found", "todo", "goal"] "reached" (defScope (top 17)) (fa 8) cdv A outer s H E) := okc_cx T.hK hr sc_reached.nd
  have tk : Takes (cxOf (L2.CX P w) P w K mg base ["pairs", "start", "steps", "one", "other", "found", "todo", "goal"] "reached" (defScope (top 17)) (fa 8) cdv A outer s H E) (fun cl dd _ H => E cl dd H) := takes_of rfl rfl rfl rfl
  exact (ds_cons (ds_set (i := 2) (by decide +kernel) sc_reached.nd rfl (by first | exact Or.inl rfl | exact Or.inr rfl) pd_newK) (ds_cons (ds_for PassesOwn.leaving ko (id_seq ko (pd_var (i := 0) rfl (by first | exact Or.inl rfl | exact Or.inr (Or.inl rfl) | exact Or.inr (Or.inr rfl)))) (pg_tup (n := 2) rfl (pgs_cons (pg_name (i := 3) sc_reached.nd rfl (by first | exact Or.inl rfl | exact Or.inr rfl)) (pgs_cons (pg_name (i := 4) sc_reached.nd rfl (by first | exact Or.inl rfl | exact Or.inr rfl)) pgs_nil))) (tg_tupX (n := 2) ko (tgs_cons (tg_name (io := (fun i => ioN i && decide (i < 2))) (i := 3) (by decide +kernel)) (tgs_cons (tg_name (io := (fun i => ioN i && decide (i < 2))) (i := 4) (by decide +kernel)) tgs_nil)) (len_cons (len_cons len_nil))) (ds_one (ds_expr (pd_sda (i := 2) ko rfl (by first | exact Or.inl rfl | exact Or.inr (Or.inl rfl) | exact Or.inr (Or.inr rfl)) (pd_var (i := 3) rfl (by first | exact Or.inl rfl | exact Or.inr (Or.inl rfl) | exact Or.inr (Or.inr rfl))) (pd_var (i := 4) rfl (by first | exact Or.inl rfl | exact Or.inr (Or.inl rfl) | exact Or.inr (Or.inr rfl))) ⟨by rfl, by rfl, by rfl, by rfl⟩)))) (ds_cons (ds_set (i := 5) (by decide +kernel) sc_reached.nd rfl (by first | exact Or.inl rfl | exact Or.inr rfl) (pd_disp (trs := [(varS 1, conS (.bl true))]) (pps_cons (fd_of (pd_var (i := 1) rfl (by first | exact Or.inl rfl | exact Or.inr (Or.inl rfl) | exact Or.inr (Or.inr rfl)))) (fd_of pd_bl) pps_nil) rfl rfl (by simp) (by decide))) (ds_cons (ds_set (i := 6) (by decide +kernel) sc_reached.nd rfl (by first | exact Or.inl rfl | exact Or.inr rfl) (pd_lst (af_cons (pd_var (i := 1) rfl (by first | exact Or.inl rfl | exact Or.inr (Or.inl rfl) | exact Or.inr (Or.inr rfl))) af_nil))) (ds_cons (ds_while PassesOwn.leaving (td_cmp (op_gtD ko.hu) (c_ord ko.hK _) (pd_callB call_lenA (by first | exact k_len | exact ko.hK ▸ k_len) (by rfl) T.n_len PySem.boot_len (ad_cons (pd_var (i := 6) rfl (by first | exact Or.inl rfl | exact Or.inr (Or.inl rfl) | exact Or.inr (Or.inr rfl))) ad_nil)) pd_int) (ds_one (ds_for PassesOwn.leaving ko (id_seq ko (pd_get ko (pd_var (i := 2) rfl (by first | exact Or.inl rfl | exact Or.inr (Or.inl rfl) | exact Or.inr (Or.inr rfl))) (pd_mut0 (i := 6) ko F.slot_list_pop F.type_list_pop mt_pop m_pop rfl (by first | exact Or.inl rfl | exact Or.inr (Or.inl rfl) | exact Or.inr (Or.inr rfl))) (pd_lst af_nil) ⟨by rfl, by rfl, by rfl, by rfl⟩)) (pg_name (i := 7) sc_reached.nd rfl (by first | exact Or.inl rfl | exact Or.inr rfl)) (tg_name (io := (fun i => ioN i && decide (i < 2))) (i := 7) (by decide +kernel)) (ds_one (ds_if (td_cmp (op_ninA ko.hu) (c_nin ko.hK) (pd_var (i := 7) rfl (by first | exact Or.inl rfl | exact Or.inr (Or.inl rfl) | exact Or.inr (Or.inr rfl))) (pd_var (i := 5) rfl (by first | exact Or.inl rfl | exact Or.inr (Or.inl rfl) | exact Or.inr (Or.inr rfl))) rfl) (ds_cons (ds_put ko rfl (by first | exact Or.inl rfl | exact Or.inr (Or.inl rfl) | exact Or.inr (Or.inr rfl)) (pd_var (i := 7) rfl (by first | exact Or.inl rfl | exact Or.inr (Or.inl rfl) | exact Or.inr (Or.inr rfl))) pd_bl (hpg := pg_put ko rfl (by first | exact Or.inl rfl | exact Or.inr (Or.inl rfl) | exact Or.inr (Or.inr rfl)) (pd_var (i := 7) rfl (by first | exact Or.inl rfl | exact Or.inr (Or.inl rfl) | exact Or.inr (Or.inr rfl))))) (ds_one (ds_expr (pd_mut (i := 6) ko F.slot_list_append F.type_list_append mt_append m_append rfl (by first | exact Or.inl rfl | exact Or.inr (Or.inl rfl) | exact Or.inr (Or.inr rfl)) (af_cons (pd_var (i := 7) rfl (by first | exact Or.inl rfl | exact Or.inr (Or.inl rfl) | exact Or.inr (Or.inr rfl))) af_nil))))) ds_nil))))) (ds_one (ds_ret (pd_var (i := 5) rfl (by first | exact Or.inl rfl | exact Or.inr (Or.inl rfl) | exact Or.inr (Or.inr rfl))))))))))
def B_hangs : SemS := seqS (setS 2 (lcS (itS (varS 1)) (tgTup (tgsCons (tgName 4) (tgsCons (tgName 5) (tgsCons (tgName 6) (tgsNil))))) (yesT) (tupS (consF (varS 4) (consF (varS 6) (nilF)))) [4, 5, 6])) (seqS (setS 3 (lcS (itS (varS 1)) (tgTup (tgsCons (tgName 4) (tgsCons (tgName 5) (tgsCons (tgName 6) (tgsNil))))) (yesT) (tupS (consF (varS 6) (consF (varS 4) (nilF)))) [4, 5, 6])) (retS (andV (binS (boolR eqB) (calS lenD (consA (callS ioN 2 F_reached (consX (varS 2) (consX (conS (.int 0)) (nilX)))) (nilA))) (varS 0)) (binS (boolR eqB) (calS lenD (consA (callS ioN 2 F_reached (consX (varS 3) (consX (conS (.int 0)) (nilX)))) (nilA))) (varS 0)))))
def F_hangs : FS := funS ioN 7 B_hangs
theorem sc_hangs : FnScope ["points", "arrows", "forth", "back", "one", "letter", "other"] ["points", "arrows"] (defScope (top 18)) := ⟨rfl, rfl, rfl, by decide +kernel, rfl, by decide +kernel, by decide +kernel⟩
theorem ok_hangs (T : Txt c K mg fa fd) : FnOk P w K mg base (L2.CX P w) 2 (fa 9) (fd 9) ["points", "arrows"] (spD c ioN 2 F_hangs) := by
  refine T.f_hangs.okX sc_hangs (spD_len rfl) (fun cdv A outer s H vs Q E hr h => ⟨_, ?_, fun_entry (N := ["points", "arrows", "forth", "back", "one", "letter", "other"]) (by decide) h⟩)
  have ko : Okc c (cxOf (L2.CX P w) P w K mg base ["points", "arrows", "forth", "back", "one", "letter", "other"] "hangs" (defScope (top 18)) (fa 9) cdv A outer s H E) := okc_cx T.hK hr sc_hangs.nd
  have tk : Takes (cxOf (L2.CX P w) P w K mg base ["points", "arrows", "forth", "back", "one", "letter", "other"] "hangs" (defScope (top 18)) (fa 9) cdv A outer s H E) (fun cl dd _ H => E cl dd H) := takes_of rfl rfl rfl rfl
  exact (ds_cons (by first | exact (ds_setLc (own := [("one", 4), ("letter", 5), ("other", 6)]) (i := 2) ko (by decide +kernel) rfl (by rfl) (by rfl) (id_seq ko (pd_var (i := 1) rfl (by first | exact Or.inl rfl | exact Or.inr (Or.inl rfl) | exact Or.inr (Or.inr rfl)))) (blkOk_by (N := ["points", "arrows", "forth", "back", "one", "letter", "other"]) (sc := defScope (top 18)) (by decide +kernel)) (fun s H _ _ fp => (pg_tup (n := 3) rfl (pgs_cons (pg_name (i := 4) sc_hangs.nd rfl (by first | exact Or.inl rfl | exact Or.inr rfl)) (pgs_cons (pg_name (i := 5) sc_hangs.nd rfl (by first | exact Or.inl rfl | exact Or.inr rfl)) (pgs_cons (pg_name (i := 6) sc_hangs.nd rfl (by first | exact Or.inl rfl | exact Or.inr rfl)) pgs_nil))))) (tg_tupX (n := 3) ko (tgs_cons (tg_name (io := (blkIo [4, 5, 6])) (i := 4) (by decide +kernel)) (tgs_cons (tg_name (io := (blkIo [4, 5, 6])) (i := 5) (by decide +kernel)) (tgs_cons (tg_name (io := (blkIo [4, 5, 6])) (i := 6) (by decide +kernel)) tgs_nil))) (len_cons (len_cons (len_cons len_nil)))) (fun s H _ _ fp => td_nil) (fun s H _ _ fp => (pd_tup (af_cons (pd_var (i := 4) rfl (by first | exact Or.inl rfl | exact Or.inr (Or.inl rfl) | exact Or.inr (Or.inr rfl))) (af_cons (pd_var (i := 6) rfl (by first | exact Or.inl rfl | exact Or.inr (Or.inl rfl) | exact Or.inr (Or.inr rfl))) af_nil))))) | exact (ds_set (i := 2) (by decide +kernel) sc_hangs.nd rfl (by first | exact Or.inl rfl | exact Or.inr rfl) (pd_lc (own := [("one", 4), ("letter", 5), ("other", 6)]) ko (id_seq ko (pd_var (i := 1) rfl (by first | exact Or.inl rfl | exact Or.inr (Or.inl rfl) | exact Or.inr (Or.inr rfl)))) (blkOk_by (N := ["points", "arrows", "forth", "back", "one", "letter", "other"]) (sc := defScope (top 18)) (by decide +kernel)) (fun s H _ _ fp => (pg_tup (n := 3) rfl (pgs_cons (pg_name (i := 4) sc_hangs.nd rfl (by first | exact Or.inl rfl | exact Or.inr rfl)) (pgs_cons (pg_name (i := 5) sc_hangs.nd rfl (by first | exact Or.inl rfl | exact Or.inr rfl)) (pgs_cons (pg_name (i := 6) sc_hangs.nd rfl (by first | exact Or.inl rfl | exact Or.inr rfl)) pgs_nil))))) (tg_tupX (n := 3) ko (tgs_cons (tg_name (io := (blkIo [4, 5, 6])) (i := 4) (by decide +kernel)) (tgs_cons (tg_name (io := (blkIo [4, 5, 6])) (i := 5) (by decide +kernel)) (tgs_cons (tg_name (io := (blkIo [4, 5, 6])) (i := 6) (by decide +kernel)) tgs_nil))) (len_cons (len_cons (len_cons len_nil)))) (fun s H _ _ fp => td_nil) (fun s H _ _ fp => (pd_tup (af_cons (pd_var (i := 4) rfl (by first | exact Or.inl rfl | exact Or.inr (Or.inl rfl) | exact Or.inr (Or.inr rfl))) (af_cons (pd_var (i := 6) rfl (by first | exact Or.inl rfl | exact Or.inr (Or.inl rfl) | exact Or.inr (Or.inr rfl))) af_nil))))))) (ds_cons (by first | exact (ds_setLc (own := [("one", 4), ("letter", 5), ("other", 6)]) (i := 3) ko (by decide +kernel) rfl (by rfl) (by rfl) (id_seq ko (pd_var (i := 1) rfl (by first | exact Or.inl rfl | exact Or.inr (Or.inl rfl) | exact Or.inr (Or.inr rfl)))) (blkOk_by (N := ["points", "arrows", "forth", "back", "one", "letter", "other"]) (sc := defScope (top 18)) (by decide +kernel)) (fun s H _ _ fp => (pg_tup (n := 3) rfl (pgs_cons (pg_name (i := 4) sc_hangs.nd rfl (by first | exact Or.inl rfl | exact Or.inr rfl)) (pgs_cons (pg_name (i := 5) sc_hangs.nd rfl (by first | exact Or.inl rfl | exact Or.inr rfl)) (pgs_cons (pg_name (i := 6) sc_hangs.nd rfl (by first | exact Or.inl rfl | exact Or.inr rfl)) pgs_nil))))) (tg_tupX (n := 3) ko (tgs_cons (tg_name (io := (blkIo [4, 5, 6])) (i := 4) (by decide +kernel)) (tgs_cons (tg_name (io := (blkIo [4, 5, 6])) (i := 5) (by decide +kernel)) (tgs_cons (tg_name (io := (blkIo [4, 5, 6])) (i := 6) (by decide +kernel)) tgs_nil))) (len_cons (len_cons (len_cons len_nil)))) (fun s H _ _ fp => td_nil) (fun s H _ _ fp => (pd_tup (af_cons (pd_var (i := 6) rfl (by first | exact Or.inl rfl | exact Or.inr (Or.inl rfl) | exact Or.inr (Or.inr rfl))) (af_cons (pd_var (i := 4) rfl (by first | exact Or.inl rfl | exact Or.inr (Or.inl rfl) | exact Or.inr (Or.inr rfl))) af_nil))))) | exact (ds_set (i := 3) (by decide +kernel) sc_hangs.nd rfl (by first | exact Or.inl rfl | exact Or.inr rfl) (pd_lc (own := [("one", 4), ("letter", 5), ("other", 6)]) ko (id_seq ko (pd_var (i := 1) rfl (by first | exact Or.inl rfl | exact Or.inr (Or.inl rfl) | exact Or.inr (Or.inr rfl)))) (blkOk_by (N := ["points", "arrows", "forth", "back", "one", "letter", "other"]) (sc := defScope (top 18)) (by decide +kernel)) (fun s H _ _ fp => (pg_tup (n := 3) rfl (pgs_cons (pg_name (i := 4) sc_hangs.nd rfl (by first | exact Or.inl rfl | exact Or.inr rfl)) (pgs_cons (pg_name (i := 5) sc_hangs.nd rfl (by first | exact Or.inl rfl | exact Or.inr rfl)) (pgs_cons (pg_name (i := 6) sc_hangs.nd rfl (by first | exact Or.inl rfl | exact Or.inr rfl)) pgs_nil))))) (tg_tupX (n := 3) ko (tgs_cons (tg_name (io := (blkIo [4, 5, 6])) (i := 4) (by decide +kernel)) (tgs_cons (tg_name (io := (blkIo [4, 5, 6])) (i := 5) (by decide +kernel)) (tgs_cons (tg_name (io := (blkIo [4, 5, 6])) (i := 6) (by decide +kernel)) tgs_nil))) (len_cons (len_cons (len_cons len_nil)))) (fun s H _ _ fp => td_nil) (fun s H _ _ fp => (pd_tup (af_cons (pd_var (i := 6) rfl (by first | exact Or.inl rfl | exact Or.inr (Or.inl rfl) | exact Or.inr (Or.inr rfl))) (af_cons (pd_var (i := 4) rfl (by first | exact Or.inl rfl | exact Or.inr (Or.inl rfl) | exact Or.inr (Or.inr rfl))) af_nil))))))) (ds_one (ds_ret (pd_and (pd_cmp (op_eqD (by have := ko.hu; omega)) (c_eq ko.hK) (pd_callB call_lenA (by first | exact k_len | exact ko.hK ▸ k_len) (by rfl) T.n_len PySem.boot_len (ad_cons (pd_call (ok_reached T) (hr.mono (by decide)) (by rfl) T.g_reached T.k_reached T.b_reached tk (ax_cons (pd_var (i := 2) rfl (by first | exact Or.inl rfl | exact Or.inr (Or.inl rfl) | exact Or.inr (Or.inr rfl))) (ax_cons pd_int ax_nil))) ad_nil)) (pd_var (i := 0) rfl (by first | exact Or.inl rfl | exact Or.inr (Or.inl rfl) | exact Or.inr (Or.inr rfl)))) (pd_one (pd_cmp (op_eqD (by have := ko.hu; omega)) (c_eq ko.hK) (pd_callB call_lenA (by first | exact k_len | exact ko.hK ▸ k_len) (by rfl) T.n_len PySem.boot_len (ad_cons (pd_call (ok_reached T) (hr.mono (by decide)) (by rfl) T.g_reached T.k_reached T.b_reached tk (ax_cons (pd_var (i := 3) rfl (by first | exact Or.inl rfl | exact Or.inr (Or.inl rfl) | exact Or.inr (Or.inr rfl))) (ax_cons pd_int ax_nil))) ad_nil)) (pd_var (i := 0) rfl (by first | exact Or.inl rfl | exact Or.inr (Or.inl rfl) | exact Or.inr (Or.inr rfl))))))))))
def B_Web_keep : SemS := seqS (fldS 0 (fun k => if k = 0 then some 0 else none) (varS 1)) (seqS (fldS 0 (fun k => if k = 0 then some 1 else none) (varS 2)) (seqS (fldS 0 (fun k => if k = 0 then some 2 else none) (joS (conS (.str [])) (calS sortedD2 (consA (dcS (itS (varS 2)) (tgTup (tgsCons (tgName 4) (tgsCons (tgName 5) (tgsCons (tgName 6) (tgsNil))))) (yesT) (varS 5) (conS (.bl true)) [4, 5, 6]) (nilA))))) (seqS (setS 3 (newDS true)) (seqS (forS (itS (varS 2)) (tgTup (tgsCons (tgName 4) (tgsCons (tgName 5) (tgsCons (tgName 6) (tgsNil))))) (exprS (sdaS 3 (tupS (consF (varS 4) (consF (varS 5) (nilF)))) (varS 6)))) (fldS 0 (fun k => if k = 0 then some 3 else none) (dcST (keyIt 3) (tgName 7) (yesT) (varS 7) (calS tupleD (consA (binS ixD (varS 3) (varS 7)) (nilA))) [7]))))))
def F_Web_keep : FS := funS io0 8 B_Web_keep
theorem sc_Web_keep : FnScope ["self", "points", "arrows", "steps", "one", "letter", "other", "key"] ["self", "points", "arrows"] (defScope (inClass (top 19) 1)) := ⟨rfl, rfl, rfl, by decide +kernel, rfl, by decide +kernel, by decide +kernel⟩
theorem ok_Web_keep (T : Txt c K mg fa fd) : FnOk P w K mg base (L2.CX P w) 1 (fa 10) (fd 10) ["self", "points", "arrows"] (spD c io0 3 F_Web_keep) := by
  refine T.f_Web_keep.okX sc_Web_keep (spD_len rfl) (fun cdv A outer s H vs Q E hr h => ⟨_, ?_, fun_entry (N := ["self", "points", "arrows", "steps", "one", "letter", "other", "key"]) (by decide) h⟩)
  have ko : Okc c (cxOf (L2.CX P w) P w K mg base ["self", "points", "arrows", "steps", "one", "letter", "other", "key"] "Web.keep" (defScope (inClass (top 19) 1)) (fa 10) cdv A outer s H E) := okc_cx T.hK hr sc_Web_keep.nd
  have tk : Takes (cxOf (L2.CX P w) P w K mg base ["self", "points", "arrows", "steps", "one", "letter", "other", "key"] "Web.keep" (defScope (inClass (top 19) 1)) (fa 10) cdv A outer s H E) (fun cl dd _ H => E cl dd H) := takes_of rfl rfl rfl rfl
  exact (ds_cons (ds_fld (i := 0) (attr_one (n := 0) (j := 0) T.C_Web T.na_Web_points T.nms_Web rfl (by decide +kernel)) ko rfl (by first | exact Or.inl rfl | exact Or.inr (Or.inl rfl) | exact Or.inr (Or.inr rfl)) (pd_var (i := 1) rfl (by first | exact Or.inl rfl | exact Or.inr (Or.inl rfl) | exact Or.inr (Or.inr rfl)))) (ds_cons (ds_fld (i := 0) (attr_one (n := 0) (j := 1) T.C_Web T.na_Web_arrows T.nms_Web rfl (by decide +kernel)) ko rfl (by first | exact Or.inl rfl | exact Or.inr (Or.inl rfl) | exact Or.inr (Or.inr rfl)) (pd_var (i := 2) rfl (by first | exact Or.inl rfl | exact Or.inr (Or.inl rfl) | exact Or.inr (Or.inr rfl)))) (ds_cons (ds_fld (i := 0) (attr_one (n := 0) (j := 2) T.C_Web T.na_Web_kept_letters T.nms_Web rfl (by decide +kernel)) ko rfl (by first | exact Or.inl rfl | exact Or.inr (Or.inl rfl) | exact Or.inr (Or.inr rfl)) (pd_join ko (pd_str (s := []) (by rfl)) (pd_callB (call_sorted2 rfl ko.hu ko.hK) (by first | exact k_sorted2 | exact ko.hK ▸ k_sorted2) (by rfl) T.n_sorted (by decide +kernel) (ad_cons (pd_dc (own := [("one", 4), ("letter", 5), ("other", 6)]) ko (id_seq ko (pd_var (i := 2) rfl (by first | exact Or.inl rfl | exact Or.inr (Or.inl rfl) | exact Or.inr (Or.inr rfl)))) (blkOk_by (N := ["self", "points", "arrows", "steps", "one", "letter", "other", "key"]) (sc := defScope (inClass (top 19) 1)) (by decide +kernel)) (fun s H _ _ fp => (pg_tup (n := 3) rfl (pgs_cons (pg_name (i := 4) sc_Web_keep.nd rfl (by first | exact Or.inl rfl | exact Or.inr rfl)) (pgs_cons (pg_name (i := 5) sc_Web_keep.nd rfl (by first | exact Or.inl rfl | exact Or.inr rfl)) (pgs_cons (pg_name (i := 6) sc_Web_keep.nd rfl (by first | exact Or.inl rfl | exact Or.inr rfl)) pgs_nil))))) (tg_tupX (n := 3) ko (tgs_cons (tg_name (io := (blkIo [4, 5, 6])) (i := 4) (by decide +kernel)) (tgs_cons (tg_name (io := (blkIo [4, 5, 6])) (i := 5) (by decide +kernel)) (tgs_cons (tg_name (io := (blkIo [4, 5, 6])) (i := 6) (by decide +kernel)) tgs_nil))) (len_cons (len_cons (len_cons len_nil)))) (fun s H _ _ fp => td_nil) (fun s H _ _ fp => (pd_var (i := 5) rfl (by first | exact Or.inl rfl | exact Or.inr (Or.inl rfl) | exact Or.inr (Or.inr rfl)))) (fun s H _ _ fp => pd_bl)) ad_nil)))) (ds_cons (ds_set (i := 3) (by decide +kernel) sc_Web_keep.nd rfl (by first | exact Or.inl rfl | exact Or.inr rfl) pd_newT) (ds_cons (ds_for PassesOwn.leaving ko (id_seq ko (pd_var (i := 2) rfl (by first | exact Or.inl rfl | exact Or.inr (Or.inl rfl) | exact Or.inr (Or.inr rfl)))) (pg_tup (n := 3) rfl (pgs_cons (pg_name (i := 4) sc_Web_keep.nd rfl (by first | exact Or.inl rfl | exact Or.inr rfl)) (pgs_cons (pg_name (i := 5) sc_Web_keep.nd rfl (by first | exact Or.inl rfl | exact Or.inr rfl)) (pgs_cons (pg_name (i := 6) sc_Web_keep.nd rfl (by first | exact Or.inl rfl | exact Or.inr rfl)) pgs_nil)))) (tg_tupX (n := 3) ko (tgs_cons (tg_name (io := (fun i => io0 i && decide (i < 3))) (i := 4) (by decide +kernel)) (tgs_cons (tg_name (io := (fun i => io0 i && decide (i < 3))) (i := 5) (by decide +kernel)) (tgs_cons (tg_name (io := (fun i => io0 i && decide (i < 3))) (i := 6) (by decide +kernel)) tgs_nil))) (len_cons (len_cons (len_cons len_nil)))) (ds_one (ds_expr (pd_sda (i := 3) ko rfl (by first | exact Or.inl rfl | exact Or.inr (Or.inl rfl) | exact Or.inr (Or.inr rfl)) (pd_tup (af_cons (pd_var (i := 4) rfl (by first | exact Or.inl rfl | exact Or.inr (Or.inl rfl) | exact Or.inr (Or.inr rfl))) (af_cons (pd_var (i := 5) rfl (by first | exact Or.inl rfl | exact Or.inr (Or.inl rfl) | exact Or.inr (Or.inr rfl))) af_nil))) (pd_var (i := 6) rfl (by first | exact Or.inl rfl | exact Or.inr (Or.inl rfl) | exact Or.inr (Or.inr rfl))) ⟨by rfl, by rfl, by rfl, by rfl⟩)))) (ds_one (ds_fld (i := 0) (attr_one (n := 0) (j := 3) T.C_Web T.na_Web_kept_steps T.nms_Web rfl (by decide +kernel)) ko rfl (by first | exact Or.inl rfl | exact Or.inr (Or.inl rfl) | exact Or.inr (Or.inr rfl)) (pd_dcTK (own := [("key", 7)]) (i := 3) ko rfl (by first | exact Or.inl rfl | exact Or.inr (Or.inl rfl) | exact Or.inr (Or.inr rfl)) (blkOk_by (N := ["self", "points", "arrows", "steps", "one", "letter", "other", "key"]) (sc := defScope (inClass (top 19) 1)) (by decide +kernel)) (fun s H _ _ fp => (pg_name (i := 7) sc_Web_keep.nd rfl (by first | exact Or.inl rfl | exact Or.inr rfl))) (tg_name (io := (blkIo [7])) (i := 7) (by decide +kernel)) (fun s H _ _ fp => td_nil) (fun s H _ _ fp => (pd_var (i := 7) rfl (by first | exact Or.inl rfl | exact Or.inr (Or.inl rfl) | exact Or.inr (Or.inr rfl)))) (fun s H _ _ fp => (pd_callTy call_tuple_of (by first | exact k_tuple | exact (ko.blk s H _ _ fp).hK ▸ k_tuple) (by rfl) T.n_tuple PyProof.Rows.boot_tuple (ad_cons (pd_ix (ko.blk s H _ _ fp) (pd_var (i := 3) rfl (by first | exact Or.inl rfl | exact Or.inr (Or.inl rfl) | exact Or.inr (Or.inr rfl))) (pd_var (i := 7) rfl (by first | exact Or.inl rfl | exact Or.inr (Or.inl rfl) | exact Or.inr (Or.inr rfl)))) ad_nil)))))))))))
def B_Web___init__ : SemS := seqS (iteS (notT (tstT truD (callS ioN 3 F_is_within (consX (varS 1) (consX (conS (.int 1)) (consX (conS (.int 12)) (nilX))))))) (neverS) (nextS)) (seqS (iteS (notT (tstT truD (callS ioN 2 F_are_arrows (consX (varS 2) (consX (varS 1) (nilX)))))) (neverS) (nextS)) (seqS (iteS (notT (tstT truD (callS ioN 2 F_hangs (consX (varS 1) (consX (varS 2) (nilX)))))) (neverS) (nextS)) (exprS (methS io0 3 F_Web_keep (selfO 0 0) (consX (varS 1) (consX (varS 2) (nilX)))))))
def F_Web___init__ : FS := funS io0 3 B_Web___init__
theorem sc_Web___init__ : FnScope ["self", "points", "arrows"] ["self", "points", "arrows"] (defScope (inClass (top 19) 0)) := ⟨rfl, rfl, rfl, by decide +kernel, rfl, by decide +kernel, by decide +kernel⟩
theorem ok_Web___init__ (T : Txt c K mg fa fd) : FnOk P w K mg base (L2.CX P w) 5 (fa 11) (fd 11) ["self", "points", "arrows"] (spD c io0 3 F_Web___init__) := by
  refine T.f_Web___init__.okX sc_Web___init__ (spD_len rfl) (fun cdv A outer s H vs Q E hr h => ⟨_, ?_, fun_entry (N := ["self", "points", "arrows"]) (by decide) h⟩)
  have ko : Okc c (cxOf (L2.CX P w) P w K mg base ["self", "points", "arrows"] "Web.__init__" (defScope (inClass (top 19) 0)) (fa 11) cdv A outer s H E) := okc_cx T.hK hr sc_Web___init__.nd
  have tk : Takes (cxOf (L2.CX P w) P w K mg base ["self", "points", "arrows"] "Web.__init__" (defScope (inClass (top 19) 0)) (fa 11) cdv A outer s H E) (fun cl dd _ H => E cl dd H) := takes_of rfl rfl rfl rfl
  exact (ds_cons (ds_if (td_not (td_tru ko (pd_call (ok_is_within T) (hr.mono (by decide)) (by rfl) T.g_is_within T.k_is_within T.b_is_within tk (ax_cons (pd_var (i := 1) rfl (by first | exact Or.inl rfl | exact Or.inr (Or.inl rfl) | exact Or.inr (Or.inr rfl))) (ax_cons pd_int (ax_cons (pd_glob (d := .int 12) (by rfl) T.v_MOST_POINTS rfl) ax_nil)))))) (ds_one ds_never) ds_nil) (ds_cons (ds_if (td_not (td_tru ko (pd_call (ok_are_arrows T) (hr.mono (by decide)) (by rfl) T.g_are_arrows T.k_are_arrows T.b_are_arrows tk (ax_cons (pd_var (i := 2) rfl (by first | exact Or.inl rfl | exact Or.inr (Or.inl rfl) | exact Or.inr (Or.inr rfl))) (ax_cons (pd_var (i := 1) rfl (by first | exact Or.inl rfl | exact Or.inr (Or.inl rfl) | exact Or.inr (Or.inr rfl))) ax_nil))))) (ds_one ds_never) ds_nil) (ds_cons (ds_if (td_not (td_tru ko (pd_call (ok_hangs T) (hr.mono (by decide)) (by rfl) T.g_hangs T.k_hangs T.b_hangs tk (ax_cons (pd_var (i := 1) rfl (by first | exact Or.inl rfl | exact Or.inr (Or.inl rfl) | exact Or.inr (Or.inr rfl))) (ax_cons (pd_var (i := 2) rfl (by first | exact Or.inl rfl | exact Or.inr (Or.inl rfl) | exact Or.inr (Or.inr rfl))) ax_nil))))) (ds_one ds_never) ds_nil) (ds_one (ds_expr (pd_meth (k := 0) (self_slot (i := 0) rfl (by first | exact Or.inl rfl | exact Or.inr (Or.inl rfl) | exact Or.inr (Or.inr rfl))) T.C_Web T.meth_Web_keep (fun i => by rw [T.nms_Web]; exact fun e => absurd (List.mem_of_getElem? e) (by decide +kernel)) (ok_Web_keep T) (hr.mono (by decide)) T.b_Web_keep tk (ax_cons (pd_var (i := 1) rfl (by first | exact Or.inl rfl | exact Or.inr (Or.inl rfl) | exact Or.inr (Or.inr rfl))) (ax_cons (pd_var (i := 2) rfl (by first | exact Or.inl rfl | exact Or.inr (Or.inl rfl) | exact Or.inr (Or.inr rfl))) ax_nil))))))))
def B_clash_of : SemS := seqS (setS 1 (dcS (itS (varS 0)) (tgName 3) (yesT) (varS 3) (conS (.bl true)) [3])) (seqS (setS 2 (lstS (nilF))) (seqS (forKS 1 (tgName 3) (forS (rng2S (conS (.int 1)) (calS lenD (consA (varS 3) (nilA)))) (tgName 4) (exprS (mutS 2 extendD (consF (lcS (itS (tupS (consF (sliceS (varS 3) (noPart) (partS (varS 4))) (consF (sliceS (varS 3) (partS (varS 4)) (noPart)) (nilF))))) (tgName 5) (cmpT inB (varS 5) (varS 1)) (tupS (consF (varS 5) (consF (varS 3) (nilF)))) [5]) (nilF)))))) (retS (ifV (cmpT gtB (calS lenD (consA (varS 2) (nilA))) (conS (.int 0))) (calS (one fun d => match d with | .lst xs => bestL minX xs | _ => none) (consA (varS 2) (nilA))) (conS .non)))))
def F_clash_of : FS := funS ioN 6 B_clash_of
theorem sc_clash_of : FnScope ["texts", "known", "found", "text", "size", "part"] ["texts"] (defScope (top 21)) := ⟨rfl, rfl, rfl, by decide +kernel, rfl, by decide +kernel, by decide +kernel⟩
theorem ok_clash_of (T : Txt c K mg fa fd) : FnOk P w K mg base (L2.CX P w) 1 (fa 12) (fd 12) ["texts"] (spD c ioN 1 F_clash_of) := by
  refine T.f_clash_of.okX sc_clash_of (spD_len rfl) (fun cdv A outer s H vs Q E hr h => ⟨_, ?_, fun_entry (N := ["texts", "known", "found", "text", "size", "part"]) (by decide) h⟩)
  have ko : Okc c (cxOf (L2.CX P w) P w K mg base ["texts", "known", "found", "text", "size", "part"] "clash_of" (defScope (top 21)) (fa 12) cdv A outer s H E) := okc_cx T.hK hr sc_clash_of.nd
  have tk : Takes (cxOf (L2.CX P w) P w K mg base ["texts", "known", "found", "text", "size", "part"] "clash_of" (defScope (top 21)) (fa 12) cdv A outer s H E) (fun cl dd _ H => E cl dd H) := takes_of rfl rfl rfl rfl
  exact (ds_cons (ds_set (i := 1) (by decide +kernel) sc_clash_of.nd rfl (by first | exact Or.inl rfl | exact Or.inr rfl) (pd_dc (own := [("text", 3)]) ko (id_seq ko (pd_var (i := 0) rfl (by first | exact Or.inl rfl | exact Or.inr (Or.inl rfl) | exact Or.inr (Or.inr rfl)))) (blkOk_by (N := ["texts", "known", "found", "text", "size", "part"]) (sc := defScope (top 21)) (by decide +kernel)) (fun s H _ _ fp => (pg_name (i := 3) sc_clash_of.nd rfl (by first | exact Or.inl rfl | exact Or.inr rfl))) (tg_name (io := (blkIo [3])) (i := 3) (by decide +kernel)) (fun s H _ _ fp => td_nil) (fun s H _ _ fp => (pd_var (i := 3) rfl (by first | exact Or.inl rfl | exact Or.inr (Or.inl rfl) | exact Or.inr (Or.inr rfl)))) (fun s H _ _ fp => pd_bl))) (ds_cons (ds_set (i := 2) (by decide +kernel) sc_clash_of.nd rfl (by first | exact Or.inl rfl | exact Or.inr rfl) (pd_lst af_nil)) (ds_cons (ds_forK (i := 1) PassesOwn.leaving ko rfl (by first | exact Or.inl rfl | exact Or.inr (Or.inl rfl) | exact Or.inr (Or.inr rfl)) (pg_name (i := 3) sc_clash_of.nd rfl (by first | exact Or.inl rfl | exact Or.inr rfl)) (tg_name (io := (fun i => ioN i && decide (i < 1))) (i := 3) (by decide +kernel)) (ds_one (ds_for PassesOwn.leaving ko (id_rng2 (by rfl) T.n_range pd_int (pd_callB call_lenA (by first | exact k_len | exact ko.hK ▸ k_len) (by rfl) T.n_len PySem.boot_len (ad_cons (pd_var (i := 3) rfl (by first | exact Or.inl rfl | exact Or.inr (Or.inl rfl) | exact Or.inr (Or.inr rfl))) ad_nil))) (pg_name (i := 4) sc_clash_of.nd rfl (by first | exact Or.inl rfl | exact Or.inr rfl)) (tg_name (io := (fun i => ioN i && decide (i < 1))) (i := 4) (by decide +kernel)) (ds_one (ds_expr (pd_mut (i := 2) ko F.slot_list_extend F.type_list_extend mt_extend m_extend rfl (by first | exact Or.inl rfl | exact Or.inr (Or.inl rfl) | exact Or.inr (Or.inr rfl)) (af_cons (pd_lc (own := [("part", 5)]) ko (id_seq ko (pd_tup (af_cons (pd_slice ko (pd_var (i := 3) rfl (by first | exact Or.inl rfl | exact Or.inr (Or.inl rfl) | exact Or.inr (Or.inr rfl))) od_none (od_some (pd_var (i := 4) rfl (by first | exact Or.inl rfl | exact Or.inr (Or.inl rfl) | exact Or.inr (Or.inr rfl))))) (af_cons (pd_slice ko (pd_var (i := 3) rfl (by first | exact Or.inl rfl | exact Or.inr (Or.inl rfl) | exact Or.inr (Or.inr rfl))) (od_some (pd_var (i := 4) rfl (by first | exact Or.inl rfl | exact Or.inr (Or.inl rfl) | exact Or.inr (Or.inr rfl)))) od_none) af_nil)))) (blkOk_by (N := ["texts", "known", "found", "text", "size", "part"]) (sc := defScope (top 21)) (by decide +kernel)) (fun s H _ _ fp => (pg_name (i := 5) sc_clash_of.nd rfl (by first | exact Or.inl rfl | exact Or.inr rfl))) (tg_name (io := (blkIo [5])) (i := 5) (by decide +kernel)) (fun s H _ _ fp => (td_one (td_cmp (op_inA (ko.blk s H _ _ fp).hu) (c_in (ko.blk s H _ _ fp).hK) (pd_var (i := 5) rfl (by first | exact Or.inl rfl | exact Or.inr (Or.inl rfl) | exact Or.inr (Or.inr rfl))) (pd_var (i := 1) rfl (by first | exact Or.inl rfl | exact Or.inr (Or.inl rfl) | exact Or.inr (Or.inr rfl))) rfl))) (fun s H _ _ fp => (pd_tup (af_cons (pd_var (i := 5) rfl (by first | exact Or.inl rfl | exact Or.inr (Or.inl rfl) | exact Or.inr (Or.inr rfl))) (af_cons (pd_var (i := 3) rfl (by first | exact Or.inl rfl | exact Or.inr (Or.inl rfl) | exact Or.inr (Or.inr rfl))) af_nil))))) af_nil))))))) (ds_one (ds_ret (pd_if (td_cmp (op_gtD ko.hu) (c_ord ko.hK _) (pd_callB call_lenA (by first | exact k_len | exact ko.hK ▸ k_len) (by rfl) T.n_len PySem.boot_len (ad_cons (pd_var (i := 2) rfl (by first | exact Or.inl rfl | exact Or.inr (Or.inl rfl) | exact Or.inr (Or.inr rfl))) ad_nil)) pd_int) (pd_callB (call_minA ko.hK rfl ko.hu) (k_best fun xs x => (min_py xs x).2) (by rfl) T.n_min (by decide +kernel) (ad_cons (pd_var (i := 2) rfl (by first | exact Or.inl rfl | exact Or.inr (Or.inl rfl) | exact Or.inr (Or.inr rfl))) ad_nil)) pd_non))))))
def B_clash : SemS := seqS (iteS (orT (notT (tstT truD (callS ioN 1 F_is_listed (consX (varS 0) (nilX))))) (notT (tstT truD (calS allD (consA (lcS (itS (varS 0)) (tgName 1) (yesT) (andV (callS ioN 1 F_is_text (consX (varS 1) (nilX))) (binS (boolR gtB) (calS lenD (consA (varS 1) (nilA))) (conS (.int 0)))) [1]) (nilA)))))) (raiseS 3) (nextS)) (retS (callS ioN 1 F_clash_of (consX (varS 0) (nilX))))
def F_clash : FS := funS ioN 2 B_clash
theorem sc_clash : FnScope ["texts", "text"] ["texts"] (defScope (top 22)) := ⟨rfl, rfl, rfl, by decide +kernel, rfl, by decide +kernel, by decide +kernel⟩
theorem ok_clash (T : Txt c K mg fa fd) : FnOk P w K mg base (L2.CX P w) 2 (fa 13) (fd 13) ["texts"] (spD c ioN 1 F_clash) := by
  refine T.f_clash.okX sc_clash (spD_len rfl) (fun cdv A outer s H vs Q E hr h => ⟨_, ?_, fun_entry (N := ["texts", "text"]) (by decide) h⟩)
  have ko : Okc c (cxOf (L2.CX P w) P w K mg base ["texts", "text"] "clash" (defScope (top 22)) (fa 13) cdv A outer s H E) := okc_cx T.hK hr sc_clash.nd
  have tk : Takes (cxOf (L2.CX P w) P w K mg base ["texts", "text"] "clash" (defScope (top 22)) (fa 13) cdv A outer s H E) (fun cl dd _ H => E cl dd H) := takes_of rfl rfl rfl rfl
  exact (ds_cons (ds_if (td_or (td_not (td_tru ko (pd_call (ok_is_listed T) (hr.mono (by decide)) (by rfl) T.g_is_listed T.k_is_listed T.b_is_listed tk (ax_cons (pd_var (i := 0) rfl (by first | exact Or.inl rfl | exact Or.inr (Or.inl rfl) | exact Or.inr (Or.inr rfl))) ax_nil)))) (td_or1 (td_not (td_tru ko (pd_callB (cr_all rfl) (by first | exact k_all | exact ko.hK ▸ k_all) (by rfl) T.n_all (by decide +kernel) (ad_cons (pd_lc (own := [("text", 1)]) ko (id_seq ko (pd_var (i := 0) rfl (by first | exact Or.inl rfl | exact Or.inr (Or.inl rfl) | exact Or.inr (Or.inr rfl)))) (blkOk_by (N := ["texts", "text"]) (sc := defScope (top 22)) (by decide +kernel)) (fun s H _ _ fp => (pg_name (i := 1) sc_clash.nd rfl (by first | exact Or.inl rfl | exact Or.inr rfl))) (tg_name (io := (blkIo [1])) (i := 1) (by decide +kernel)) (fun s H _ _ fp => td_nil) (fun s H _ _ fp => (pd_and (pd_call (ok_is_text T) (hr.mono (by decide)) (by rfl) T.g_is_text T.k_is_text T.b_is_text takes0 (ax_cons (pd_var (i := 1) rfl (by first | exact Or.inl rfl | exact Or.inr (Or.inl rfl) | exact Or.inr (Or.inr rfl))) ax_nil)) (pd_one (pd_cmp (op_gtD (ko.blk s H _ _ fp).hu) (c_ord (ko.blk s H _ _ fp).hK _) (pd_callB call_lenA (by first | exact k_len | exact (ko.blk s H _ _ fp).hK ▸ k_len) (by rfl) T.n_len PySem.boot_len (ad_cons (pd_var (i := 1) rfl (by first | exact Or.inl rfl | exact Or.inr (Or.inl rfl) | exact Or.inr (Or.inr rfl))) ad_nil)) pd_int))))) ad_nil)))))).pt (ds_one (ds_raise0 (k := 3) rfl tk F.excBase_ValueError T.e_NoTexts.1 T.e_NoTexts.2.1 T.e_NoTexts.2.2.1 (raises_own T.e_NoTexts.2.2.2.1 T.e_NoTexts.2.2.2.2) (by rfl))) ds_nil) (ds_one (ds_ret (pd_call (ok_clash_of T) (hr.mono (by decide)) (by rfl) T.g_clash_of T.k_clash_of T.b_clash_of tk (ax_cons (pd_var (i := 0) rfl (by first | exact Or.inl rfl | exact Or.inr (Or.inl rfl) | exact Or.inr (Or.inr rfl))) ax_nil)))))
def B__law_hand : SemS := seqS (setS 1 (lcS (itS (sliceS (varS 0) (noPart) (partS (conS (.int 63))))) (tgName 2) (yesT) (calS absD (consA (calS intD (consA (varS 2) (nilA))) (nilA))) [2])) (retS (lstS (consF (varS 1) (consF (conS (.int 0)) (consF (conS (.int 0)) (consF (binS addD (conS (.int 1)) (calS lenD (consA (varS 1) (nilA)))) (consF (conS (.int 0)) (nilF))))))))
def F__law_hand : FS := funS ioN 3 B__law_hand
theorem sc__law_hand : FnScope ["_law_script", "_law_cells", "_law_cell"] ["_law_script"] (defScope (top 24)) := ⟨rfl, rfl, rfl, by decide +kernel, rfl, by decide +kernel, by decide +kernel⟩
theorem ok__law_hand (T : Txt c K mg fa fd) : FnOk P w K mg base (L2.CX P w) 1 (fa 14) (fd 14) ["_law_script"] (spD c ioN 1 F__law_hand) := by
  refine T.f__law_hand.okX sc__law_hand (spD_len rfl) (fun cdv A outer s H vs Q E hr h => ⟨_, ?_, fun_entry (N := ["_law_script", "_law_cells", "_law_cell"]) (by decide) h⟩)
  have ko : Okc c (cxOf (L2.CX P w) P w K mg base ["_law_script", "_law_cells", "_law_cell"] "_law_hand" (defScope (top 24)) (fa 14) cdv A outer s H E) := okc_cx T.hK hr sc__law_hand.nd
  have tk : Takes (cxOf (L2.CX P w) P w K mg base ["_law_script", "_law_cells", "_law_cell"] "_law_hand" (defScope (top 24)) (fa 14) cdv A outer s H E) (fun cl dd _ H => E cl dd H) := takes_of rfl rfl rfl rfl
  exact (ds_cons (by first | exact (ds_setLc (own := [("_law_cell", 2)]) (i := 1) ko (by decide +kernel) rfl (by rfl) (by rfl) (id_seq ko (pd_slice ko (pd_var (i := 0) rfl (by first | exact Or.inl rfl | exact Or.inr (Or.inl rfl) | exact Or.inr (Or.inr rfl))) od_none (od_some pd_int))) (blkOk_by (N := ["_law_script", "_law_cells", "_law_cell"]) (sc := defScope (top 24)) (by decide +kernel)) (fun s H _ _ fp => (pg_name (i := 2) sc__law_hand.nd rfl (by first | exact Or.inl rfl | exact Or.inr rfl))) (tg_name (io := (blkIo [2])) (i := 2) (by decide +kernel)) (fun s H _ _ fp => td_nil) (fun s H _ _ fp => (pd_callB call_abs (by first | exact k_abs | exact (ko.blk s H _ _ fp).hK ▸ k_abs) (by rfl) T.n_abs (by decide +kernel) (ad_cons (pd_callTy call_int1 (by first | exact k_int | exact (ko.blk s H _ _ fp).hK ▸ k_int) (by rfl) T.n_int PyProof.Rows.boot_int (ad_cons (pd_var (i := 2) rfl (by first | exact Or.inl rfl | exact Or.inr (Or.inl rfl) | exact Or.inr (Or.inr rfl))) ad_nil)) ad_nil)))) | exact (ds_set (i := 1) (by decide +kernel) sc__law_hand.nd rfl (by first | exact Or.inl rfl | exact Or.inr rfl) (pd_lc (own := [("_law_cell", 2)]) ko (id_seq ko (pd_slice ko (pd_var (i := 0) rfl (by first | exact Or.inl rfl | exact Or.inr (Or.inl rfl) | exact Or.inr (Or.inr rfl))) od_none (od_some pd_int))) (blkOk_by (N := ["_law_script", "_law_cells", "_law_cell"]) (sc := defScope (top 24)) (by decide +kernel)) (fun s H _ _ fp => (pg_name (i := 2) sc__law_hand.nd rfl (by first | exact Or.inl rfl | exact Or.inr rfl))) (tg_name (io := (blkIo [2])) (i := 2) (by decide +kernel)) (fun s H _ _ fp => td_nil) (fun s H _ _ fp => (pd_callB call_abs (by first | exact k_abs | exact (ko.blk s H _ _ fp).hK ▸ k_abs) (by rfl) T.n_abs (by decide +kernel) (ad_cons (pd_callTy call_int1 (by first | exact k_int | exact (ko.blk s H _ _ fp).hK ▸ k_int) (by rfl) T.n_int PyProof.Rows.boot_int (ad_cons (pd_var (i := 2) rfl (by first | exact Or.inl rfl | exact Or.inr (Or.inl rfl) | exact Or.inr (Or.inr rfl))) ad_nil)) ad_nil)))))) (ds_one (ds_ret (pd_lst (af_cons (pd_var (i := 1) rfl (by first | exact Or.inl rfl | exact Or.inr (Or.inl rfl) | exact Or.inr (Or.inr rfl))) (af_cons pd_int (af_cons pd_int (af_cons (pd_bin (op_addA) (o_add ko.hK) pd_int (pd_callB call_lenA (by first | exact k_len | exact ko.hK ▸ k_len) (by rfl) T.n_len PySem.boot_len (ad_cons (pd_var (i := 1) rfl (by first | exact Or.inl rfl | exact Or.inr (Or.inl rfl) | exact Or.inr (Or.inr rfl))) ad_nil))) (af_cons pd_int af_nil)))))))))
def B__law_draw : SemS := seqS (iteS (andT (cmpT eqB (binS ixD (varS 0) (conS (.int 2))) (conS (.int 0))) (cmpT ltB (binS ixD (varS 0) (conS (.int 1))) (calS lenD (consA (binS ixD (varS 0) (conS (.int 0))) (nilA))))) (seqS (setS 2 (binS ixD (binS ixD (varS 0) (conS (.int 0))) (binS ixD (varS 0) (conS (.int 1))))) (seqS (putS 0 (conS (.int 1)) (binS addD (binS ixD (varS 0) (conS (.int 1))) (conS (.int 1)))) (seqS (putS 0 (conS (.int 3)) (binS modD (calS intD (consA (binS addD (binS addD (binS mulD (binS ixD (varS 0) (conS (.int 3))) (conS (.int 69621))) (varS 2)) (conS (.int 11))) (nilA))) (conS (.int 2147483629)))) (iteS (cmpT geB (varS 2) (binS powD (conS (.int 10)) (conS (.int 18)))) (putS 0 (conS (.int 2)) (varS 2)) (nextS))))) (nextS)) (seqS (iteS (cmpT gtB (binS ixD (varS 0) (conS (.int 2))) (conS (.int 0))) (seqS (setS 3 (binS modD (calS intD (consA (binS ixD (varS 0) (conS (.int 2))) (nilA))) (varS 1))) (seqS (putS 0 (conS (.int 2)) (binS fdD (binS ixD (varS 0) (conS (.int 2))) (varS 1))) (retS (varS 3)))) (nextS)) (seqS (putS 0 (conS (.int 4)) (binS addD (binS ixD (varS 0) (conS (.int 4))) (conS (.int 1)))) (seqS (setS 4 (binS modD (calS intD (consA (binS mulD (calS intD (consA (binS addD (binS ixD (varS 0) (conS (.int 3))) (binS mulD (conS (.int 7919)) (binS ixD (varS 0) (conS (.int 4))))) (nilA))) (conS (.int 48271))) (nilA))) (conS (.int 2147483647)))) (seqS (setS 4 (binS modD (calS intD (consA (binS mulD (varS 4) (binS addD (binS fdD (varS 4) (conS (.int 1009))) (conS (.int 69621)))) (nilA))) (conS (.int 2147483647)))) (seqS (setS 4 (binS modD (calS intD (consA (binS mulD (varS 4) (binS addD (binS fdD (varS 4) (conS (.int 2003))) (conS (.int 40692)))) (nilA))) (conS (.int 2147483399)))) (retS (binS modD (calS intD (consA (binS fdD (varS 4) (conS (.int 16))) (nilA))) (varS 1))))))))
def F__law_draw : FS := funS io0 5 B__law_draw
theorem sc__law_draw : FnScope ["_law_hand_here", "_law_many", "_law_cell", "_law_digit", "_law_number"] ["_law_hand_here", "_law_many"] (defScope (top 25)) := ⟨rfl, rfl, rfl, by decide +kernel, rfl, by decide +kernel, by decide +kernel⟩
theorem ok__law_draw (T : Txt c K mg fa fd) : FnOk P w K mg base (L2.CX P w) 1 (fa 15) (fd 15) ["_law_hand_here", "_law_many"] (spD c io0 2 F__law_draw) := by
  refine T.f__law_draw.okX sc__law_draw (spD_len rfl) (fun cdv A outer s H vs Q E hr h => ⟨_, ?_, fun_entry (N := ["_law_hand_here", "_law_many", "_law_cell", "_law_digit", "_law_number"]) (by decide) h⟩)
  have ko : Okc c (cxOf (L2.CX P w) P w K mg base ["_law_hand_here", "_law_many", "_law_cell", "_law_digit", "_law_number"] "_law_draw" (defScope (top 25)) (fa 15) cdv A outer s H E) := okc_cx T.hK hr sc__law_draw.nd
  have tk : Takes (cxOf (L2.CX P w) P w K mg base ["_law_hand_here", "_law_many", "_law_cell", "_law_digit", "_law_number"] "_law_draw" (defScope (top 25)) (fa 15) cdv A outer s H E) (fun cl dd _ H => E cl dd H) := takes_of rfl rfl rfl rfl
  exact (ds_cons (ds_if (td_and (td_cmp (op_eqD (by have := ko.hu; omega)) (c_eq ko.hK) (pd_ix ko (pd_var (i := 0) rfl (by first | exact Or.inl rfl | exact Or.inr (Or.inl rfl) | exact Or.inr (Or.inr rfl))) pd_int) pd_int) (td_and1 (td_cmp (op_ltD ko.hu) (c_ord ko.hK _) (pd_ix ko (pd_var (i := 0) rfl (by first | exact Or.inl rfl | exact Or.inr (Or.inl rfl) | exact Or.inr (Or.inr rfl))) pd_int) (pd_callB call_lenA (by first | exact k_len | exact ko.hK ▸ k_len) (by rfl) T.n_len PySem.boot_len (ad_cons (pd_ix ko (pd_var (i := 0) rfl (by first | exact Or.inl rfl | exact Or.inr (Or.inl rfl) | exact Or.inr (Or.inr rfl))) pd_int) ad_nil))))).pt (ds_cons (ds_set (i := 2) (by decide +kernel) sc__law_draw.nd rfl (by first | exact Or.inl rfl | exact Or.inr rfl) (pd_ix ko (pd_ix ko (pd_var (i := 0) rfl (by first | exact Or.inl rfl | exact Or.inr (Or.inl rfl) | exact Or.inr (Or.inr rfl))) pd_int) (pd_ix ko (pd_var (i := 0) rfl (by first | exact Or.inl rfl | exact Or.inr (Or.inl rfl) | exact Or.inr (Or.inr rfl))) pd_int))) (ds_cons (ds_put ko rfl (by first | exact Or.inl rfl | exact Or.inr (Or.inl rfl) | exact Or.inr (Or.inr rfl)) pd_int (pd_bin (op_addA) (o_add ko.hK) (pd_ix ko (pd_var (i := 0) rfl (by first | exact Or.inl rfl | exact Or.inr (Or.inl rfl) | exact Or.inr (Or.inr rfl))) pd_int) pd_int) (hpg := pg_put ko rfl (by first | exact Or.inl rfl | exact Or.inr (Or.inl rfl) | exact Or.inr (Or.inr rfl)) pd_int)) (ds_cons (ds_put ko rfl (by first | exact Or.inl rfl | exact Or.inr (Or.inl rfl) | exact Or.inr (Or.inr rfl)) pd_int (pd_bin op_mod o_mod (pd_callTy call_int1 (by first | exact k_int | exact ko.hK ▸ k_int) (by rfl) T.n_int PyProof.Rows.boot_int (ad_cons (pd_bin (op_addA) (o_add ko.hK) (pd_bin (op_addA) (o_add ko.hK) (pd_bin (op_mulA) o_mul (pd_ix ko (pd_var (i := 0) rfl (by first | exact Or.inl rfl | exact Or.inr (Or.inl rfl) | exact Or.inr (Or.inr rfl))) pd_int) pd_int) (pd_var (i := 2) rfl (by first | exact Or.inl rfl | exact Or.inr (Or.inl rfl) | exact Or.inr (Or.inr rfl)))) pd_int) ad_nil)) pd_int) (hpg := pg_put ko rfl (by first | exact Or.inl rfl | exact Or.inr (Or.inl rfl) | exact Or.inr (Or.inr rfl)) pd_int)) (ds_one (ds_if (td_cmp (op_geD ko.hu) (c_ord ko.hK _) (pd_var (i := 2) rfl (by first | exact Or.inl rfl | exact Or.inr (Or.inl rfl) | exact Or.inr (Or.inr rfl))) (pd_bin op_pow o_pow pd_int pd_int)) (ds_one (ds_put ko rfl (by first | exact Or.inl rfl | exact Or.inr (Or.inl rfl) | exact Or.inr (Or.inr rfl)) pd_int (pd_var (i := 2) rfl (by first | exact Or.inl rfl | exact Or.inr (Or.inl rfl) | exact Or.inr (Or.inr rfl))) (hpg := pg_put ko rfl (by first | exact Or.inl rfl | exact Or.inr (Or.inl rfl) | exact Or.inr (Or.inr rfl)) pd_int))) ds_nil))))) ds_nil) (ds_cons (ds_if (td_cmp (op_gtD ko.hu) (c_ord ko.hK _) (pd_ix ko (pd_var (i := 0) rfl (by first | exact Or.inl rfl | exact Or.inr (Or.inl rfl) | exact Or.inr (Or.inr rfl))) pd_int) pd_int) (ds_cons (ds_set (i := 3) (by decide +kernel) sc__law_draw.nd rfl (by first | exact Or.inl rfl | exact Or.inr rfl) (pd_bin op_mod o_mod (pd_callTy call_int1 (by first | exact k_int | exact ko.hK ▸ k_int) (by rfl) T.n_int PyProof.Rows.boot_int (ad_cons (pd_ix ko (pd_var (i := 0) rfl (by first | exact Or.inl rfl | exact Or.inr (Or.inl rfl) | exact Or.inr (Or.inr rfl))) pd_int) ad_nil)) (pd_var (i := 1) rfl (by first | exact Or.inl rfl | exact Or.inr (Or.inl rfl) | exact Or.inr (Or.inr rfl))))) (ds_cons (ds_put ko rfl (by first | exact Or.inl rfl | exact Or.inr (Or.inl rfl) | exact Or.inr (Or.inr rfl)) pd_int (pd_bin op_fdiv o_fd (pd_ix ko (pd_var (i := 0) rfl (by first | exact Or.inl rfl | exact Or.inr (Or.inl rfl) | exact Or.inr (Or.inr rfl))) pd_int) (pd_var (i := 1) rfl (by first | exact Or.inl rfl | exact Or.inr (Or.inl rfl) | exact Or.inr (Or.inr rfl)))) (hpg := pg_put ko rfl (by first | exact Or.inl rfl | exact Or.inr (Or.inl rfl) | exact Or.inr (Or.inr rfl)) pd_int)) (ds_one (ds_ret (pd_var (i := 3) rfl (by first | exact Or.inl rfl | exact Or.inr (Or.inl rfl) | exact Or.inr (Or.inr rfl))))))) ds_nil) (ds_cons (ds_put ko rfl (by first | exact Or.inl rfl | exact Or.inr (Or.inl rfl) | exact Or.inr (Or.inr rfl)) pd_int (pd_bin (op_addA) (o_add ko.hK) (pd_ix ko (pd_var (i := 0) rfl (by first | exact Or.inl rfl | exact Or.inr (Or.inl rfl) | exact Or.inr (Or.inr rfl))) pd_int) pd_int) (hpg := pg_put ko rfl (by first | exact Or.inl rfl | exact Or.inr (Or.inl rfl) | exact Or.inr (Or.inr rfl)) pd_int)) (ds_cons (ds_set (i := 4) (by decide +kernel) sc__law_draw.nd rfl (by first | exact Or.inl rfl | exact Or.inr rfl) (pd_bin op_mod o_mod (pd_callTy call_int1 (by first | exact k_int | exact ko.hK ▸ k_int) (by rfl) T.n_int PyProof.Rows.boot_int (ad_cons (pd_bin (op_mulA) o_mul (pd_callTy call_int1 (by first | exact k_int | exact ko.hK ▸ k_int) (by rfl) T.n_int PyProof.Rows.boot_int (ad_cons (pd_bin (op_addA) (o_add ko.hK) (pd_ix ko (pd_var (i := 0) rfl (by first | exact Or.inl rfl | exact Or.inr (Or.inl rfl) | exact Or.inr (Or.inr rfl))) pd_int) (pd_bin (op_mulA) o_mul pd_int (pd_ix ko (pd_var (i := 0) rfl (by first | exact Or.inl rfl | exact Or.inr (Or.inl rfl) | exact Or.inr (Or.inr rfl))) pd_int))) ad_nil)) pd_int) ad_nil)) pd_int)) (ds_cons (ds_set (i := 4) (by decide +kernel) sc__law_draw.nd rfl (by first | exact Or.inl rfl | exact Or.inr rfl) (pd_bin op_mod o_mod (pd_callTy call_int1 (by first | exact k_int | exact ko.hK ▸ k_int) (by rfl) T.n_int PyProof.Rows.boot_int (ad_cons (pd_bin (op_mulA) o_mul (pd_var (i := 4) rfl (by first | exact Or.inl rfl | exact Or.inr (Or.inl rfl) | exact Or.inr (Or.inr rfl))) (pd_bin (op_addA) (o_add ko.hK) (pd_bin op_fdiv o_fd (pd_var (i := 4) rfl (by first | exact Or.inl rfl | exact Or.inr (Or.inl rfl) | exact Or.inr (Or.inr rfl))) pd_int) pd_int)) ad_nil)) pd_int)) (ds_cons (ds_set (i := 4) (by decide +kernel) sc__law_draw.nd rfl (by first | exact Or.inl rfl | exact Or.inr rfl) (pd_bin op_mod o_mod (pd_callTy call_int1 (by first | exact k_int | exact ko.hK ▸ k_int) (by rfl) T.n_int PyProof.Rows.boot_int (ad_cons (pd_bin (op_mulA) o_mul (pd_var (i := 4) rfl (by first | exact Or.inl rfl | exact Or.inr (Or.inl rfl) | exact Or.inr (Or.inr rfl))) (pd_bin (op_addA) (o_add ko.hK) (pd_bin op_fdiv o_fd (pd_var (i := 4) rfl (by first | exact Or.inl rfl | exact Or.inr (Or.inl rfl) | exact Or.inr (Or.inr rfl))) pd_int) pd_int)) ad_nil)) pd_int)) (ds_one (ds_ret (pd_bin op_mod o_mod (pd_callTy call_int1 (by first | exact k_int | exact ko.hK ▸ k_int) (by rfl) T.n_int PyProof.Rows.boot_int (ad_cons (pd_bin op_fdiv o_fd (pd_var (i := 4) rfl (by first | exact Or.inl rfl | exact Or.inr (Or.inl rfl) | exact Or.inr (Or.inr rfl))) pd_int) ad_nil)) (pd_var (i := 1) rfl (by first | exact Or.inl rfl | exact Or.inr (Or.inl rfl) | exact Or.inr (Or.inr rfl))))))))))))
def B__law_is (F_rec : FS) : SemS := seqS (iteS (tstT truD (isiS (isiB nc ["tuple", "list"]) (varS 1))) (seqS (iteS (orT (cmpT neB (isiS (isiB nc ["tuple"]) (varS 0)) (isiS (isiB nc ["tuple"]) (varS 1))) (notT (tstT truD (isiS (isiB nc ["tuple", "list"]) (varS 0))))) (retS (conS (.bl false))) (nextS)) (retS (andV (binS (boolR eqB) (calS lenD (consA (varS 0) (nilA))) (calS lenD (consA (varS 1) (nilA)))) (calS allD (consA (lcS (itA zipD (consF (varS 0) (consF (varS 1) (nilF)))) (tgTup (tgsCons (tgName 2) (tgsCons (tgName 3) (tgsNil)))) (yesT) (callS ioN 2 F_rec (consX (varS 2) (consX (varS 3) (nilX)))) [2, 3]) (nilA)))))) (nextS)) (retS (andV (binS (boolR eqB) (isiS (isiB nc ["bool"]) (varS 0)) (isiS (isiB nc ["bool"]) (varS 1))) (binS (boolR eqB) (varS 0) (varS 1))))
def F__law_is : Nat → FS
  | 0 => fun _ => none
  | n + 1 => funS ioN 4 (B__law_is (F__law_is n))
theorem sc__law_is : FnScope ["_law_told_here", "_law_due", "_law_one", "_law_two"] ["_law_told_here", "_law_due"] (defScope (top 26)) := ⟨rfl, rfl, rfl, by decide +kernel, rfl, by decide +kernel, by decide +kernel⟩
theorem ok__law_is (T : Txt c K mg fa fd) : ∀ n : Nat, FnOk P w K mg base (L2.CX P w) (1 + n) (fa 16) (fd 16) ["_law_told_here", "_law_due"] (spD c ioN 2 (F__law_is n))
  | 0 => ok_none rfl
  | m + 1 => by
    have ih := ok__law_is T m
    refine T.f__law_is.okX sc__law_is (spD_len rfl) (fun cdv A outer s H vs Q E hr h => ⟨_, ?_, fun_entry (N := ["_law_told_here", "_law_due", "_law_one", "_law_two"]) (by decide) h⟩)
    have hr : Room (1 + m) _ := hr
    have ko : Okc c (cxOf (L2.CX P w) P w K mg base ["_law_told_here", "_law_due", "_law_one", "_law_two"] "_law_is" (defScope (top 26)) (fa 16) cdv A outer s H E) := okc_cx T.hK hr sc__law_is.nd
    have tk : Takes (cxOf (L2.CX P w) P w K mg base ["_law_told_here", "_law_due", "_law_one", "_law_two"] "_law_is" (defScope (top 26)) (fa 16) cdv A outer s H E) (fun cl dd _ H => E cl dd H) := takes_of rfl rfl rfl rfl
    exact (ds_cons (ds_if (td_tru ko (pd_isiT (isi_tab (l := ["tuple", "list"]) (T.ob _ rfl) (by decide) (by intro T hT; simp only [List.mem_cons, List.not_mem_nil, or_false] at hT; rcases hT with rfl | rfl | rfl | rfl | rfl | rfl | rfl <;> rfl)) (cvs := [.ty "tuple", .ty "list"]) (.cons (.ty _) (.cons (.ty _) .nil)) (by decide) (by rfl) T.n_isinstance (pd_var (i := 1) rfl (by first | exact Or.inl rfl | exact Or.inr (Or.inl rfl) | exact Or.inr (Or.inr rfl))) (pa_cons (pe_bltn (v := .ty "tuple") (by rfl) T.n_tuple PyProof.Rows.boot_tuple rfl (by decide +kernel) (by decide +kernel)) (pa_cons (pe_bltn (v := .ty "list") (by rfl) T.n_list PyProof.Rows.boot_list rfl (by decide +kernel) (by decide +kernel)) pa_nil)) (fun _ _ _ q => q))) (ds_cons (ds_if (td_or (td_cmp (op_neD (by have := ko.hu; omega)) (c_ne ko.hK) (pd_isi (isi_one (isi_tab (l := ["tuple"]) (T.ob _ rfl) (by decide) (by intro T hT; simp only [List.mem_cons, List.not_mem_nil, or_false] at hT; rcases hT with rfl | rfl | rfl | rfl | rfl | rfl | rfl <;> rfl))) (.ty _) (by rfl) T.n_isinstance (pd_var (i := 0) rfl (by first | exact Or.inl rfl | exact Or.inr (Or.inl rfl) | exact Or.inr (Or.inr rfl))) (pe_bltn (v := .ty "tuple") (by rfl) T.n_tuple PyProof.Rows.boot_tuple rfl (by decide +kernel) (by decide +kernel))) (pd_isi (isi_one (isi_tab (l := ["tuple"]) (T.ob _ rfl) (by decide) (by intro T hT; simp only [List.mem_cons, List.not_mem_nil, or_false] at hT; rcases hT with rfl | rfl | rfl | rfl | rfl | rfl | rfl <;> rfl))) (.ty _) (by rfl) T.n_isinstance (pd_var (i := 1) rfl (by first | exact Or.inl rfl | exact Or.inr (Or.inl rfl) | exact Or.inr (Or.inr rfl))) (pe_bltn (v := .ty "tuple") (by rfl) T.n_tuple PyProof.Rows.boot_tuple rfl (by decide +kernel) (by decide +kernel)))) (td_or1 (td_not (td_tru ko (pd_isiT (isi_tab (l := ["tuple", "list"]) (T.ob _ rfl) (by decide) (by intro T hT; simp only [List.mem_cons, List.not_mem_nil, or_false] at hT; rcases hT with rfl | rfl | rfl | rfl | rfl | rfl | rfl <;> rfl)) (cvs := [.ty "tuple", .ty "list"]) (.cons (.ty _) (.cons (.ty _) .nil)) (by decide) (by rfl) T.n_isinstance (pd_var (i := 0) rfl (by first | exact Or.inl rfl | exact Or.inr (Or.inl rfl) | exact Or.inr (Or.inr rfl))) (pa_cons (pe_bltn (v := .ty "tuple") (by rfl) T.n_tuple PyProof.Rows.boot_tuple rfl (by decide +kernel) (by decide +kernel)) (pa_cons (pe_bltn (v := .ty "list") (by rfl) T.n_list PyProof.Rows.boot_list rfl (by decide +kernel) (by decide +kernel)) pa_nil)) (fun _ _ _ q => q)))))).pt (ds_one (ds_ret pd_bl)) ds_nil) (ds_one (ds_ret (pd_and (pd_cmp (op_eqD (by have := ko.hu; omega)) (c_eq ko.hK) (pd_callB call_lenA (by first | exact k_len | exact ko.hK ▸ k_len) (by rfl) T.n_len PySem.boot_len (ad_cons (pd_var (i := 0) rfl (by first | exact Or.inl rfl | exact Or.inr (Or.inl rfl) | exact Or.inr (Or.inr rfl))) ad_nil)) (pd_callB call_lenA (by first | exact k_len | exact ko.hK ▸ k_len) (by rfl) T.n_len PySem.boot_len (ad_cons (pd_var (i := 1) rfl (by first | exact Or.inl rfl | exact Or.inr (Or.inl rfl) | exact Or.inr (Or.inr rfl))) ad_nil))) (pd_one (pd_callB (cr_all rfl) (by first | exact k_all | exact ko.hK ▸ k_all) (by rfl) T.n_all (by decide +kernel) (ad_cons (pd_lc (own := [("_law_one", 2), ("_law_two", 3)]) ko (id_zip ko (by rfl) T.n_zip (af_cons (pd_var (i := 0) rfl (by first | exact Or.inl rfl | exact Or.inr (Or.inl rfl) | exact Or.inr (Or.inr rfl))) (af_cons (pd_var (i := 1) rfl (by first | exact Or.inl rfl | exact Or.inr (Or.inl rfl) | exact Or.inr (Or.inr rfl))) af_nil))) (blkOk_by (N := ["_law_told_here", "_law_due", "_law_one", "_law_two"]) (sc := defScope (top 26)) (by decide +kernel)) (fun s H _ _ fp => (pg_tup (n := 2) rfl (pgs_cons (pg_name (i := 2) sc__law_is.nd rfl (by first | exact Or.inl rfl | exact Or.inr rfl)) (pgs_cons (pg_name (i := 3) sc__law_is.nd rfl (by first | exact Or.inl rfl | exact Or.inr rfl)) pgs_nil)))) (tg_tupX (n := 2) ko (tgs_cons (tg_name (io := (blkIo [2, 3])) (i := 2) (by decide +kernel)) (tgs_cons (tg_name (io := (blkIo [2, 3])) (i := 3) (by decide +kernel)) tgs_nil)) (len_cons (len_cons len_nil))) (fun s H _ _ fp => td_nil) (fun s H _ _ fp => (pd_call ih (hr.mono (by omega)) (by rfl) T.g__law_is T.k__law_is T.b__law_is takes0 (ax_cons (pd_var (i := 2) rfl (by first | exact Or.inl rfl | exact Or.inr (Or.inl rfl) | exact Or.inr (Or.inr rfl))) (ax_cons (pd_var (i := 3) rfl (by first | exact Or.inl rfl | exact Or.inr (Or.inl rfl) | exact Or.inr (Or.inr rfl))) ax_nil))))) ad_nil))))))) ds_nil) (ds_one (ds_ret (pd_and (pd_cmp (op_eqD (by have := ko.hu; omega)) (c_eq ko.hK) (pd_isi (isi_one (isi_tab (l := ["bool"]) (T.ob _ rfl) (by decide) (by intro T hT; simp only [List.mem_cons, List.not_mem_nil, or_false] at hT; rcases hT with rfl | rfl | rfl | rfl | rfl | rfl | rfl <;> rfl))) (.ty _) (by rfl) T.n_isinstance (pd_var (i := 0) rfl (by first | exact Or.inl rfl | exact Or.inr (Or.inl rfl) | exact Or.inr (Or.inr rfl))) (pe_bltn (v := .ty "bool") (by rfl) T.n_bool PyProof.Rows.boot_bool rfl (by decide +kernel) (by decide +kernel))) (pd_isi (isi_one (isi_tab (l := ["bool"]) (T.ob _ rfl) (by decide) (by intro T hT; simp only [List.mem_cons, List.not_mem_nil, or_false] at hT; rcases hT with rfl | rfl | rfl | rfl | rfl | rfl | rfl <;> rfl))) (.ty _) (by rfl) T.n_isinstance (pd_var (i := 1) rfl (by first | exact Or.inl rfl | exact Or.inr (Or.inl rfl) | exact Or.inr (Or.inr rfl))) (pe_bltn (v := .ty "bool") (by rfl) T.n_bool PyProof.Rows.boot_bool rfl (by decide +kernel) (by decide +kernel)))) (pd_one (pd_cmp (op_eqD (by have := ko.hu; omega)) (c_eq ko.hK) (pd_var (i := 0) rfl (by first | exact Or.inl rfl | exact Or.inr (Or.inl rfl) | exact Or.inr (Or.inr rfl))) (pd_var (i := 1) rfl (by first | exact Or.inl rfl | exact Or.inr (Or.inl rfl) | exact Or.inr (Or.inr rfl)))))))))
def B__law_some : SemS := retS (binS ixD (varS 1) (callS io0 2 F__law_draw (slotX 0 (consX (calS lenD (consA (varS 1) (nilA))) (nilX)))))
def F__law_some : FS := funS io0 2 B__law_some
theorem sc__law_some : FnScope ["_law_hand_here", "_law_things"] ["_law_hand_here", "_law_things"] (defScope (top 27)) := ⟨rfl, rfl, rfl, by decide +kernel, rfl, by decide +kernel, by decide +kernel⟩
theorem ok__law_some (T : Txt c K mg fa fd) : FnOk P w K mg base (L2.CX P w) 2 (fa 17) (fd 17) ["_law_hand_here", "_law_things"] (spD c io0 2 F__law_some) := by
  refine T.f__law_some.okX sc__law_some (spD_len rfl) (fun cdv A outer s H vs Q E hr h => ⟨_, ?_, fun_entry (N := ["_law_hand_here", "_law_things"]) (by decide) h⟩)
  have ko : Okc c (cxOf (L2.CX P w) P w K mg base ["_law_hand_here", "_law_things"] "_law_some" (defScope (top 27)) (fa 17) cdv A outer s H E) := okc_cx T.hK hr sc__law_some.nd
  have tk : Takes (cxOf (L2.CX P w) P w K mg base ["_law_hand_here", "_law_things"] "_law_some" (defScope (top 27)) (fa 17) cdv A outer s H E) (fun cl dd _ H => E cl dd H) := takes_of rfl rfl rfl rfl
  exact (ds_one (ds_ret (pd_ix ko (pd_var (i := 1) rfl (by first | exact Or.inl rfl | exact Or.inr (Or.inl rfl) | exact Or.inr (Or.inr rfl))) (pd_call (ok__law_draw T) (hr.mono (by decide)) (by rfl) T.g__law_draw T.k__law_draw T.b__law_draw tk (ax_slot (i := 0) rfl (by first | exact Or.inl rfl | exact Or.inr (Or.inl rfl) | exact Or.inr (Or.inr rfl)) (ax_cons (pd_callB call_lenA (by first | exact k_len | exact ko.hK ▸ k_len) (by rfl) T.n_len PySem.boot_len (ad_cons (pd_var (i := 1) rfl (by first | exact Or.inl rfl | exact Or.inr (Or.inl rfl) | exact Or.inr (Or.inr rfl))) ad_nil)) ax_nil))))))
def B__law_some_b : SemS := retS (binS ixD (varS 1) (callS io0 2 F__law_draw (slotX 0 (consX (calS lenD (consA (varS 1) (nilA))) (nilX)))))
def F__law_some_b : FS := funS io01 2 B__law_some_b
theorem sc__law_some_b : FnScope ["_law_hand_here", "_law_things"] ["_law_hand_here", "_law_things"] (defScope (top 27)) := ⟨rfl, rfl, rfl, by decide +kernel, rfl, by decide +kernel, by decide +kernel⟩
theorem ok__law_some_b (T : Txt c K mg fa fd) : FnOk P w K mg base (L2.CX P w) 2 (fa 18) (fd 18) ["_law_hand_here", "_law_things"] (spD c io01 2 F__law_some_b) := by
  refine T.f__law_some_b.okX sc__law_some_b (spD_len rfl) (fun cdv A outer s H vs Q E hr h => ⟨_, ?_, fun_entry (N := ["_law_hand_here", "_law_things"]) (by decide) h⟩)
  have ko : Okc c (cxOf (L2.CX P w) P w K mg base ["_law_hand_here", "_law_things"] "_law_some" (defScope (top 27)) (fa 18) cdv A outer s H E) := okc_cx T.hK hr sc__law_some_b.nd
  have tk : Takes (cxOf (L2.CX P w) P w K mg base ["_law_hand_here", "_law_things"] "_law_some" (defScope (top 27)) (fa 18) cdv A outer s H E) (fun cl dd _ H => E cl dd H) := takes_of rfl rfl rfl rfl
  exact (ds_one (ds_ret (pd_ix ko (pd_var (i := 1) rfl (by first | exact Or.inl rfl | exact Or.inr (Or.inl rfl) | exact Or.inr (Or.inr rfl))) (pd_call (ok__law_draw T) (hr.mono (by decide)) (by rfl) T.g__law_draw T.k__law_draw T.b__law_draw tk (ax_slot (i := 0) rfl (by first | exact Or.inl rfl | exact Or.inr (Or.inl rfl) | exact Or.inr (Or.inr rfl)) (ax_cons (pd_callB call_lenA (by first | exact k_len | exact ko.hK ▸ k_len) (by rfl) T.n_len PySem.boot_len (ad_cons (pd_var (i := 1) rfl (by first | exact Or.inl rfl | exact Or.inr (Or.inl rfl) | exact Or.inr (Or.inr rfl))) ad_nil)) ax_nil))))))
def B__law_shuffled : SemS := seqS (setS 2 (calS listD (consA (varS 1) (nilA)))) (seqS (setS 3 (lstS (nilF))) (seqS (whileS (cmpT gtB (calS lenD (consA (varS 2) (nilA))) (conS (.int 0))) (exprS (mutS 3 appendD (consF (mutS 2 popAtD (consF (callS io0 2 F__law_draw (slotX 0 (consX (calS lenD (consA (varS 2) (nilA))) (nilX)))) (nilF))) (nilF))))) (retS (varS 3))))
def F__law_shuffled : FS := funS io0 4 B__law_shuffled
theorem sc__law_shuffled : FnScope ["_law_hand_here", "_law_things", "_law_pool", "_law_found"] ["_law_hand_here", "_law_things"] (defScope (top 28)) := ⟨rfl, rfl, rfl, by decide +kernel, rfl, by decide +kernel, by decide +kernel⟩
theorem ok__law_shuffled (T : Txt c K mg fa fd) : FnOk P w K mg base (L2.CX P w) 2 (fa 19) (fd 19) ["_law_hand_here", "_law_things"] (spD c io0 2 F__law_shuffled) := by
  refine T.f__law_shuffled.okX sc__law_shuffled (spD_len rfl) (fun cdv A outer s H vs Q E hr h => ⟨_, ?_, fun_entry (N := ["_law_hand_here", "_law_things", "_law_pool", "_law_found"]) (by decide) h⟩)
  have ko : Okc c (cxOf (L2.CX P w) P w K mg base ["_law_hand_here", "_law_things", "_law_pool", "_law_found"] "_law_shuffled" (defScope (top 28)) (fa 19) cdv A outer s H E) := okc_cx T.hK hr sc__law_shuffled.nd
  have tk : Takes (cxOf (L2.CX P w) P w K mg base ["_law_hand_here", "_law_things", "_law_pool", "_law_found"] "_law_shuffled" (defScope (top 28)) (fa 19) cdv A outer s H E) (fun cl dd _ H => E cl dd H) := takes_of rfl rfl rfl rfl
  exact (ds_cons (ds_set (i := 2) (by decide +kernel) sc__law_shuffled.nd rfl (by first | exact Or.inl rfl | exact Or.inr rfl) (pd_callTy (call_listA rfl) (by first | exact k_list | exact ko.hK ▸ k_list) (by rfl) T.n_list PyProof.Rows.boot_list (ad_cons (pd_var (i := 1) rfl (by first | exact Or.inl rfl | exact Or.inr (Or.inl rfl) | exact Or.inr (Or.inr rfl))) ad_nil))) (ds_cons (ds_set (i := 3) (by decide +kernel) sc__law_shuffled.nd rfl (by first | exact Or.inl rfl | exact Or.inr rfl) (pd_lst af_nil)) (ds_cons (ds_while PassesOwn.leaving (td_cmp (op_gtD ko.hu) (c_ord ko.hK _) (pd_callB call_lenA (by first | exact k_len | exact ko.hK ▸ k_len) (by rfl) T.n_len PySem.boot_len (ad_cons (pd_var (i := 2) rfl (by first | exact Or.inl rfl | exact Or.inr (Or.inl rfl) | exact Or.inr (Or.inr rfl))) ad_nil)) pd_int) (ds_one (ds_expr (pd_mut (i := 3) ko F.slot_list_append F.type_list_append mt_append m_append rfl (by first | exact Or.inl rfl | exact Or.inr (Or.inl rfl) | exact Or.inr (Or.inr rfl)) (af_cons (pd_mut (i := 2) ko F.slot_list_pop F.type_list_pop mt_popAt m_popAt rfl (by first | exact Or.inl rfl | exact Or.inr (Or.inl rfl) | exact Or.inr (Or.inr rfl)) (af_cons (pd_call (ok__law_draw T) (hr.mono (by decide)) (by rfl) T.g__law_draw T.k__law_draw T.b__law_draw tk (ax_slot (i := 0) rfl (by first | exact Or.inl rfl | exact Or.inr (Or.inl rfl) | exact Or.inr (Or.inr rfl)) (ax_cons (pd_callB call_lenA (by first | exact k_len | exact ko.hK ▸ k_len) (by rfl) T.n_len PySem.boot_len (ad_cons (pd_var (i := 2) rfl (by first | exact Or.inl rfl | exact Or.inr (Or.inl rfl) | exact Or.inr (Or.inr rfl))) ad_nil)) ax_nil))) af_nil)) af_nil))))) (ds_one (ds_ret (pd_var (i := 3) rfl (by first | exact Or.inl rfl | exact Or.inr (Or.inl rfl) | exact Or.inr (Or.inr rfl))))))))
def B__law_clashing : SemS := seqS (parS 2 3 (consF (varS 0) (consF (varS 1) (nilF)))) (seqS (iteS (cmpT gtB (calS lenD (consA (varS 0) (nilA))) (calS lenD (consA (varS 1) (nilA)))) (parS 2 3 (consF (varS 1) (consF (varS 0) (nilF)))) (nextS)) (retS (orV (binS (boolR eqB) (sliceS (varS 3) (noPart) (partS (calS lenD (consA (varS 2) (nilA))))) (varS 2)) (binS (boolR eqB) (sliceS (varS 3) (partS (binS subD (calS lenD (consA (varS 3) (nilA))) (calS lenD (consA (varS 2) (nilA))))) (noPart)) (varS 2)))))
def F__law_clashing : FS := funS ioN 4 B__law_clashing
theorem sc__law_clashing : FnScope ["_law_one", "_law_other", "_law_short", "_law_long"] ["_law_one", "_law_other"] (defScope (top 29)) := ⟨rfl, rfl, rfl, by decide +kernel, rfl, by decide +kernel, by decide +kernel⟩
theorem ok__law_clashing (T : Txt c K mg fa fd) : FnOk P w K mg base (L2.CX P w) 1 (fa 20) (fd 20) ["_law_one", "_law_other"] (spD c ioN 2 F__law_clashing) := by
  refine T.f__law_clashing.okX sc__law_clashing (spD_len rfl) (fun cdv A outer s H vs Q E hr h => ⟨_, ?_, fun_entry (N := ["_law_one", "_law_other", "_law_short", "_law_long"]) (by decide) h⟩)
  have ko : Okc c (cxOf (L2.CX P w) P w K mg base ["_law_one", "_law_other", "_law_short", "_law_long"] "_law_clashing" (defScope (top 29)) (fa 20) cdv A outer s H E) := okc_cx T.hK hr sc__law_clashing.nd
  have tk : Takes (cxOf (L2.CX P w) P w K mg base ["_law_one", "_law_other", "_law_short", "_law_long"] "_law_clashing" (defScope (top 29)) (fa 20) cdv A outer s H E) (fun cl dd _ H => E cl dd H) := takes_of rfl rfl rfl rfl
  exact (ds_cons (ds_par (i := 2) (j := 3) ko (by decide +kernel) (by decide +kernel) rfl rfl (by decide) (by rfl) (by rfl) (af_cons (pd_var (i := 0) rfl (by first | exact Or.inl rfl | exact Or.inr (Or.inl rfl) | exact Or.inr (Or.inr rfl))) (af_cons (pd_var (i := 1) rfl (by first | exact Or.inl rfl | exact Or.inr (Or.inl rfl) | exact Or.inr (Or.inr rfl))) af_nil)) (by rfl)) (ds_cons (ds_if (td_cmp (op_gtD ko.hu) (c_ord ko.hK _) (pd_callB call_lenA (by first | exact k_len | exact ko.hK ▸ k_len) (by rfl) T.n_len PySem.boot_len (ad_cons (pd_var (i := 0) rfl (by first | exact Or.inl rfl | exact Or.inr (Or.inl rfl) | exact Or.inr (Or.inr rfl))) ad_nil)) (pd_callB call_lenA (by first | exact k_len | exact ko.hK ▸ k_len) (by rfl) T.n_len PySem.boot_len (ad_cons (pd_var (i := 1) rfl (by first | exact Or.inl rfl | exact Or.inr (Or.inl rfl) | exact Or.inr (Or.inr rfl))) ad_nil))) (ds_one (ds_par (i := 2) (j := 3) ko (by decide +kernel) (by decide +kernel) rfl rfl (by decide) (by rfl) (by rfl) (af_cons (pd_var (i := 1) rfl (by first | exact Or.inl rfl | exact Or.inr (Or.inl rfl) | exact Or.inr (Or.inr rfl))) (af_cons (pd_var (i := 0) rfl (by first | exact Or.inl rfl | exact Or.inr (Or.inl rfl) | exact Or.inr (Or.inr rfl))) af_nil)) (by rfl))) ds_nil) (ds_one (ds_ret (pd_or (pd_cmp (op_eqD (by have := ko.hu; omega)) (c_eq ko.hK) (pd_slice ko (pd_var (i := 3) rfl (by first | exact Or.inl rfl | exact Or.inr (Or.inl rfl) | exact Or.inr (Or.inr rfl))) od_none (od_some (pd_callB call_lenA (by first | exact k_len | exact ko.hK ▸ k_len) (by rfl) T.n_len PySem.boot_len (ad_cons (pd_var (i := 2) rfl (by first | exact Or.inl rfl | exact Or.inr (Or.inl rfl) | exact Or.inr (Or.inr rfl))) ad_nil)))) (pd_var (i := 2) rfl (by first | exact Or.inl rfl | exact Or.inr (Or.inl rfl) | exact Or.inr (Or.inr rfl)))) (pd_one (pd_cmp (op_eqD (by have := ko.hu; omega)) (c_eq ko.hK) (pd_slice ko (pd_var (i := 3) rfl (by first | exact Or.inl rfl | exact Or.inr (Or.inl rfl) | exact Or.inr (Or.inr rfl))) (od_some (pd_bin op_sub o_sub (pd_callB call_lenA (by first | exact k_len | exact ko.hK ▸ k_len) (by rfl) T.n_len PySem.boot_len (ad_cons (pd_var (i := 3) rfl (by first | exact Or.inl rfl | exact Or.inr (Or.inl rfl) | exact Or.inr (Or.inr rfl))) ad_nil)) (pd_callB call_lenA (by first | exact k_len | exact ko.hK ▸ k_len) (by rfl) T.n_len PySem.boot_len (ad_cons (pd_var (i := 2) rfl (by first | exact Or.inl rfl | exact Or.inr (Or.inl rfl) | exact Or.inr (Or.inr rfl))) ad_nil)))) od_none) (pd_var (i := 2) rfl (by first | exact Or.inl rfl | exact Or.inr (Or.inl rfl) | exact Or.inr (Or.inr rfl))))))))))
def B__law_deep : SemS := seqS (setS 1 (tupS (nilF))) (seqS (forS (rng1S (conS (.int 18))) (tgName 2) (setS 1 (binS ixD (lstS (consF (tupS (consF (conS (.str [114, 111, 111, 109])) (consF (tupS (consF (varS 1) (nilF))) (nilF)))) (consF (tupS (consF (tupS (consF (varS 1) (nilF))) (nilF))) (consF (lstS (consF (lstS (consF (varS 1) (nilF))) (nilF))) (nilF))))) (varS 0)))) (retS (varS 1)))
def F__law_deep : FS := funS ioN 3 B__law_deep
theorem sc__law_deep : FnScope ["_law_kind", "_law_found", "_law_turn"] ["_law_kind"] (defScope (top 30)) := ⟨rfl, rfl, rfl, by decide +kernel, rfl, by decide +kernel, by decide +kernel⟩
theorem ok__law_deep (T : Txt c K mg fa fd) : FnOk P w K mg base (L2.CX P w) 1 (fa 21) (fd 21) ["_law_kind"] (spD c ioN 1 F__law_deep) := by
  refine T.f__law_deep.okX sc__law_deep (spD_len rfl) (fun cdv A outer s H vs Q E hr h => ⟨_, ?_, fun_entry (N := ["_law_kind", "_law_found", "_law_turn"]) (by decide) h⟩)
  have ko : Okc c (cxOf (L2.CX P w) P w K mg base ["_law_kind", "_law_found", "_law_turn"] "_law_deep" (defScope (top 30)) (fa 21) cdv A outer s H E) := okc_cx T.hK hr sc__law_deep.nd
  have tk : Takes (cxOf (L2.CX P w) P w K mg base ["_law_kind", "_law_found", "_law_turn"] "_law_deep" (defScope (top 30)) (fa 21) cdv A outer s H E) (fun cl dd _ H => E cl dd H) := takes_of rfl rfl rfl rfl
  exact (ds_cons (ds_set (i := 1) (by decide +kernel) sc__law_deep.nd rfl (by first | exact Or.inl rfl | exact Or.inr rfl) (pd_tup af_nil)) (ds_cons (ds_for PassesOwn.leaving ko (id_rng1 (by rfl) T.n_range pd_int) (pg_name (i := 2) sc__law_deep.nd rfl (by first | exact Or.inl rfl | exact Or.inr rfl)) (tg_name (io := (fun i => ioN i && decide (i < 1))) (i := 2) (by decide +kernel)) (ds_one (ds_set (i := 1) (by decide +kernel) sc__law_deep.nd rfl (by first | exact Or.inl rfl | exact Or.inr rfl) (pd_ix ko (pd_lst (af_cons (pd_tup (af_cons (pd_str (s := [114, 111, 111, 109]) (by rfl)) (af_cons (pd_tup (af_cons (pd_var (i := 1) rfl (by first | exact Or.inl rfl | exact Or.inr (Or.inl rfl) | exact Or.inr (Or.inr rfl))) af_nil)) af_nil))) (af_cons (pd_tup (af_cons (pd_tup (af_cons (pd_var (i := 1) rfl (by first | exact Or.inl rfl | exact Or.inr (Or.inl rfl) | exact Or.inr (Or.inr rfl))) af_nil)) af_nil)) (af_cons (pd_lst (af_cons (pd_lst (af_cons (pd_var (i := 1) rfl (by first | exact Or.inl rfl | exact Or.inr (Or.inl rfl) | exact Or.inr (Or.inr rfl))) af_nil)) af_nil)) af_nil)))) (pd_var (i := 0) rfl (by first | exact Or.inl rfl | exact Or.inr (Or.inl rfl) | exact Or.inr (Or.inr rfl))))))) (ds_one (ds_ret (pd_var (i := 1) rfl (by first | exact Or.inl rfl | exact Or.inr (Or.inl rfl) | exact Or.inr (Or.inr rfl)))))))
def B__law_least_clash : SemS := seqS (setS 1 (lstS (nilF))) (seqS (forS (itS (varS 0)) (tgName 2) (forS (itS (varS 0)) (tgName 3) (iteS (andT (cmpT ltB (calS lenD (consA (varS 2) (nilA))) (calS lenD (consA (varS 3) (nilA)))) (tstT truD (callS ioN 2 F__law_clashing (consX (varS 2) (consX (varS 3) (nilX)))))) (exprS (mutS 1 appendD (consF (tupS (consF (varS 2) (consF (varS 3) (nilF)))) (nilF)))) (nextS)))) (seqS (iteS (cmpT eqB (calS lenD (consA (varS 1) (nilA))) (conS (.int 0))) (retS (conS .non)) (nextS)) (retS (calS (one fun d => match d with | .lst xs => bestL minX xs | _ => none) (consA (varS 1) (nilA))))))
def F__law_least_clash : FS := funS ioN 4 B__law_least_clash
theorem sc__law_least_clash : FnScope ["_law_texts_here", "_law_found", "_law_one", "_law_other"] ["_law_texts_here"] (defScope (top 31)) := ⟨rfl, rfl, rfl, by decide +kernel, rfl, by decide +kernel, by decide +kernel⟩
theorem ok__law_least_clash (T : Txt c K mg fa fd) : FnOk P w K mg base (L2.CX P w) 2 (fa 22) (fd 22) ["_law_texts_here"] (spD c ioN 1 F__law_least_clash) := by
  refine T.f__law_least_clash.okX sc__law_least_clash (spD_len rfl) (fun cdv A outer s H vs Q E hr h => ⟨_, ?_, fun_entry (N := ["_law_texts_here", "_law_found", "_law_one", "_law_other"]) (by decide) h⟩)
  have ko : Okc c (cxOf (L2.CX P w) P w K mg base ["_law_texts_here", "_law_found", "_law_one", "_law_other"] "_law_least_clash" (defScope (top 31)) (fa 22) cdv A outer s H E) := okc_cx T.hK hr sc__law_least_clash.nd
  have tk : Takes (cxOf (L2.CX P w) P w K mg base ["_law_texts_here", "_law_found", "_law_one", "_law_other"] "_law_least_clash" (defScope (top 31)) (fa 22) cdv A outer s H E) (fun cl dd _ H => E cl dd H) := takes_of rfl rfl rfl rfl
  exact (ds_cons (ds_set (i := 1) (by decide +kernel) sc__law_least_clash.nd rfl (by first | exact Or.inl rfl | exact Or.inr rfl) (pd_lst af_nil)) (ds_cons (ds_for PassesOwn.leaving ko (id_seq ko (pd_var (i := 0) rfl (by first | exact Or.inl rfl | exact Or.inr (Or.inl rfl) | exact Or.inr (Or.inr rfl)))) (pg_name (i := 2) sc__law_least_clash.nd rfl (by first | exact Or.inl rfl | exact Or.inr rfl)) (tg_name (io := (fun i => ioN i && decide (i < 1))) (i := 2) (by decide +kernel)) (ds_one (ds_for PassesOwn.leaving ko (id_seq ko (pd_var (i := 0) rfl (by first | exact Or.inl rfl | exact Or.inr (Or.inl rfl) | exact Or.inr (Or.inr rfl)))) (pg_name (i := 3) sc__law_least_clash.nd rfl (by first | exact Or.inl rfl | exact Or.inr rfl)) (tg_name (io := (fun i => ioN i && decide (i < 1))) (i := 3) (by decide +kernel)) (ds_one (ds_if (td_and (td_cmp (op_ltD ko.hu) (c_ord ko.hK _) (pd_callB call_lenA (by first | exact k_len | exact ko.hK ▸ k_len) (by rfl) T.n_len PySem.boot_len (ad_cons (pd_var (i := 2) rfl (by first | exact Or.inl rfl | exact Or.inr (Or.inl rfl) | exact Or.inr (Or.inr rfl))) ad_nil)) (pd_callB call_lenA (by first | exact k_len | exact ko.hK ▸ k_len) (by rfl) T.n_len PySem.boot_len (ad_cons (pd_var (i := 3) rfl (by first | exact Or.inl rfl | exact Or.inr (Or.inl rfl) | exact Or.inr (Or.inr rfl))) ad_nil))) (td_and1 (td_tru ko (pd_call (ok__law_clashing T) (hr.mono (by decide)) (by rfl) T.g__law_clashing T.k__law_clashing T.b__law_clashing tk (ax_cons (pd_var (i := 2) rfl (by first | exact Or.inl rfl | exact Or.inr (Or.inl rfl) | exact Or.inr (Or.inr rfl))) (ax_cons (pd_var (i := 3) rfl (by first | exact Or.inl rfl | exact Or.inr (Or.inl rfl) | exact Or.inr (Or.inr rfl))) ax_nil)))))).pt (ds_one (ds_expr (pd_mut (i := 1) ko F.slot_list_append F.type_list_append mt_append m_append rfl (by first | exact Or.inl rfl | exact Or.inr (Or.inl rfl) | exact Or.inr (Or.inr rfl)) (af_cons (pd_tup (af_cons (pd_var (i := 2) rfl (by first | exact Or.inl rfl | exact Or.inr (Or.inl rfl) | exact Or.inr (Or.inr rfl))) (af_cons (pd_var (i := 3) rfl (by first | exact Or.inl rfl | exact Or.inr (Or.inl rfl) | exact Or.inr (Or.inr rfl))) af_nil))) af_nil)))) ds_nil))))) (ds_cons (ds_if (td_cmp (op_eqD (by have := ko.hu; omega)) (c_eq ko.hK) (pd_callB call_lenA (by first | exact k_len | exact ko.hK ▸ k_len) (by rfl) T.n_len PySem.boot_len (ad_cons (pd_var (i := 1) rfl (by first | exact Or.inl rfl | exact Or.inr (Or.inl rfl) | exact Or.inr (Or.inr rfl))) ad_nil)) pd_int) (ds_one (ds_ret pd_non)) ds_nil) (ds_one (ds_ret (pd_callB (call_minA ko.hK rfl ko.hu) (k_best fun xs x => (min_py xs x).2) (by rfl) T.n_min (by decide +kernel) (ad_cons (pd_var (i := 1) rfl (by first | exact Or.inl rfl | exact Or.inr (Or.inl rfl) | exact Or.inr (Or.inr rfl))) ad_nil)))))))
def B__law_told : SemS := seqS (setS 1 (conS (.str [110, 111, 110, 101]))) (seqS (tryS (fun k => if k = 3 then some true else none) (setS 1 (callS ioN 1 F_clash (consX (varS 0) (nilX)))) (setS 1 (conS (.str [110, 111, 110, 101])))) (retS (varS 1)))
def F__law_told : FS := funS ioN 2 B__law_told
theorem sc__law_told : FnScope ["_law_thing", "_law_told_here"] ["_law_thing"] (defScope (top 32)) := ⟨rfl, rfl, rfl, by decide +kernel, rfl, by decide +kernel, by decide +kernel⟩
theorem ok__law_told (T : Txt c K mg fa fd) : FnOk P w K mg base (L2.CX P w) 3 (fa 23) (fd 23) ["_law_thing"] (spD c ioN 1 F__law_told) := by
  refine T.f__law_told.okX sc__law_told (spD_len rfl) (fun cdv A outer s H vs Q E hr h => ⟨_, ?_, fun_entry (N := ["_law_thing", "_law_told_here"]) (by decide) h⟩)
  have ko : Okc c (cxOf (L2.CX P w) P w K mg base ["_law_thing", "_law_told_here"] "_law_told" (defScope (top 32)) (fa 23) cdv A outer s H E) := okc_cx T.hK hr sc__law_told.nd
  have tk : Takes (cxOf (L2.CX P w) P w K mg base ["_law_thing", "_law_told_here"] "_law_told" (defScope (top 32)) (fa 23) cdv A outer s H E) (fun cl dd _ H => E cl dd H) := takes_of rfl rfl rfl rfl
  exact (ds_cons (ds_set (i := 1) (by decide +kernel) sc__law_told.nd rfl (by first | exact Or.inl rfl | exact Or.inr rfl) (pd_str (s := [110, 111, 110, 101]) (by rfl))) (ds_cons (ds_try rfl rfl ⟨by rfl, by decide +kernel, .inl T.e_NoTexts.2.1⟩ tk (mt_one T.x_NoTexts) (fun W pn xe tk2 po2 => (ds_one (ds_set (i := 1) (by decide +kernel) sc__law_told.nd rfl (by first | exact Or.inl rfl | exact Or.inr rfl) (pd_call (ok_clash T) (hr.mono (by decide)) (by rfl) T.g_clash T.k_clash T.b_clash tk2 (ax_cons (pd_var (i := 0) rfl (by first | exact Or.inl rfl | exact Or.inr (Or.inl rfl) | exact Or.inr (Or.inr rfl))) ax_nil))))) (fun a oe pn => (ds_one (ds_set (i := 1) (by decide +kernel) sc__law_told.nd rfl (by first | exact Or.inl rfl | exact Or.inr rfl) (pd_str (s := [110, 111, 110, 101]) (by rfl)))))) (ds_one (ds_ret (pd_var (i := 1) rfl (by first | exact Or.inl rfl | exact Or.inr (Or.inl rfl) | exact Or.inr (Or.inr rfl)))))))
def B__law_texts : SemS := seqS (setS 1 (lstS (nilF))) (seqS (forS (rng1S (callS io0 2 F__law_draw (slotX 0 (consX (conS (.int 10)) (nilX))))) (tgName 2) (seqS (setS 3 (joS (conS (.str [])) (lcS (rng1S (binS addD (conS (.int 1)) (callS io0 2 F__law_draw (slotX 0 (consX (conS (.int 5)) (nilX)))))) (tgName 5) (yesT) (callS io0 2 F__law_some (slotX 0 (consX (conS (.str [97, 98, 99])) (nilX)))) [5]))) (seqS (iteS (andT (cmpT gtB (calS lenD (consA (varS 1) (nilA))) (conS (.int 0))) (cmpT eqB (callS io0 2 F__law_draw (slotX 0 (consX (conS (.int 3)) (nilX)))) (conS (.int 0)))) (seqS (setS 4 (callS io01 2 F__law_some_b (slotX 0 (slotX 1 (nilX))))) (setS 3 (binS ixD (lstS (consF (binS addD (varS 4) (varS 3)) (consF (binS addD (varS 3) (varS 4)) (consF (varS 4) (consF (sliceS (varS 4) (partS (callS io0 2 F__law_draw (slotX 0 (consX (calS lenD (consA (varS 4) (nilA))) (nilX))))) (noPart)) (nilF)))))) (callS io0 2 F__law_draw (slotX 0 (consX (conS (.int 4)) (nilX))))))) (nextS)) (exprS (mutS 1 appendD (consF (sliceS (varS 3) (noPart) (partS (conS (.int 60)))) (nilF))))))) (retS (varS 1)))
def F__law_texts : FS := funS io0 6 B__law_texts
theorem sc__law_texts : FnScope ["_law_hand_here", "_law_found", "_law_turn", "_law_text", "_law_old", "_law_k"] ["_law_hand_here"] (defScope (top 33)) := ⟨rfl, rfl, rfl, by decide +kernel, rfl, by decide +kernel, by decide +kernel⟩
theorem ok__law_texts (T : Txt c K mg fa fd) : FnOk P w K mg base (L2.CX P w) 3 (fa 24) (fd 24) ["_law_hand_here"] (spD c io0 1 F__law_texts) := by
  refine T.f__law_texts.okX sc__law_texts (spD_len rfl) (fun cdv A outer s H vs Q E hr h => ⟨_, ?_, fun_entry (N := ["_law_hand_here", "_law_found", "_law_turn", "_law_text", "_law_old", "_law_k"]) (by decide) h⟩)
  have ko : Okc c (cxOf (L2.CX P w) P w K mg base ["_law_hand_here", "_law_found", "_law_turn", "_law_text", "_law_old", "_law_k"] "_law_texts" (defScope (top 33)) (fa 24) cdv A outer s H E) := okc_cx T.hK hr sc__law_texts.nd
  have tk : Takes (cxOf (L2.CX P w) P w K mg base ["_law_hand_here", "_law_found", "_law_turn", "_law_text", "_law_old", "_law_k"] "_law_texts" (defScope (top 33)) (fa 24) cdv A outer s H E) (fun cl dd _ H => E cl dd H) := takes_of rfl rfl rfl rfl
  exact (ds_cons (ds_set (i := 1) (by decide +kernel) sc__law_texts.nd rfl (by first | exact Or.inl rfl | exact Or.inr rfl) (pd_lst af_nil)) (ds_cons (ds_for PassesOwn.leaving ko (id_rng1 (by rfl) T.n_range (pd_call (ok__law_draw T) (hr.mono (by decide)) (by rfl) T.g__law_draw T.k__law_draw T.b__law_draw tk (ax_slot (i := 0) rfl (by first | exact Or.inl rfl | exact Or.inr (Or.inl rfl) | exact Or.inr (Or.inr rfl)) (ax_cons pd_int ax_nil)))) (pg_name (i := 2) sc__law_texts.nd rfl (by first | exact Or.inl rfl | exact Or.inr rfl)) (tg_name (io := (fun i => io0 i && decide (i < 1))) (i := 2) (by decide +kernel)) (ds_cons (ds_set (i := 3) (by decide +kernel) sc__law_texts.nd rfl (by first | exact Or.inl rfl | exact Or.inr rfl) (pd_join ko (pd_str (s := []) (by rfl)) (pd_lc (own := [("_law_k", 5)]) ko (id_rng1 (by rfl) T.n_range (pd_bin (op_addA) (o_add ko.hK) pd_int (pd_call (ok__law_draw T) (hr.mono (by decide)) (by rfl) T.g__law_draw T.k__law_draw T.b__law_draw tk (ax_slot (i := 0) rfl (by first | exact Or.inl rfl | exact Or.inr (Or.inl rfl) | exact Or.inr (Or.inr rfl)) (ax_cons pd_int ax_nil))))) (blkOk_by (N := ["_law_hand_here", "_law_found", "_law_turn", "_law_text", "_law_old", "_law_k"]) (sc := defScope (top 33)) (by decide +kernel)) (fun s H _ _ fp => (pg_name (i := 5) sc__law_texts.nd rfl (by first | exact Or.inl rfl | exact Or.inr rfl))) (tg_name (io := (blkIo [5])) (i := 5) (by decide +kernel)) (fun s H _ _ fp => td_nil) (fun s H _ _ fp => (pd_call (ok__law_some T) (hr.mono (by decide)) (by rfl) T.g__law_some T.k__law_some T.b__law_some takes0 (ax_slot (i := 0) rfl (by first | exact Or.inl rfl | exact Or.inr (Or.inl rfl) | exact Or.inr (Or.inr rfl)) (ax_cons (pd_str (s := [97, 98, 99]) (by rfl)) ax_nil))))))) (ds_cons (ds_if (td_and (td_cmp (op_gtD ko.hu) (c_ord ko.hK _) (pd_callB call_lenA (by first | exact k_len | exact ko.hK ▸ k_len) (by rfl) T.n_len PySem.boot_len (ad_cons (pd_var (i := 1) rfl (by first | exact Or.inl rfl | exact Or.inr (Or.inl rfl) | exact Or.inr (Or.inr rfl))) ad_nil)) pd_int) (td_and1 (td_cmp (op_eqD (by have := ko.hu; omega)) (c_eq ko.hK) (pd_call (ok__law_draw T) (hr.mono (by decide)) (by rfl) T.g__law_draw T.k__law_draw T.b__law_draw tk (ax_slot (i := 0) rfl (by first | exact Or.inl rfl | exact Or.inr (Or.inl rfl) | exact Or.inr (Or.inr rfl)) (ax_cons pd_int ax_nil))) pd_int))).pt (ds_cons (ds_set (i := 4) (by decide +kernel) sc__law_texts.nd rfl (by first | exact Or.inl rfl | exact Or.inr rfl) (pd_call (ok__law_some_b T) (hr.mono (by decide)) (by rfl) T.g__law_some_b T.k__law_some_b T.b__law_some_b tk (ax_slot (i := 0) rfl (by first | exact Or.inl rfl | exact Or.inr (Or.inl rfl) | exact Or.inr (Or.inr rfl)) (ax_slot (i := 1) rfl (by first | exact Or.inl rfl | exact Or.inr (Or.inl rfl) | exact Or.inr (Or.inr rfl)) ax_nil)))) (ds_one (ds_set (i := 3) (by decide +kernel) sc__law_texts.nd rfl (by first | exact Or.inl rfl | exact Or.inr rfl) (pd_ix ko (pd_lst (af_cons (pd_bin (op_addA) (o_add ko.hK) (pd_var (i := 4) rfl (by first | exact Or.inl rfl | exact Or.inr (Or.inl rfl) | exact Or.inr (Or.inr rfl))) (pd_var (i := 3) rfl (by first | exact Or.inl rfl | exact Or.inr (Or.inl rfl) | exact Or.inr (Or.inr rfl)))) (af_cons (pd_bin (op_addA) (o_add ko.hK) (pd_var (i := 3) rfl (by first | exact Or.inl rfl | exact Or.inr (Or.inl rfl) | exact Or.inr (Or.inr rfl))) (pd_var (i := 4) rfl (by first | exact Or.inl rfl | exact Or.inr (Or.inl rfl) | exact Or.inr (Or.inr rfl)))) (af_cons (pd_var (i := 4) rfl (by first | exact Or.inl rfl | exact Or.inr (Or.inl rfl) | exact Or.inr (Or.inr rfl))) (af_cons (pd_slice ko (pd_var (i := 4) rfl (by first | exact Or.inl rfl | exact Or.inr (Or.inl rfl) | exact Or.inr (Or.inr rfl))) (od_some (pd_call (ok__law_draw T) (hr.mono (by decide)) (by rfl) T.g__law_draw T.k__law_draw T.b__law_draw tk (ax_slot (i := 0) rfl (by first | exact Or.inl rfl | exact Or.inr (Or.inl rfl) | exact Or.inr (Or.inr rfl)) (ax_cons (pd_callB call_lenA (by first | exact k_len | exact ko.hK ▸ k_len) (by rfl) T.n_len PySem.boot_len (ad_cons (pd_var (i := 4) rfl (by first | exact Or.inl rfl | exact Or.inr (Or.inl rfl) | exact Or.inr (Or.inr rfl))) ad_nil)) ax_nil)))) od_none) af_nil))))) (pd_call (ok__law_draw T) (hr.mono (by decide)) (by rfl) T.g__law_draw T.k__law_draw T.b__law_draw tk (ax_slot (i := 0) rfl (by first | exact Or.inl rfl | exact Or.inr (Or.inl rfl) | exact Or.inr (Or.inr rfl)) (ax_cons pd_int ax_nil))))))) ds_nil) (ds_one (ds_expr (pd_mut (i := 1) ko F.slot_list_append F.type_list_append mt_append m_append rfl (by first | exact Or.inl rfl | exact Or.inr (Or.inl rfl) | exact Or.inr (Or.inr rfl)) (af_cons (pd_slice ko (pd_var (i := 3) rfl (by first | exact Or.inl rfl | exact Or.inr (Or.inl rfl) | exact Or.inr (Or.inr rfl))) od_none (od_some pd_int)) af_nil))))))) (ds_one (ds_ret (pd_var (i := 1) rfl (by first | exact Or.inl rfl | exact Or.inr (Or.inl rfl) | exact Or.inr (Or.inr rfl)))))))
def B_law : SemS := seqS (setS 1 (callS ioN 1 F__law_hand (consX (varS 0) (nilX)))) (seqS (forS (rng1S (conS (.int 6))) (tgName 2) (seqS (setS 3 (callS io0 1 F__law_texts (slotX 1 (nilX)))) (seqS (setS 4 (callS ioN 1 F__law_least_clash (consX (varS 3) (nilX)))) (seqS (iteS (orT (notT (tstT truD (callS ioN 2 (F__law_is 6) (consX (callS ioN 1 F__law_told (consX (varS 3) (nilX))) (consX (varS 4) (nilX)))))) (notT (tstT truD (callS ioN 2 (F__law_is 6) (consX (callS ioN 1 F__law_told (consX (calS tupleD (consA (binS addD (unS revD (varS 3)) (sliceS (varS 3) (noPart) (partS (conS (.int 1))))) (nilA))) (nilX))) (consX (varS 4) (nilX))))))) (retS (conS (.bl false))) (nextS)) (seqS (iteS (cmpT neB (callS ioN 1 F__law_told (consX (callS io0 2 F__law_shuffled (slotX 1 (consX (varS 3) (nilX)))) (nilX))) (varS 4)) (retS (conS (.bl false))) (nextS)) (seqS (setS 5 (lstS (consF (conS (.str [])) (consF (conS (.str [65])) (consF (conS .non) (consF (conS (.int 5)) (consF (lstS (consF (conS (.str [97])) (nilF))) (consF (conS (.str [97, 32, 98])) (consF (conS (.bl true)) (consF (callS ioN 1 F__law_deep (consX (conS (.int 0)) (nilX))) (consF (tupS (consF (conS (.str [97])) (nilF))) (consF (makeS 0 io0 3 F_Web___init__ (consX (conS (.int 1)) (consX (tupS (consF (tupS (consF (conS (.int 0)) (consF (conS (.str [97])) (consF (conS (.int 0)) (nilF))))) (nilF))) (nilX)))) (nilF))))))))))))) (seqS (setS 6 (callS io0 2 F__law_draw (slotX 1 (consX (binS addD (calS lenD (consA (varS 3) (nilA))) (conS (.int 1))) (nilX))))) (seqS (setS 7 (binS addD (binS addD (sliceS (varS 3) (noPart) (partS (varS 6))) (lstS (consF (callS io0 2 F__law_some (slotX 1 (consX (varS 5) (nilX)))) (nilF)))) (sliceS (varS 3) (partS (varS 6)) (noPart)))) (seqS (setS 8 (lstS (consF (varS 7) (consF (calS tupleD (consA (varS 7) (nilA))) (consF (conS .non) (consF (conS (.str [97, 98])) (consF (dispS [(conS (.str [97]), conS (.int 1))]) (consF (conS (.int 0)) (consF (conS (.bl true)) (consF (callS ioN 1 F__law_deep (consX (conS (.int 2)) (nilX))) (consF (makeS 0 io0 3 F_Web___init__ (consX (conS (.int 1)) (consX (tupS (consF (tupS (consF (conS (.int 0)) (consF (conS (.str [97])) (consF (conS (.int 0)) (nilF))))) (nilF))) (nilX)))) (nilF)))))))))))) (iteS (cmpT neB (callS ioN 1 F__law_told (consX (callS io0 2 F__law_some (slotX 1 (consX (varS 8) (nilX)))) (nilX))) (conS (.str [110, 111, 110, 101]))) (retS (conS (.bl false))) (nextS))))))))))) (seqS (iteS (notT (cmpT isB (callS ioN 1 F_clash (consX (lstS (nilF)) (nilX))) (conS .non))) (retS (conS (.bl false))) (nextS)) (retS (andV (binS (boolR isB) (callS ioN 1 F_clash (consX (tupS (nilF)) (nilX))) (conS .non)) (andV (binS (boolR isB) (callS ioN 1 F_clash (consX (lstS (consF (conS (.str [97])) (consF (conS (.str [97])) (nilF)))) (nilX))) (conS .non)) (binS (boolR eqB) (callS ioN 1 F_clash (consX (tupS (consF (conS (.str [97, 98])) (consF (conS (.str [98])) (consF (conS (.str [97])) (nilF))))) (nilX))) (tupS (consF (conS (.str [97])) (consF (conS (.str [97, 98])) (nilF))))))))))
def F_law : FS := funS ioN 9 B_law
theorem sc_law : FnScope ["_law_script", "_law_hand_here", "_law_turn", "_law_texts_here", "_law_due", "_law_odd", "_law_at", "_law_bad", "_law_things"] ["_law_script"] (defScope (top 34)) := ⟨rfl, rfl, rfl, by decide +kernel, rfl, by decide +kernel, by decide +kernel⟩
theorem ok_law (T : Txt c K mg fa fd) : FnOk P w K mg base (L2.CX P w) 8 (fa 25) (fd 25) ["_law_script"] (spD c ioN 1 F_law) := by
  refine T.f_law.okX sc_law (spD_len rfl) (fun cdv A outer s H vs Q E hr h => ⟨_, ?_, fun_entry (N := ["_law_script", "_law_hand_here", "_law_turn", "_law_texts_here", "_law_due", "_law_odd", "_law_at", "_law_bad", "_law_things"]) (by decide) h⟩)
  have ko : Okc c (cxOf (L2.CX P w) P w K mg base ["_law_script", "_law_hand_here", "_law_turn", "_law_texts_here", "_law_due", "_law_odd", "_law_at", "_law_bad", "_law_things"] "law" (defScope (top 34)) (fa 25) cdv A outer s H E) := okc_cx T.hK hr sc_law.nd
  have tk : Takes (cxOf (L2.CX P w) P w K mg base ["_law_script", "_law_hand_here", "_law_turn", "_law_texts_here", "_law_due", "_law_odd", "_law_at", "_law_bad", "_law_things"] "law" (defScope (top 34)) (fa 25) cdv A outer s H E) (fun cl dd _ H => E cl dd H) := takes_of rfl rfl rfl rfl
  exact (ds_cons (ds_set (i := 1) (by decide +kernel) sc_law.nd rfl (by first | exact Or.inl rfl | exact Or.inr rfl) (pd_call (ok__law_hand T) (hr.mono (by decide)) (by rfl) T.g__law_hand T.k__law_hand T.b__law_hand tk (ax_cons (pd_var (i := 0) rfl (by first | exact Or.inl rfl | exact Or.inr (Or.inl rfl) | exact Or.inr (Or.inr rfl))) ax_nil))) (ds_cons (ds_for PassesOwn.leaving ko (id_rng1 (by rfl) T.n_range pd_int) (pg_name (i := 2) sc_law.nd rfl (by first | exact Or.inl rfl | exact Or.inr rfl)) (tg_name (io := (fun i => ioN i && decide (i < 1))) (i := 2) (by decide +kernel)) (ds_cons (ds_set (i := 3) (by decide +kernel) sc_law.nd rfl (by first | exact Or.inl rfl | exact Or.inr rfl) (pd_call (ok__law_texts T) (hr.mono (by decide)) (by rfl) T.g__law_texts T.k__law_texts T.b__law_texts tk (ax_slot (i := 1) rfl (by first | exact Or.inl rfl | exact Or.inr (Or.inl rfl) | exact Or.inr (Or.inr rfl)) ax_nil))) (ds_cons (ds_set (i := 4) (by decide +kernel) sc_law.nd rfl (by first | exact Or.inl rfl | exact Or.inr rfl) (pd_call (ok__law_least_clash T) (hr.mono (by decide)) (by rfl) T.g__law_least_clash T.k__law_least_clash T.b__law_least_clash tk (ax_cons (pd_var (i := 3) rfl (by first | exact Or.inl rfl | exact Or.inr (Or.inl rfl) | exact Or.inr (Or.inr rfl))) ax_nil))) (ds_cons (ds_if (td_or (td_not (td_tru ko (pd_call (ok__law_is T 6) (hr.mono (by decide)) (by rfl) T.g__law_is T.k__law_is T.b__law_is tk (ax_cons (pd_call (ok__law_told T) (hr.mono (by decide)) (by rfl) T.g__law_told T.k__law_told T.b__law_told tk (ax_cons (pd_var (i := 3) rfl (by first | exact Or.inl rfl | exact Or.inr (Or.inl rfl) | exact Or.inr (Or.inr rfl))) ax_nil)) (ax_cons (pd_var (i := 4) rfl (by first | exact Or.inl rfl | exact Or.inr (Or.inl rfl) | exact Or.inr (Or.inr rfl))) ax_nil))))) (td_or1 (td_not (td_tru ko (pd_call (ok__law_is T 6) (hr.mono (by decide)) (by rfl) T.g__law_is T.k__law_is T.b__law_is tk (ax_cons (pd_call (ok__law_told T) (hr.mono (by decide)) (by rfl) T.g__law_told T.k__law_told T.b__law_told tk (ax_cons (pd_callTy call_tuple_of (by first | exact k_tuple | exact ko.hK ▸ k_tuple) (by rfl) T.n_tuple PyProof.Rows.boot_tuple (ad_cons (pd_bin (op_addA) (o_add ko.hK) (pd_revL ko (pd_var (i := 3) rfl (by first | exact Or.inl rfl | exact Or.inr (Or.inl rfl) | exact Or.inr (Or.inr rfl)))) (pd_slice ko (pd_var (i := 3) rfl (by first | exact Or.inl rfl | exact Or.inr (Or.inl rfl) | exact Or.inr (Or.inr rfl))) od_none (od_some pd_int))) ad_nil)) ax_nil)) (ax_cons (pd_var (i := 4) rfl (by first | exact Or.inl rfl | exact Or.inr (Or.inl rfl) | exact Or.inr (Or.inr rfl))) ax_nil))))))).pt (ds_one (ds_ret pd_bl)) ds_nil) (ds_cons (ds_if (td_cmp (op_neD (by have := ko.hu; omega)) (c_ne ko.hK) (pd_call (ok__law_told T) (hr.mono (by decide)) (by rfl) T.g__law_told T.k__law_told T.b__law_told tk (ax_cons (pd_call (ok__law_shuffled T) (hr.mono (by decide)) (by rfl) T.g__law_shuffled T.k__law_shuffled T.b__law_shuffled tk (ax_slot (i := 1) rfl (by first | exact Or.inl rfl | exact Or.inr (Or.inl rfl) | exact Or.inr (Or.inr rfl)) (ax_cons (pd_var (i := 3) rfl (by first | exact Or.inl rfl | exact Or.inr (Or.inl rfl) | exact Or.inr (Or.inr rfl))) ax_nil))) ax_nil)) (pd_var (i := 4) rfl (by first | exact Or.inl rfl | exact Or.inr (Or.inl rfl) | exact Or.inr (Or.inr rfl)))) (ds_one (ds_ret pd_bl)) ds_nil) (ds_cons (ds_set (i := 5) (by decide +kernel) sc_law.nd rfl (by first | exact Or.inl rfl | exact Or.inr rfl) (pd_lst (af_cons (pd_str (s := []) (by rfl)) (af_cons (pd_str (s := [65]) (by rfl)) (af_cons pd_non (af_cons pd_int (af_cons (pd_lst (af_cons (pd_str (s := [97]) (by rfl)) af_nil)) (af_cons (pd_str (s := [97, 32, 98]) (by rfl)) (af_cons pd_bl (af_cons (pd_call (ok__law_deep T) (hr.mono (by decide)) (by rfl) T.g__law_deep T.k__law_deep T.b__law_deep tk (ax_cons pd_int ax_nil)) (af_cons (pd_tup (af_cons (pd_str (s := [97]) (by rfl)) af_nil)) (af_cons (pd_make (k := 0) T.mk_Web (ok_Web___init__ T) (hr.mono (by decide)) (by rfl) T.m_Web T.b_Web___init__ tk (ax_cons pd_int (ax_cons (pd_tup (af_cons (pd_tup (af_cons pd_int (af_cons (pd_str (s := [97]) (by rfl)) (af_cons pd_int af_nil)))) af_nil)) ax_nil))) af_nil)))))))))))) (ds_cons (ds_set (i := 6) (by decide +kernel) sc_law.nd rfl (by first | exact Or.inl rfl | exact Or.inr rfl) (pd_call (ok__law_draw T) (hr.mono (by decide)) (by rfl) T.g__law_draw T.k__law_draw T.b__law_draw tk (ax_slot (i := 1) rfl (by first | exact Or.inl rfl | exact Or.inr (Or.inl rfl) | exact Or.inr (Or.inr rfl)) (ax_cons (pd_bin (op_addA) (o_add ko.hK) (pd_callB call_lenA (by first | exact k_len | exact ko.hK ▸ k_len) (by rfl) T.n_len PySem.boot_len (ad_cons (pd_var (i := 3) rfl (by first | exact Or.inl rfl | exact Or.inr (Or.inl rfl) | exact Or.inr (Or.inr rfl))) ad_nil)) pd_int) ax_nil)))) (ds_cons (ds_set (i := 7) (by decide +kernel) sc_law.nd rfl (by first | exact Or.inl rfl | exact Or.inr rfl) (pd_bin (op_addA) (o_add ko.hK) (pd_bin (op_addA) (o_add ko.hK) (pd_slice ko (pd_var (i := 3) rfl (by first | exact Or.inl rfl | exact Or.inr (Or.inl rfl) | exact Or.inr (Or.inr rfl))) od_none (od_some (pd_var (i := 6) rfl (by first | exact Or.inl rfl | exact Or.inr (Or.inl rfl) | exact Or.inr (Or.inr rfl))))) (pd_lst (af_cons (pd_call (ok__law_some T) (hr.mono (by decide)) (by rfl) T.g__law_some T.k__law_some T.b__law_some tk (ax_slot (i := 1) rfl (by first | exact Or.inl rfl | exact Or.inr (Or.inl rfl) | exact Or.inr (Or.inr rfl)) (ax_cons (pd_var (i := 5) rfl (by first | exact Or.inl rfl | exact Or.inr (Or.inl rfl) | exact Or.inr (Or.inr rfl))) ax_nil))) af_nil))) (pd_slice ko (pd_var (i := 3) rfl (by first | exact Or.inl rfl | exact Or.inr (Or.inl rfl) | exact Or.inr (Or.inr rfl))) (od_some (pd_var (i := 6) rfl (by first | exact Or.inl rfl | exact Or.inr (Or.inl rfl) | exact Or.inr (Or.inr rfl)))) od_none))) (ds_cons (ds_set (i := 8) (by decide +kernel) sc_law.nd rfl (by first | exact Or.inl rfl | exact Or.inr rfl) (pd_lst (af_cons (pd_var (i := 7) rfl (by first | exact Or.inl rfl | exact Or.inr (Or.inl rfl) | exact Or.inr (Or.inr rfl))) (af_cons (pd_callTy call_tuple_of (by first | exact k_tuple | exact ko.hK ▸ k_tuple) (by rfl) T.n_tuple PyProof.Rows.boot_tuple (ad_cons (pd_var (i := 7) rfl (by first | exact Or.inl rfl | exact Or.inr (Or.inl rfl) | exact Or.inr (Or.inr rfl))) ad_nil)) (af_cons pd_non (af_cons (pd_str (s := [97, 98]) (by rfl)) (af_cons (pd_disp (trs := [(conS (.str [97]), conS (.int 1))]) (pps_cons (fd_of (pd_str (s := [97]) (by rfl))) (fd_of pd_int) pps_nil) rfl rfl (by simp) (by decide)) (af_cons pd_int (af_cons pd_bl (af_cons (pd_call (ok__law_deep T) (hr.mono (by decide)) (by rfl) T.g__law_deep T.k__law_deep T.b__law_deep tk (ax_cons pd_int ax_nil)) (af_cons (pd_make (k := 0) T.mk_Web (ok_Web___init__ T) (hr.mono (by decide)) (by rfl) T.m_Web T.b_Web___init__ tk (ax_cons pd_int (ax_cons (pd_tup (af_cons (pd_tup (af_cons pd_int (af_cons (pd_str (s := [97]) (by rfl)) (af_cons pd_int af_nil)))) af_nil)) ax_nil))) af_nil))))))))))) (ds_one (ds_if (td_cmp (op_neD (by have := ko.hu; omega)) (c_ne ko.hK) (pd_call (ok__law_told T) (hr.mono (by decide)) (by rfl) T.g__law_told T.k__law_told T.b__law_told tk (ax_cons (pd_call (ok__law_some T) (hr.mono (by decide)) (by rfl) T.g__law_some T.k__law_some T.b__law_some tk (ax_slot (i := 1) rfl (by first | exact Or.inl rfl | exact Or.inr (Or.inl rfl) | exact Or.inr (Or.inr rfl)) (ax_cons (pd_var (i := 8) rfl (by first | exact Or.inl rfl | exact Or.inr (Or.inl rfl) | exact Or.inr (Or.inr rfl))) ax_nil))) ax_nil)) (pd_str (s := [110, 111, 110, 101]) (by rfl))) (ds_one (ds_ret pd_bl)) ds_nil))))))))))) (ds_cons (ds_if (td_not (td_cmp op_isA c_is (pd_call (ok_clash T) (hr.mono (by decide)) (by rfl) T.g_clash T.k_clash T.b_clash tk (ax_cons (pd_lst af_nil) ax_nil)) pd_non)) (ds_one (ds_ret pd_bl)) ds_nil) (ds_one (ds_ret (pd_and (pd_cmp op_isA c_is (pd_call (ok_clash T) (hr.mono (by decide)) (by rfl) T.g_clash T.k_clash T.b_clash tk (ax_cons (pd_tup af_nil) ax_nil)) pd_non) (pd_and (pd_cmp op_isA c_is (pd_call (ok_clash T) (hr.mono (by decide)) (by rfl) T.g_clash T.k_clash T.b_clash tk (ax_cons (pd_lst (af_cons (pd_str (s := [97]) (by rfl)) (af_cons (pd_str (s := [97]) (by rfl)) af_nil))) ax_nil)) pd_non) (pd_one (pd_cmp (op_eqD (by have := ko.hu; omega)) (c_eq ko.hK) (pd_call (ok_clash T) (hr.mono (by decide)) (by rfl) T.g_clash T.k_clash T.b_clash tk (ax_cons (pd_tup (af_cons (pd_str (s := [97, 98]) (by rfl)) (af_cons (pd_str (s := [98]) (by rfl)) (af_cons (pd_str (s := [97]) (by rfl)) af_nil)))) ax_nil)) (pd_tup (af_cons (pd_str (s := [97]) (by rfl)) (af_cons (pd_str (s := [97, 98]) (by rfl)) af_nil))))))))))))
end

end Lx
set_option Elab.async false
set_option linter.all false
set_option maxRecDepth 100000
set_option maxHeartbeats 1000000
namespace Lx
open PySem L2 Ly
local macro_rules | `(tactic| walk_at "op") => `(tactic| first | (exact eqB_int) | (exact ltB_int) | (exact gtB_int) | (exact leB_int) | (exact geB_int) | (exact neB_int) | (exact eqB_bl) | (exact neB_bl) | (refine mul_small ?_; constructor <;> omega) | (refine mul_smallR ?_; constructor <;> omega) | (refine mod_pos ?_; omega) | (refine fd_pos ?_; constructor <;> omega) | (refine sl_lstTo ?_; omega) | (refine sl_lstFrom ?_; omega) | (rfl))
local macro_rules | `(tactic| walk_at "one") => `(tactic| first
  | (focus ((with_reducible refine w_var1 ?_ ?_); rfl))
  | with_reducible refine w_con ?_
  | with_reducible refine w_bool ?_
  | with_reducible refine w_bin ?_
  | with_reducible refine w_un ?_
  | with_reducible refine w_cmp ?_
  | with_reducible refine w_andT ?_
  | with_reducible refine w_orT ?_
  | with_reducible refine w_notT ?_
  | with_reducible refine w_tst ?_
  | with_reducible refine w_andV ?_
  | with_reducible refine w_orV ?_
  | with_reducible refine w_notV ?_
  | with_reducible refine w_ifV ?_
  | with_reducible refine w_chn ?_
  | with_reducible refine w_bol ?_
  | with_reducible refine w_isi ?_
  | with_reducible refine w_nilA ?_
  | with_reducible refine w_consA ?_
  | with_reducible refine w_cal ?_
  | with_reducible refine w_frz ?_
  | with_reducible refine w_nilF ?_
  | with_reducible refine w_consF ?_
  | with_reducible refine w_tup ?_
  | with_reducible refine w_lst ?_
  | with_reducible refine w_newD ?_
  | with_reducible refine w_noPart ?_
  | with_reducible refine w_part ?_
  | with_reducible refine w_slice ?_
  | with_reducible refine w_join ?_
  | with_reducible refine w_get ?_
  | with_reducible refine w_nilX ?_
  | with_reducible refine w_consX ?_
  | with_reducible refine w_its ?_
  | with_reducible refine w_ita ?_
  | with_reducible refine w_rng1 ?_
  | with_reducible refine w_rng2 ?_
  | with_reducible refine w_yes ?_
  | with_reducible refine ws_seq ?_
  | with_reducible refine ws_next ?_
  | with_reducible refine ws_expr ?_
  | with_reducible refine ws_retS ?_
  | with_reducible refine ws_ite ?_
  | with_reducible refine ws_set ?_
  | with_reducible refine ws_par ?_
  | with_reducible refine ws_put ?_
  | (focus ((with_reducible refine w_mut ?_ ?_); rfl))
  | (focus ((with_reducible refine w_slotX1 ?_ ?_); rfl))
  | (focus ((first | with_reducible refine id_ex ?_ | with_reducible refine id_and ?_); first
      | (focus (refine ⟨_, _, ?_, rfl, rfl, ?_, ?_⟩; rotate_left; walk_at "op"))
      | (focus (refine ⟨_, ?_, rfl, ?_, ?_⟩; rotate_left; walk_at "op"))
      | (refine ⟨_, rfl, ?_⟩)
      | (refine ⟨_, _, rfl, ?_⟩)
      | (focus (refine ⟨S62.mk ?_ ?_, ?_⟩; omega; omega))
      | (refine ⟨Nat.le_of_ble_eq_true rfl, ?_⟩)
      | (refine ⟨by decide, ?_⟩)
      | (refine ⟨fun _ => ?_, fun h => absurd rfl h⟩)
      | (refine ⟨fun h => Fl.noConfusion h, fun _ => ?_⟩)
      | (refine ⟨fun _ => ?_, fun h => Bool.noConfusion h⟩)
      | (refine ⟨fun h => Bool.noConfusion h, fun _ => ?_⟩)
      | (refine ⟨rfl, ?_⟩))))
local macro_rules | `(tactic| walk_at "all") => `(tactic| repeat walk_at "one")
def handD (cells : List Int) (i big mix cnt : Int) : D := .lst [.lst (cells.map .int), .int i, .int big, .int mix, .int cnt]
def Hand (h : D) : Prop := ∃ (cells : List Int) (i big mix cnt : Int), h = handD cells i big mix cnt ∧ (∀ z ∈ cells, 0 ≤ z) ∧ 0 ≤ i ∧ 0 ≤ big
theorem draw_ok {h : D} (H : Hand h) {m : Int} (h0 : 0 < m) (h1 : m < 1073741824) : wpF (F__law_draw [h, .int m]) fun r outs => ∃ h' z, r = .fz (.int z) ∧ 0 ≤ z ∧ z < m ∧ Hand h' ∧ outs = [h', .int m] := by
  obtain ⟨cells, i, big, mix, cnt, rfl, hc, hi, hb⟩ := H
  refine wF_fun ?_
  show wps (B__law_draw [.ow (handD cells i big mix cnt), .fz (.int m), .no, .no, .no]) _
  unfold B__law_draw
  refine ws_cut (fun ρ => ∃ (i big mix cnt : Int) (a2 : Slot), ρ = [.ow (handD cells i big mix cnt), .fz (.int m), a2, .no, .no] ∧ 0 ≤ i ∧ 0 ≤ big) ?_ ?_
  · walk_at "all"
    refine ⟨fun e => ?_, fun e => ?_⟩
    · walk_at "all"
      refine ⟨fun e2 => ?_, fun e2 => ?_⟩
      · have e2 : i < ((cells.map D.int).length : Nat) := by simpa using e2
        have e3 : i.toNat < cells.length := by simp at e2; omega
        have e4 : (cells.map D.int)[i.toNat]? = some (.int cells[i.toNat]) := by rw [List.getElem?_map, List.getElem?_eq_getElem e3]; rfl
        have e5 : 0 ≤ cells[i.toNat] := hc _ (List.getElem_mem e3)
        walk_at "all"
        refine ⟨_, _, _, rfl, rfl, ix_lst hi e4, ?_⟩
        walk_at "all"
        refine ⟨fun e6 => ?_, fun e6 => ?_⟩
        · walk_at "all"
          exact ⟨_, _, _, _, _, rfl, by omega, e5⟩
        · walk_at "all"
          exact ⟨_, _, _, _, _, rfl, by omega, hb⟩
      · walk_at "all"
        exact ⟨_, _, _, _, _, rfl, hi, hb⟩
    · refine ⟨fun e2 => (by cases e2), fun _ => ?_⟩
      walk_at "all"
      exact ⟨_, _, _, _, _, rfl, hi, hb⟩
  · rintro _ ⟨i, big, mix, cnt, a2, rfl, hi, hb⟩
    walk_at "all"
    refine ⟨fun e => ?_, fun e => ?_⟩
    · walk_at "all"
      exact ⟨_, _, rfl, Int.emod_nonneg _ (by omega), Int.emod_lt_of_pos _ h0, ⟨_, _, _, _, _, rfl, hc, hi, Int.ediv_nonneg hb (by omega)⟩, rfl⟩
    · walk_at "all"
      exact ⟨_, _, rfl, Int.emod_nonneg _ (by omega), Int.emod_lt_of_pos _ h0, ⟨_, _, _, _, _, rfl, hc, hi, hb⟩, rfl⟩

end Lx
set_option Elab.async false
set_option linter.all false
set_option maxRecDepth 100000
set_option maxHeartbeats 1000000
namespace Lx
open PySem L2 Ly
local macro_rules | `(tactic| walk_at "op") => `(tactic| first | (exact eqB_int) | (exact ltB_int) | (exact gtB_int) | (exact leB_int) | (exact geB_int) | (exact neB_int) | (exact eqB_bl) | (exact neB_bl) | (refine mul_small ?_; constructor <;> omega) | (refine mul_smallR ?_; constructor <;> omega) | (refine mod_pos ?_; omega) | (refine fd_pos ?_; constructor <;> omega) | (refine sl_lstTo ?_; omega) | (refine sl_lstFrom ?_; omega) | (rfl))
local macro_rules | `(tactic| walk_at "one") => `(tactic| first
  | (focus ((with_reducible refine w_var1 ?_ ?_); rfl))
  | with_reducible refine w_con ?_
  | with_reducible refine w_bool ?_
  | with_reducible refine w_bin ?_
  | with_reducible refine w_un ?_
  | with_reducible refine w_cmp ?_
  | with_reducible refine w_andT ?_
  | with_reducible refine w_orT ?_
  | with_reducible refine w_notT ?_
  | with_reducible refine w_tst ?_
  | with_reducible refine w_andV ?_
  | with_reducible refine w_orV ?_
  | with_reducible refine w_notV ?_
  | with_reducible refine w_ifV ?_
  | with_reducible refine w_chn ?_
  | with_reducible refine w_bol ?_
  | with_reducible refine w_isi ?_
  | with_reducible refine w_nilA ?_
  | with_reducible refine w_consA ?_
  | with_reducible refine w_cal ?_
  | with_reducible refine w_frz ?_
  | with_reducible refine w_nilF ?_
  | with_reducible refine w_consF ?_
  | with_reducible refine w_tup ?_
  | with_reducible refine w_lst ?_
  | with_reducible refine w_newD ?_
  | with_reducible refine w_noPart ?_
  | with_reducible refine w_part ?_
  | with_reducible refine w_slice ?_
  | with_reducible refine w_join ?_
  | with_reducible refine w_get ?_
  | with_reducible refine w_nilX ?_
  | with_reducible refine w_consX ?_
  | with_reducible refine w_its ?_
  | with_reducible refine w_ita ?_
  | with_reducible refine w_rng1 ?_
  | with_reducible refine w_rng2 ?_
  | with_reducible refine w_yes ?_
  | with_reducible refine ws_seq ?_
  | with_reducible refine ws_next ?_
  | with_reducible refine ws_expr ?_
  | with_reducible refine ws_retS ?_
  | with_reducible refine ws_ite ?_
  | with_reducible refine ws_set ?_
  | with_reducible refine ws_par ?_
  | with_reducible refine ws_put ?_
  | (focus ((with_reducible refine w_mut ?_ ?_); rfl))
  | (focus ((with_reducible refine w_slotX1 ?_ ?_); rfl))
  | (focus ((first | with_reducible refine id_ex ?_ | with_reducible refine id_and ?_); first
      | (focus (refine ⟨_, _, ?_, rfl, rfl, ?_, ?_⟩; rotate_left; walk_at "op"))
      | (focus (refine ⟨_, ?_, rfl, ?_, ?_⟩; rotate_left; walk_at "op"))
      | (refine ⟨_, rfl, ?_⟩)
      | (refine ⟨_, _, rfl, ?_⟩)
      | (focus (refine ⟨S62.mk ?_ ?_, ?_⟩; omega; omega))
      | (refine ⟨Nat.le_of_ble_eq_true rfl, ?_⟩)
      | (refine ⟨by decide, ?_⟩)
      | (refine ⟨fun _ => ?_, fun h => absurd rfl h⟩)
      | (refine ⟨fun h => Fl.noConfusion h, fun _ => ?_⟩)
      | (refine ⟨fun _ => ?_, fun h => Bool.noConfusion h⟩)
      | (refine ⟨fun h => Bool.noConfusion h, fun _ => ?_⟩)
      | (refine ⟨rfl, ?_⟩))))
local macro_rules | `(tactic| walk_at "all") => `(tactic| repeat walk_at "one")
theorem hand_ok (ns : List Int) (hl : ns.length ≤ 63) : wpF (F__law_hand [.scr ns]) fun r outs => ∃ h, r = .fr h ∧ Hand h ∧ outs = [.scr ns] := by
  refine wF_fun ?_
  show wps (B__law_hand [.fz (.scr ns), .no, .no]) _
  unfold B__law_hand
  refine ws_cut (fun ρ => ∃ cells : List Int, ρ = [.fz (.scr ns), .ow (.lst (cells.map .int)), .no] ∧ ∀ z ∈ cells, 0 ≤ z) ?_ ?_
  · refine ws_set ?_
    refine w_lcPure (fun _ => true) (fun d => match d with | .int i => .int (if i < 0 then -i else i) | d => d) ?_
    walk_at "all"
    rw [← List.map_take]
    have h1 : (ns.take (Int.toNat 63)).length ≤ 1000000 := by rw [List.length_take]; omega
    generalize ns.take (Int.toNat 63) = l at h1
    refine ⟨by rw [List.length_map]; exact h1, fun d hd => ?_, ?_⟩
    · obtain ⟨z, _, rfl⟩ := List.mem_map.mp hd
      walk_at "all"
      rfl
    · walk_at "all"
      refine ⟨l.map fun i => if i < 0 then -i else i, ?_, fun z hz => ?_⟩
      · have : List.filter (fun _ => true) (l.map D.int) = l.map D.int := List.filter_eq_self.mpr fun _ _ => rfl
        rw [this, List.map_map, List.map_map]
        rfl
      · obtain ⟨i, _, rfl⟩ := List.mem_map.mp hz
        show 0 ≤ if i < 0 then -i else i
        split <;> omega
  · rintro _ ⟨cells, rfl, hc⟩
    walk_at "all"
    exact ⟨⟨_, _, _, _, _, rfl, hc, by omega, by omega⟩, rfl⟩
theorem w_draw {i : Nat} {e : Ly.Sem R} {ρ : Ly.Env} {Q : R → Ly.Env → Prop} {h : D} (e0 : ρ[i]? = some (.ow h)) (H : Hand h) (he : wp (e ρ) fun r ρ1 => ∃ m, frz ρ1 r = some (.int m, ρ1) ∧ 0 < m ∧ m < 1073741824 ∧ ρ1[i]? = some (.ow h) ∧ ∀ h' z, Hand h' → 0 ≤ z → z < m → Q (.fz (.int z)) (ρ1.set i (.ow h'))) :
    wp (callS io0 2 F__law_draw (slotX i (consX e nilX)) ρ) Q := by
  refine w_call (w_slotX e0 (w_consX (wp_imp he ?_)))
  rintro r ρ1 ⟨m, e1, m0, m1, e2, k⟩
  refine ⟨_, _, e1, w_nilX ⟨[h, .int m], ?_, rfl, wpF_imp (draw_ok H m0 m1) ?_⟩⟩
  · show (match ρ1[i]? with | some (.ow d) => _ | _ => _) = _
    rw [e2]
    rfl
  · rintro r outs ⟨h', z, rfl, z0, z1, H', rfl⟩
    exact ⟨rfl, rfl, k h' z H' z0 z1⟩
theorem some_lst {h : D} (H : Hand h) {xs : List D} (h0 : 0 < xs.length) (h1 : xs.length < 1073741824) : wpF (F__law_some [h, .lst xs]) fun r outs => ∃ h' z, z ∈ xs ∧ r = .fz z ∧ Hand h' ∧ outs = [h', .lst xs] := by
  refine wF_fun ?_
  show wps (B__law_some [.ow h, .fz (.lst xs)]) _
  unfold B__law_some
  walk_at "all"
  refine w_draw rfl H ?_
  walk_at "all"
  refine ⟨by omega, by omega, rfl, fun h' z H' z0 z1 => ?_⟩
  have z2 : z.toNat < xs.length := by omega
  refine ⟨_, _, _, rfl, rfl, ix_lst z0 (List.getElem?_eq_getElem z2), ?_⟩
  walk_at "all"
  exact ⟨_, _, List.getElem_mem z2, rfl, H', rfl⟩
theorem some_lst_b {h : D} (H : Hand h) {xs : List D} (h0 : 0 < xs.length) (h1 : xs.length < 1073741824) : wpF (F__law_some_b [h, .lst xs]) fun r outs => ∃ h' z, z ∈ xs ∧ r = .fz z ∧ Hand h' ∧ outs = [h', .lst xs] := by
  refine wF_fun ?_
  show wps (B__law_some_b [.ow h, .ow (.lst xs)]) _
  unfold B__law_some_b
  walk_at "all"
  refine w_draw rfl H ?_
  walk_at "all"
  refine ⟨by omega, by omega, rfl, fun h' z H' z0 z1 => ?_⟩
  have z2 : z.toNat < xs.length := by omega
  refine ⟨_, _, _, rfl, rfl, ix_lst z0 (List.getElem?_eq_getElem z2), ?_⟩
  walk_at "all"
  exact ⟨_, _, List.getElem_mem z2, rfl, H', rfl⟩
theorem some_str {h : D} (H : Hand h) {s : List Nat} (h0 : 0 < s.length) (h1 : s.length ≤ 1000000) : wpF (F__law_some [h, .str s]) fun r outs => ∃ h' z, z ∈ s ∧ r = .fz (.str [z]) ∧ Hand h' ∧ outs = [h', .str s] := by
  refine wF_fun ?_
  show wps (B__law_some [.ow h, .fz (.str s)]) _
  unfold B__law_some
  walk_at "all"
  refine w_draw rfl H ?_
  walk_at "all"
  refine ⟨[.str s], _, rfl, if_pos h1, ?_⟩
  walk_at "all"
  refine ⟨by omega, by omega, rfl, fun h' z H' z0 z1 => ?_⟩
  have z2 : z.toNat < s.length := by omega
  refine ⟨_, _, _, rfl, rfl, ix_str h1 z0 (List.getElem?_eq_getElem z2), ?_⟩
  walk_at "all"
  exact ⟨_, _, List.getElem_mem z2, rfl, H', rfl⟩
end Lx
set_option Elab.async false
set_option linter.all false
set_option maxRecDepth 100000
set_option maxHeartbeats 1000000
namespace Lx
open PySem L2 Ly
local macro_rules | `(tactic| walk_at "op") => `(tactic| first | (exact eqB_int) | (exact ltB_int) | (exact gtB_int) | (exact leB_int) | (exact geB_int) | (exact neB_int) | (exact eqB_bl) | (exact neB_bl) | (refine mul_small ?_; constructor <;> omega) | (refine mul_smallR ?_; constructor <;> omega) | (refine mod_pos ?_; omega) | (refine fd_pos ?_; constructor <;> omega) | (refine sl_lstTo ?_; omega) | (refine sl_lstFrom ?_; omega) | (rfl))
local macro_rules | `(tactic| walk_at "one") => `(tactic| first
  | (focus ((with_reducible refine w_var1 ?_ ?_); rfl))
  | with_reducible refine w_con ?_
  | with_reducible refine w_bool ?_
  | with_reducible refine w_bin ?_
  | with_reducible refine w_un ?_
  | with_reducible refine w_cmp ?_
  | with_reducible refine w_andT ?_
  | with_reducible refine w_orT ?_
  | with_reducible refine w_notT ?_
  | with_reducible refine w_tst ?_
  | with_reducible refine w_andV ?_
  | with_reducible refine w_orV ?_
  | with_reducible refine w_notV ?_
  | with_reducible refine w_ifV ?_
  | with_reducible refine w_chn ?_
  | with_reducible refine w_bol ?_
  | with_reducible refine w_isi ?_
  | with_reducible refine w_nilA ?_
  | with_reducible refine w_consA ?_
  | with_reducible refine w_cal ?_
  | with_reducible refine w_frz ?_
  | with_reducible refine w_nilF ?_
  | with_reducible refine w_consF ?_
  | with_reducible refine w_tup ?_
  | with_reducible refine w_lst ?_
  | with_reducible refine w_newD ?_
  | with_reducible refine w_noPart ?_
  | with_reducible refine w_part ?_
  | with_reducible refine w_slice ?_
  | with_reducible refine w_join ?_
  | with_reducible refine w_get ?_
  | with_reducible refine w_nilX ?_
  | with_reducible refine w_consX ?_
  | with_reducible refine w_its ?_
  | with_reducible refine w_ita ?_
  | with_reducible refine w_rng1 ?_
  | with_reducible refine w_rng2 ?_
  | with_reducible refine w_yes ?_
  | with_reducible refine ws_seq ?_
  | with_reducible refine ws_next ?_
  | with_reducible refine ws_expr ?_
  | with_reducible refine ws_retS ?_
  | with_reducible refine ws_ite ?_
  | with_reducible refine ws_set ?_
  | with_reducible refine ws_par ?_
  | with_reducible refine ws_put ?_
  | (focus ((with_reducible refine w_mut ?_ ?_); rfl))
  | (focus ((with_reducible refine w_slotX1 ?_ ?_); rfl))
  | (focus ((first | with_reducible refine id_ex ?_ | with_reducible refine id_and ?_); first
      | (focus (refine ⟨_, _, ?_, rfl, rfl, ?_, ?_⟩; rotate_left; walk_at "op"))
      | (focus (refine ⟨_, ?_, rfl, ?_, ?_⟩; rotate_left; walk_at "op"))
      | (refine ⟨_, rfl, ?_⟩)
      | (refine ⟨_, _, rfl, ?_⟩)
      | (focus (refine ⟨S62.mk ?_ ?_, ?_⟩; omega; omega))
      | (refine ⟨Nat.le_of_ble_eq_true rfl, ?_⟩)
      | (refine ⟨by decide, ?_⟩)
      | (refine ⟨fun _ => ?_, fun h => absurd rfl h⟩)
      | (refine ⟨fun h => Fl.noConfusion h, fun _ => ?_⟩)
      | (refine ⟨fun _ => ?_, fun h => Bool.noConfusion h⟩)
      | (refine ⟨fun h => Bool.noConfusion h, fun _ => ?_⟩)
      | (refine ⟨rfl, ?_⟩))))
local macro_rules | `(tactic| walk_at "all") => `(tactic| repeat walk_at "one")
theorem shuffled_ok {h : D} (H : Hand h) {xs : List D} (hx : xs.length ≤ 100000) : wpF (F__law_shuffled [h, .lst xs]) fun r outs => ∃ h' ys, r = .fr (.lst ys) ∧ ys.Perm xs ∧ Hand h' ∧ outs = [h', .lst xs] := by
  refine wF_fun ?_
  show wps (B__law_shuffled [.ow h, .fz (.lst xs), .no, .no]) _
  unfold B__law_shuffled
  walk_at "all"
  refine ws_while (fun n ρ => ∃ h pool found, ρ = [.ow h, .fz (.lst xs), .ow (.lst pool), .ow (.lst found)] ∧ Hand h ∧ pool.length = n ∧ (found ++ pool).Perm xs) (n := xs.length) (by omega) ⟨h, xs, [], rfl, H, rfl, .refl _⟩ ?_
  rintro n _ ⟨h, pool, found, rfl, H, rfl, hp⟩
  have hl := hp.length_eq
  rw [List.length_append] at hl
  walk_at "all"
  refine ⟨fun e => ?_, fun e => ?_⟩
  · have e : 0 < pool.length := by simpa using e
    walk_at "all"
    refine w_draw rfl H ?_
    walk_at "all"
    refine ⟨by omega, by omega, rfl, fun h' z H' z0 z1 => ?_⟩
    have z2 : z.toNat < pool.length := by omega
    walk_at "all"
    refine ⟨_, _, _, rfl, popAt_nat z0 z2 (by omega), ?_⟩
    walk_at "all"
    refine ⟨_, _, _, rfl, if_pos (by omega), ?_⟩
    refine ⟨.inl rfl, (pool.eraseIdx z.toNat).length, by rw [List.length_eraseIdx_of_lt z2]; omega, h', _, _, rfl, H', rfl, ?_⟩
    have := erase_perm pool z.toNat z2
    rw [List.append_assoc]
    exact (this.append_left found).trans hp
  · have e : pool = [] := by
      have : ¬ 0 < pool.length := by simpa using e
      exact List.length_eq_zero_iff.mp (by omega)
    subst e
    walk_at "all"
    rw [List.append_nil] at hp
    exact ⟨_, _, rfl, hp, H, rfl⟩
end Lx
set_option Elab.async false
set_option linter.all false
set_option maxRecDepth 100000
set_option maxHeartbeats 1000000
namespace Lx
open PySem L2 Ly
local macro_rules | `(tactic| walk_at "op") => `(tactic| first | (exact eqB_int) | (exact ltB_int) | (exact gtB_int) | (exact leB_int) | (exact geB_int) | (exact neB_int) | (exact eqB_bl) | (exact neB_bl) | (refine mul_small ?_; constructor <;> omega) | (refine mul_smallR ?_; constructor <;> omega) | (refine mod_pos ?_; omega) | (refine fd_pos ?_; constructor <;> omega) | (refine sl_lstTo ?_; omega) | (refine sl_lstFrom ?_; omega) | (rfl))
local macro_rules | `(tactic| walk_at "one") => `(tactic| first
  | (focus ((with_reducible refine w_var1 ?_ ?_); rfl))
  | with_reducible refine w_con ?_
  | with_reducible refine w_bool ?_
  | with_reducible refine w_bin ?_
  | with_reducible refine w_un ?_
  | with_reducible refine w_cmp ?_
  | with_reducible refine w_andT ?_
  | with_reducible refine w_orT ?_
  | with_reducible refine w_notT ?_
  | with_reducible refine w_tst ?_
  | with_reducible refine w_andV ?_
  | with_reducible refine w_orV ?_
  | with_reducible refine w_notV ?_
  | with_reducible refine w_ifV ?_
  | with_reducible refine w_chn ?_
  | with_reducible refine w_bol ?_
  | with_reducible refine w_isi ?_
  | with_reducible refine w_nilA ?_
  | with_reducible refine w_consA ?_
  | with_reducible refine w_cal ?_
  | with_reducible refine w_frz ?_
  | with_reducible refine w_nilF ?_
  | with_reducible refine w_consF ?_
  | with_reducible refine w_tup ?_
  | with_reducible refine w_lst ?_
  | with_reducible refine w_newD ?_
  | with_reducible refine w_noPart ?_
  | with_reducible refine w_part ?_
  | with_reducible refine w_slice ?_
  | with_reducible refine w_join ?_
  | with_reducible refine w_get ?_
  | with_reducible refine w_nilX ?_
  | with_reducible refine w_consX ?_
  | with_reducible refine w_its ?_
  | with_reducible refine w_ita ?_
  | with_reducible refine w_rng1 ?_
  | with_reducible refine w_rng2 ?_
  | with_reducible refine w_yes ?_
  | with_reducible refine ws_seq ?_
  | with_reducible refine ws_next ?_
  | with_reducible refine ws_expr ?_
  | with_reducible refine ws_retS ?_
  | with_reducible refine ws_ite ?_
  | with_reducible refine ws_set ?_
  | with_reducible refine ws_par ?_
  | with_reducible refine ws_put ?_
  | (focus ((with_reducible refine w_mut ?_ ?_); rfl))
  | (focus ((with_reducible refine w_slotX1 ?_ ?_); rfl))
  | (focus ((first | with_reducible refine id_ex ?_ | with_reducible refine id_and ?_); first
      | (focus (refine ⟨_, _, ?_, rfl, rfl, ?_, ?_⟩; rotate_left; walk_at "op"))
      | (focus (refine ⟨_, ?_, rfl, ?_, ?_⟩; rotate_left; walk_at "op"))
      | (refine ⟨_, rfl, ?_⟩)
      | (refine ⟨_, _, rfl, ?_⟩)
      | (focus (refine ⟨S62.mk ?_ ?_, ?_⟩; omega; omega))
      | (refine ⟨Nat.le_of_ble_eq_true rfl, ?_⟩)
      | (refine ⟨by decide, ?_⟩)
      | (refine ⟨fun _ => ?_, fun h => absurd rfl h⟩)
      | (refine ⟨fun h => Fl.noConfusion h, fun _ => ?_⟩)
      | (refine ⟨fun _ => ?_, fun h => Bool.noConfusion h⟩)
      | (refine ⟨fun h => Bool.noConfusion h, fun _ => ?_⟩)
      | (refine ⟨rfl, ?_⟩))))
local macro_rules | `(tactic| walk_at "all") => `(tactic| repeat walk_at "one")
def abc : List Nat := [97, 98, 99]
def Text (t : List Nat) : Prop := 0 < t.length ∧ t.length ≤ 60 ∧ ∀ k ∈ t, k ∈ abc
theorem strsD_map : ∀ ss : List (List Nat), strsD (ss.map D.str) = some ss
  | [] => rfl
  | s :: ss => by
    show (strsD (ss.map D.str)).map (fun r => s :: r) = _
    rw [strsD_map ss]
    rfl
theorem joinL_nil : ∀ ss : List (List Nat), joinL [] ss = ss.flatten
  | [] => rfl
  | [s] => by simp [joinL]
  | s :: t :: r => by
    show s ++ [] ++ joinL [] (t :: r) = _
    rw [joinL_nil (t :: r)]
    simp
theorem join_signs (s : List Nat) (hl : s.length ≤ 1000000) : joinV [] (.lst (s.map fun k => .str [k])) = some (.fz (.str s)) := by
  show jn [] (s.map fun k => .str [k]) = _
  have e : s.map (fun k => D.str [k]) = (s.map fun k => [k]).map D.str := by rw [List.map_map]; rfl
  have e2 : ((s.map fun k => [k]).map List.length).sum = s.length := by
    rw [List.map_map]
    clear hl e
    induction s with
    | nil => rfl
    | cons a r ih => rw [List.map_cons, List.sum_cons, ih, List.length_cons]; show 1 + r.length = _; omega
  unfold jn
  rw [e, strsD_map, Option.bind_some, e2, if_pos (by simp; omega), joinL_nil]
  have e3 : (s.map fun k => [k]).flatten = s := by
    clear hl e e2
    induction s with
    | nil => rfl
    | cons a r ih => rw [List.map_cons, List.flatten_cons, ih]; rfl
  rw [e3]
theorem w_some {i : Nat} {e : Ly.Sem R} {ρ : Ly.Env} {Q : R → Ly.Env → Prop} {h : D} (e0 : ρ[i]? = some (.ow h)) (he : wp (e ρ) fun r ρ1 => ∃ d ρ2, frz ρ1 r = some (d, ρ2) ∧ ρ2[i]? = some (.ow h) ∧ wpF (F__law_some [h, d]) fun r outs => ∃ h' z, r = .fz z ∧ outs = [h', d] ∧ Q (.fz z) (ρ2.set i (.ow h'))) :
    wp (callS io0 2 F__law_some (slotX i (consX e nilX)) ρ) Q := by
  refine w_call (w_slotX e0 (w_consX (wp_imp he ?_)))
  rintro r ρ1 ⟨d, ρ2, e1, e2, k⟩
  refine ⟨_, _, e1, w_nilX ⟨[h, d], ?_, rfl, wpF_imp k ?_⟩⟩
  · show (match ρ2[i]? with | some (.ow d) => _ | _ => _) = _
    rw [e2]
    rfl
  · rintro r outs ⟨h', z, rfl, rfl, q⟩
    exact ⟨rfl, rfl, q⟩
theorem w_some_b {i j : Nat} {ρ : Ly.Env} {Q : R → Ly.Env → Prop} {h : D} {xs : List D} (e0 : ρ[i]? = some (.ow h)) (e1 : ρ[j]? = some (.ow (.lst xs))) (hij : ([j].contains i) = false) (H : Hand h) (h0 : 0 < xs.length) (h1 : xs.length < 1073741824)
    (k : ∀ h' z, z ∈ xs → Hand h' → Q (.fz z) ((ρ.set j (.ow (.lst xs))).set i (.ow h'))) : wp (callS io01 2 F__law_some_b (slotX i (slotX j nilX)) ρ) Q := by
  refine w_call (w_slotX e0 (w_slotX e1 (w_nilX ⟨[h, .lst xs], ?_, ?_, wpF_imp (some_lst_b H h0 h1) ?_⟩)))
  · show (match ρ[i]? with | some (.ow d) => _ | _ => _) = _
    rw [e0]
    show (match ρ[j]? with | some (.ow d) => _ | _ => _ : Option _).map _ = _
    rw [e1]
    rfl
  · show (true && (!([j].contains i) && (!([].contains j) && true)) && decide (2 = 2)) = true
    rw [hij]
    rfl
  · rintro r outs ⟨h', z, hz, rfl, H', rfl⟩
    exact ⟨rfl, rfl, k h' z hz H'⟩
theorem texts_ok {h : D} (H : Hand h) : wpF (F__law_texts [h]) fun r outs => ∃ (h' : D) (ts : List (List Nat)), r = .fr (.lst (ts.map .str)) ∧ ts.length < 10 ∧ (∀ t ∈ ts, Text t) ∧ Hand h' ∧ outs = [h'] := by
  refine wF_fun ?_
  show wps (B__law_texts [.ow h, .no, .no, .no, .no, .no]) _
  unfold B__law_texts
  walk_at "all"
  refine ws_for ?_
  walk_at "all"
  refine w_draw rfl H ?_
  walk_at "all"
  intro h z H z0 z1
  walk_at "all"
  refine ⟨fun pre ρ => ∃ (h : D) (ts : List (List Nat)) (a2 a3 a4 : Ly.Slot), ρ = [.ow h, .ow (.lst (ts.map .str)), a2, a3, a4, .no] ∧ Hand h ∧ ts.length = pre.length ∧ ∀ t ∈ ts, Text t, ⟨h, [], _, _, _, rfl, H, rfl, nofun⟩, ?_, ?_⟩
  · rintro pre d suf _ hd ⟨h, ts, a2, a3, a4, rfl, H, hl, ht⟩
    have hl3 : pre.length < 10 := by
      have := congrArg List.length hd
      unfold rng at this
      rw [List.length_map, List.length_range, List.length_append, List.length_cons] at this
      omega
    refine ⟨_, rfl, ?_⟩
    refine ws_cut (fun ρ => ∃ (h : D) (t : List Nat) (a2 a4 : Ly.Slot), ρ = [.ow h, .ow (.lst (ts.map .str)), a2, .fz (.str t), a4, .no] ∧ Hand h ∧ 0 < t.length ∧ t.length ≤ 5 ∧ ∀ k ∈ t, k ∈ abc) ?_ ?_
    · walk_at "all"
      refine w_lc ?_
      walk_at "all"
      refine w_draw rfl H ?_
      walk_at "all"
      intro h z H z0 z1
      walk_at "all"
      refine ⟨?_, ?_⟩
      · unfold rng
        rw [List.length_map, List.length_range]
        omega
      refine ⟨fun pre acc ρ => ∃ (h : D) (s : List Nat), ρ = [.ow h, .ow (.lst (ts.map .str)), .fz d, a3, a4, .no] ∧ Hand h ∧ acc = s.map (fun k => .str [k]) ∧ s.length = pre.length ∧ ∀ k ∈ s, k ∈ abc, ⟨h, [], rfl, H, rfl, rfl, nofun⟩, ?_, ?_, ?_⟩
      · rintro pre acc ρ ⟨_, s, _, _, rfl, e, _⟩
        rw [List.length_map, e]
        exact Nat.le_refl _
      · rintro pre acc d' suf _ hd' ⟨h, s, rfl, H, rfl, e, hs⟩
        walk_at "all"
        refine w_some rfl ?_
        walk_at "all"
        refine wpF_imp (some_str H (by decide) (by decide)) ?_
        rintro _ _ ⟨h', k, hk, rfl, H', rfl⟩
        refine ⟨_, _, rfl, rfl, ?_⟩
        refine ⟨_, _, rfl, h', s ++ [k], rfl, H', ?_, ?_, ?_⟩
        · rw [List.map_append]; rfl
        · rw [List.length_append, List.length_append, e]; rfl
        · intro k' hk'
          rcases List.mem_append.mp hk' with hk' | hk'
          · exact hs k' hk'
          · rw [List.mem_singleton.mp hk']; exact hk
      · rintro _ _ ⟨h', s, rfl, H', rfl, e, hs⟩
        have hl2 : s.length = (1 + z).toNat := by
          rw [e]
          unfold rng
          rw [List.length_map, List.length_range]
          simp
        refine ⟨_, _, rfl, join_signs s (by omega), ?_⟩
        walk_at "all"
        exact ⟨h', s, _, _, rfl, H', by omega, by omega, hs⟩
    · rintro _ ⟨h, t, a2, a4, rfl, H, t0, t1, t2⟩
      refine ws_cut (fun ρ => ∃ (h : D) (t : List Nat) (a4 : Ly.Slot), ρ = [.ow h, .ow (.lst (ts.map .str)), a2, .fz (.str t), a4, .no] ∧ Hand h ∧ 0 < t.length ∧ t.length ≤ 65 ∧ ∀ k ∈ t, k ∈ abc) ?_ ?_
      · walk_at "all"
        refine ⟨fun e => ?_, fun e => ?_⟩
        · have e : 0 < ts.length := by simpa using e
          walk_at "all"
          refine w_draw rfl H ?_
          walk_at "all"
          intro h z H z0 z1
          walk_at "all"
          refine ⟨fun e2 => ?_, fun e2 => ?_⟩
          · walk_at "all"
            refine w_some_b rfl rfl rfl H (by rw [List.length_map]; omega) (by rw [List.length_map]; omega) ?_
            intro h z hz H
            obtain ⟨old, ho, rfl⟩ := List.mem_map.mp hz
            obtain ⟨o0, o1, o2⟩ := ht old ho
            walk_at "all"
            refine ⟨.str old, .str t, .fz (.str (old ++ t)), rfl, rfl, if_pos (by rw [decide_eq_true_eq]; omega), ?_⟩
            walk_at "all"
            refine ⟨.str t, .str old, .fz (.str (t ++ old)), rfl, rfl, if_pos (by rw [decide_eq_true_eq]; omega), ?_⟩
            walk_at "all"
            refine w_draw rfl H ?_
            walk_at "all"
            refine ⟨[.str old], _, rfl, if_pos (by omega), ?_⟩
            walk_at "all"
            refine ⟨by omega, by omega, rfl, fun h z H z0 z1 => ?_⟩
            walk_at "all"
            refine ⟨.str old, _, rfl, sl_strFrom (by omega) z0, ?_⟩
            walk_at "all"
            refine w_draw rfl H ?_
            walk_at "all"
            intro h z2 H z20 z21
            have hz2 : z2.toNat < 4 := by omega
            have hu : ∃ u, ([.str (old ++ t), .str (t ++ old), .str old, .str (old.drop z.toNat)] : List D)[z2.toNat]? = some (.str u) ∧ 0 < u.length ∧ u.length ≤ 65 ∧ ∀ k ∈ u, k ∈ abc := by
              generalize z2.toNat = n at hz2
              match n, hz2 with
              | 0, _ => exact ⟨_, rfl, by rw [List.length_append]; omega, by rw [List.length_append]; omega, fun k hk => (List.mem_append.mp hk).elim (o2 k) (t2 k)⟩
              | 1, _ => exact ⟨_, rfl, by rw [List.length_append]; omega, by rw [List.length_append]; omega, fun k hk => (List.mem_append.mp hk).elim (t2 k) (o2 k)⟩
              | 2, _ => exact ⟨_, rfl, o0, by omega, o2⟩
              | 3, _ => exact ⟨_, rfl, by rw [List.length_drop]; omega, by rw [List.length_drop]; omega, fun k hk => o2 k (List.mem_of_mem_drop hk)⟩
            obtain ⟨u, hu, u0, u1, u2⟩ := hu
            refine ⟨_, _, _, rfl, rfl, ix_lst z20 hu, ?_⟩
            walk_at "all"
            exact ⟨_, u, _, rfl, H, u0, u1, u2⟩
          · walk_at "all"
            exact ⟨_, t, _, rfl, H, t0, by omega, t2⟩
        · walk_at "all"
          exact ⟨_, t, _, rfl, H, t0, by omega, t2⟩
      · rintro _ ⟨h, t, a4, rfl, H, t0, t1, t2⟩
        walk_at "all"
        refine ⟨_, _, rfl, sl_strTo (by omega) (by omega), ?_⟩
        walk_at "all"
        refine ⟨_, _, _, rfl, if_pos (by rw [List.length_map]; omega), ?_⟩
        refine ⟨.inl rfl, h, ts ++ [t.take 60], _, _, _, by rw [List.map_append]; rfl, H, by rw [List.length_append, List.length_append, hl]; rfl, fun t' ht' => ?_⟩
        rcases List.mem_append.mp ht' with ht' | ht'
        · exact ht t' ht'
        · rw [List.mem_singleton.mp ht']
          exact ⟨by rw [List.length_take]; omega, by rw [List.length_take]; omega, fun k hk => t2 k (List.mem_of_mem_take hk)⟩
  · rintro _ ⟨h, ts, a2, a3, a4, rfl, H, hl, ht⟩
    walk_at "all"
    refine ⟨_, _, rfl, ?_, ht, H, rfl⟩
    rw [hl]
    unfold rng
    rw [List.length_map, List.length_range]
    omega
end Lx
set_option Elab.async false
set_option linter.all false
set_option maxRecDepth 100000
set_option maxHeartbeats 1000000
namespace Lx
open PySem L2 Ly
abbrev Pr := List Nat × List Nat
def pD (p : Pr) : D := .tup [.str p.1, .str p.2]
def pP (p : Pr) : PyData := .tuple [.str ⟨p.1.toArray⟩, .str ⟨p.2.toArray⟩]
theorem toPy_pD (p : Pr) : toPy (pD p) = some (pP p) := rfl
theorem py_pD (p : Pr) : py (pD p) = pP p := rfl
theorem toPys_pD : ∀ ps : List Pr, toPys (ps.map pD) = some (ps.map pP)
  | [] => rfl
  | p :: ps => by
    show (toPy (pD p)).bind (fun q => (toPys (ps.map pD)).map fun qs => q :: qs) = _
    rw [toPy_pD, toPys_pD ps]
    rfl
theorem alike_pP (p q : Pr) : PySem.W.alike (pP p) (pP q) = true := by simp [pP, PySem.W.alike, PySem.W.alikeAll]
theorem depth_pP : ∀ ps : List Pr, PyData.depthAll (ps.map pP) ≤ 1
  | [] => Nat.zero_le _
  | p :: ps => by
    have h1 : (pP p).depth = 1 := by simp [pP, PyData.depth, PyData.depthAll]
    have h2 := depth_pP ps
    show max (pP p).depth (PyData.depthAll (ps.map pP)) ≤ 1
    omega
theorem mmOk_pP (ps : List Pr) : mmOk (ps.map pP) = true := by
  unfold mmOk
  rw [Bool.and_eq_true, Bool.and_eq_true, decide_eq_true_eq]
  refine ⟨⟨List.all_eq_true.mpr fun x hx => List.all_eq_true.mpr fun y hy => ?_, List.all_eq_true.mpr fun x hx => ?_⟩, Nat.le_trans (depth_pP ps) (by decide)⟩
  · obtain ⟨p, _, rfl⟩ := List.mem_map.mp hx
    obtain ⟨q, _, rfl⟩ := List.mem_map.mp hy
    exact alike_pP p q
  · obtain ⟨p, _, rfl⟩ := List.mem_map.mp hx
    rfl
def ltP (p q : Pr) : Prop := p.1 < q.1 ∨ (p.1 = q.1 ∧ p.2 < q.2)
theorem lt_pP (p q : Pr) : PySem.W.dataLt (pP p) (pP q) = true ↔ ltP p q := by
  unfold pP ltP
  rw [PySem.W.dataLt_pair (by simp [PySem.W.alike]) (by simp [PySem.W.alike]), eqv_str, eqv_str, PySem.W.dataLt_str, PySem.W.dataLt_str]
  by_cases h1 : p.1 = q.1
  · have n1 : ¬ p.1 < q.1 := by rw [h1]; exact List.lt_irrefl _
    by_cases h2 : p.2 = q.2
    · have n2 : ¬ p.2 < q.2 := by rw [h2]; exact List.lt_irrefl _
      simp [h1, h2, n1, n2, List.lt_irrefl]
    · simp [h1, h2, List.lt_irrefl]
  · simp [h1]
theorem ltP_tri (p q : Pr) (h1 : ¬ ltP p q) (h2 : ¬ ltP q p) : p = q := by
  unfold ltP at h1 h2
  have e1 : p.1 = q.1 := List.le_antisymm (List.not_lt.mp fun h => h2 (.inl h)) (List.not_lt.mp fun h => h1 (.inl h))
  have e2 : p.2 = q.2 := List.le_antisymm (List.not_lt.mp fun h => h2 (.inr ⟨e1.symm, h⟩)) (List.not_lt.mp fun h => h1 (.inr ⟨e1, h⟩))
  exact Prod.ext e1 e2
theorem ltP_trans {p q r : Pr} (h1 : ltP p q) (h2 : ltP q r) : ltP p r := by
  unfold ltP at *
  rcases h1 with h1 | ⟨e1, h1⟩ <;> rcases h2 with h2 | ⟨e2, h2⟩
  · exact .inl (List.lt_trans h1 h2)
  · exact .inl (e2 ▸ h1)
  · exact .inl (e1 ▸ h2)
  · exact .inr ⟨e1.trans e2, List.lt_trans h1 h2⟩
theorem ltP_irr (p : Pr) : ¬ ltP p p := by
  rintro (h | ⟨_, h⟩) <;> exact List.lt_irrefl _ h
/-- the least pair of a row -/
theorem min_pairs : ∀ (ps : List Pr) (p : Pr), ∃ m, minX (pD p) (ps.map pD) = pD m ∧ m ∈ p :: ps ∧ ∀ q ∈ p :: ps, ¬ ltP q m
  | [], p => ⟨p, rfl, .head _, fun q hq => by rw [List.mem_singleton.mp hq]; exact ltP_irr p⟩
  | x :: ps, p => by
    have e : minX (pD p) ((x :: ps).map pD) = minX (if PySem.W.dataLt (pP x) (pP p) then pD x else pD p) (ps.map pD) := rfl
    rw [e]
    by_cases h : PySem.W.dataLt (pP x) (pP p) = true
    · rw [if_pos h]
      have h := (lt_pP _ _).mp h
      obtain ⟨m, e1, e2, e3⟩ := min_pairs ps x
      refine ⟨m, e1, .tail _ e2, fun q hq => ?_⟩
      rcases List.mem_cons.mp hq with rfl | hq
      · exact fun z => e3 x (.head _) (ltP_trans h z)
      · exact e3 q hq
    · rw [if_neg h]
      have h : ¬ ltP x p := fun z => h ((lt_pP _ _).mpr z)
      obtain ⟨m, e1, e2, e3⟩ := min_pairs ps p
      refine ⟨m, e1, ?_, fun q hq => ?_⟩
      · rcases List.mem_cons.mp e2 with rfl | e2
        · exact .head _
        · exact .tail _ (.tail _ e2)
      · rcases List.mem_cons.mp hq with rfl | hq
        · exact e3 _ (.head _)
        · rcases List.mem_cons.mp hq with rfl | hq
          · intro z
            have n := e3 p (.head _)
            by_cases hpm : p = m
            · subst hpm; exact h z
            · by_cases h2 : ltP m p
              · exact h (ltP_trans z h2)
              · exact hpm (ltP_tri p m n h2)
          · exact e3 q (.tail _ hq)
/-- the answer of a set of pairs -/
def Least (C : Pr → Prop) (d : D) : Prop := (d = .non ∧ ∀ p, ¬ C p) ∨ ∃ m, d = pD m ∧ C m ∧ ∀ q, C q → ¬ ltP q m
theorem Least.uniq {C C' : Pr → Prop} {d d' : D} (h : Least C d) (h' : Least C' d') (e : ∀ p, C p ↔ C' p) : d = d' := by
  rcases h with ⟨rfl, n⟩ | ⟨m, rfl, h1, h2⟩ <;> rcases h' with ⟨rfl, n'⟩ | ⟨m', rfl, h1', h2'⟩
  · rfl
  · exact (n m' ((e m').mpr h1')).elim
  · exact (n' m ((e m).mp h1)).elim
  · rw [ltP_tri m m' (h2' m ((e m).mp h1)) (h2 m' ((e m').mpr h1'))]
theorem best_pairs (p : Pr) (ps : List Pr) : ∃ d, bestL minX ((p :: ps).map pD) = some (.fz d) ∧ Least (fun q => q ∈ p :: ps) d := by
  obtain ⟨m, e1, e2, e3⟩ := min_pairs ps p
  refine ⟨pD m, ?_, .inr ⟨m, rfl, e2, e3⟩⟩
  show (toPys ((p :: ps).map pD)).bind _ = _
  rw [toPys_pD, Option.bind_some, if_pos (mmOk_pP _), e1]
end Lx
set_option Elab.async false
set_option linter.all false
set_option maxRecDepth 100000
set_option maxHeartbeats 1000000
namespace Lx
open PySem L2 Ly
local macro_rules | `(tactic| walk_at "op") => `(tactic| first | (exact eqB_int) | (exact ltB_int) | (exact gtB_int) | (exact leB_int) | (exact geB_int) | (exact neB_int) | (exact eqB_bl) | (exact neB_bl) | (refine mul_small ?_; constructor <;> omega) | (refine mul_smallR ?_; constructor <;> omega) | (refine mod_pos ?_; omega) | (refine fd_pos ?_; constructor <;> omega) | (refine sl_lstTo ?_; omega) | (refine sl_lstFrom ?_; omega) | (rfl))
local macro_rules | `(tactic| walk_at "one") => `(tactic| first
  | (focus ((with_reducible refine w_var1 ?_ ?_); rfl))
  | with_reducible refine w_con ?_
  | with_reducible refine w_bool ?_
  | with_reducible refine w_bin ?_
  | with_reducible refine w_un ?_
  | with_reducible refine w_cmp ?_
  | with_reducible refine w_andT ?_
  | with_reducible refine w_orT ?_
  | with_reducible refine w_notT ?_
  | with_reducible refine w_tst ?_
  | with_reducible refine w_andV ?_
  | with_reducible refine w_orV ?_
  | with_reducible refine w_notV ?_
  | with_reducible refine w_ifV ?_
  | with_reducible refine w_chn ?_
  | with_reducible refine w_bol ?_
  | with_reducible refine w_isi ?_
  | with_reducible refine w_nilA ?_
  | with_reducible refine w_consA ?_
  | with_reducible refine w_cal ?_
  | with_reducible refine w_frz ?_
  | with_reducible refine w_nilF ?_
  | with_reducible refine w_consF ?_
  | with_reducible refine w_tup ?_
  | with_reducible refine w_lst ?_
  | with_reducible refine w_newD ?_
  | with_reducible refine w_noPart ?_
  | with_reducible refine w_part ?_
  | with_reducible refine w_slice ?_
  | with_reducible refine w_join ?_
  | with_reducible refine w_get ?_
  | with_reducible refine w_nilX ?_
  | with_reducible refine w_consX ?_
  | with_reducible refine w_its ?_
  | with_reducible refine w_ita ?_
  | with_reducible refine w_rng1 ?_
  | with_reducible refine w_rng2 ?_
  | with_reducible refine w_yes ?_
  | with_reducible refine ws_seq ?_
  | with_reducible refine ws_next ?_
  | with_reducible refine ws_expr ?_
  | with_reducible refine ws_retS ?_
  | with_reducible refine ws_ite ?_
  | with_reducible refine ws_set ?_
  | with_reducible refine ws_par ?_
  | with_reducible refine ws_put ?_
  | (focus ((with_reducible refine w_mut ?_ ?_); rfl))
  | (focus ((with_reducible refine w_slotX1 ?_ ?_); rfl))
  | (focus ((first | with_reducible refine id_ex ?_ | with_reducible refine id_and ?_); first
      | (focus (refine ⟨_, _, ?_, rfl, rfl, ?_, ?_⟩; rotate_left; walk_at "op"))
      | (focus (refine ⟨_, ?_, rfl, ?_, ?_⟩; rotate_left; walk_at "op"))
      | (refine ⟨_, rfl, ?_⟩)
      | (refine ⟨_, _, rfl, ?_⟩)
      | (focus (refine ⟨S62.mk ?_ ?_, ?_⟩; omega; omega))
      | (refine ⟨Nat.le_of_ble_eq_true rfl, ?_⟩)
      | (refine ⟨by decide, ?_⟩)
      | (refine ⟨fun _ => ?_, fun h => absurd rfl h⟩)
      | (refine ⟨fun h => Fl.noConfusion h, fun _ => ?_⟩)
      | (refine ⟨fun _ => ?_, fun h => Bool.noConfusion h⟩)
      | (refine ⟨fun h => Bool.noConfusion h, fun _ => ?_⟩)
      | (refine ⟨rfl, ?_⟩))))
local macro_rules | `(tactic| walk_at "all") => `(tactic| repeat walk_at "one")
theorem okS_of {s : List Nat} (h : ∀ k ∈ s, k < 1114112) : okS s = true := by
  unfold okS PyData.strOk
  rw [Array.all_eq_true']
  intro k hk
  exact decide_eq_true (h k (by simpa using hk))
theorem okS_abc {s : List Nat} (h : ∀ k ∈ s, k ∈ abc) : okS s = true := okS_of fun k hk => by
  have := h k hk
  unfold abc at this
  simp at this
  omega
def Cl (one other : List Nat) : Bool := decide (other.take one.length = one) || decide (other.drop (other.length - one.length) = one)
theorem clashing_ok {one other : List Nat} (h : one.length < other.length) (h1 : ∀ k ∈ one, k ∈ abc) (h2 : ∀ k ∈ other, k ∈ abc) (hl : other.length ≤ 1000) :
    wpF (F__law_clashing [.str one, .str other]) fun r outs => r = .fz (.bl (Cl one other)) ∧ outs = [.str one, .str other] := by
  refine wF_fun ?_
  show wps (B__law_clashing [.fz (.str one), .fz (.str other), .no, .no]) _
  unfold B__law_clashing
  have o1 : okS one = true := okS_abc h1
  have o2 : ∀ n, okS (other.take n) = true := fun n => okS_abc fun k hk => h2 k (List.mem_of_mem_take hk)
  have o3 : ∀ n, okS (other.drop n) = true := fun n => okS_abc fun k hk => h2 k (List.mem_of_mem_drop hk)
  have l1 : lenD [.str one] = some (.fz (.int one.length)) := if_pos (by omega)
  have l2 : lenD [.str other] = some (.fz (.int other.length)) := if_pos (by omega)
  walk_at "all"
  refine ⟨[.str one], _, rfl, l1, ?_⟩
  walk_at "all"
  refine ⟨[.str other], _, rfl, l2, ?_⟩
  walk_at "all"
  refine ⟨fun e => absurd e (by simp; omega), fun _ => ?_⟩
  walk_at "all"
  refine ⟨[.str one], _, rfl, l1, ?_⟩
  walk_at "all"
  refine ⟨.str other, _, rfl, sl_strTo (by omega) (by omega), ?_⟩
  walk_at "all"
  refine ⟨.str _, .str one, _, rfl, rfl, eqB_str (o2 _) o1, ?_⟩
  walk_at "all"
  have e1 : ((one.length : Int)).toNat = one.length := by simp
  rw [e1]
  unfold Cl
  refine ⟨fun e => ?_, fun e => ?_⟩
  · walk_at "all"
    rw [e]
    exact ⟨rfl, rfl⟩
  · walk_at "all"
    refine ⟨[.str other], _, rfl, l2, ?_⟩
    walk_at "all"
    refine ⟨[.str one], _, rfl, l1, ?_⟩
    walk_at "all"
    refine ⟨.str other, _, rfl, sl_strFrom (by omega) (by omega), ?_⟩
    walk_at "all"
    refine ⟨.str _, .str one, _, rfl, rfl, eqB_str (o3 _) o1, ?_⟩
    walk_at "all"
    have e2 : ((other.length : Int) - (one.length : Int)).toNat = other.length - one.length := by omega
    rw [e, e2]
    exact ⟨rfl, rfl⟩
theorem call_pure {n : Nat} {F : FS} {as : Ly.Sem (List Ar)} {ρ : Ly.Env} {Q : R → Ly.Env → Prop} (h : wp (as ρ) fun xs ρ1 => ∃ ds, argD ρ1 xs = some ds ∧ (maskOk ioN 0 xs && noDup (slotsOf xs) && decide (xs.length = n)) = true ∧ setIo ρ1 xs ds = ρ1 ∧ wpF (F ds) fun r outs => isSl r = false ∧ outs = ds ∧ ds.length = xs.length ∧ Q r ρ1) : wp (callS ioN n F as ρ) Q :=
  w_call (wp_imp h fun xs ρ1 ⟨ds, e1, e2, e3, k⟩ => ⟨ds, e1, e2, wpF_imp k fun r outs ⟨h1, h2, h3, q⟩ => ⟨h1, by rw [h2]; exact h3, by rw [h2, e3]; exact q⟩⟩)
def LawC (ts : List (List Nat)) (p : Pr) : Prop := p.1 ∈ ts ∧ p.2 ∈ ts ∧ p.1.length < p.2.length ∧ Cl p.1 p.2 = true
theorem split_map {α β : Type} {f : α → β} {ts : List α} {pre suf : List β} {d : β} (h : ts.map f = pre ++ d :: suf) : ∃ us t vs, ts = us ++ t :: vs ∧ pre = us.map f ∧ d = f t ∧ suf = vs.map f := by
  obtain ⟨us, ws, e1, e2, e3⟩ := List.map_eq_append_iff.mp h
  obtain ⟨t, vs, e4, e5, e6⟩ := List.map_eq_cons_iff.mp e3
  exact ⟨us, t, vs, by rw [e1, e4], e2.symm, e5.symm, e6.symm⟩
theorem str_inj {us vs : List (List Nat)} (h : us.map D.str = vs.map D.str) : us = vs := by
  have := congrArg strsD h
  rw [strsD_map, strsD_map] at this
  exact Option.some.inj this
theorem least_clash_ok {ts : List (List Nat)} (ht : ∀ t ∈ ts, Text t) (hl : ts.length < 10) : wpF (F__law_least_clash [.lst (ts.map .str)]) fun r outs => ∃ d, r = .fz d ∧ Least (LawC ts) d ∧ outs = [.lst (ts.map .str)] := by
  refine wF_fun ?_
  show wps (B__law_least_clash [.fz (.lst (ts.map .str)), .no, .no, .no]) _
  unfold B__law_least_clash
  walk_at "all"
  refine ws_for ?_
  walk_at "all"
  refine ⟨fun pre ρ => ∃ (us : List (List Nat)) (ps : List Pr) (a2 a3 : Ly.Slot), pre = us.map .str ∧ ρ = [.fz (.lst (ts.map .str)), .ow (.lst (ps.map pD)), a2, a3] ∧ ps.length ≤ us.length * ts.length ∧ ∀ p, p ∈ ps ↔ p.1 ∈ us ∧ p.2 ∈ ts ∧ p.1.length < p.2.length ∧ Cl p.1 p.2 = true, ⟨[], [], _, _, rfl, rfl, Nat.zero_le _, by simp⟩, ?_, ?_⟩
  · rintro pre d suf _ hd ⟨us, ps, a2, a3, rfl, rfl, hn, hp⟩
    obtain ⟨us', one, vs, e1, e2, rfl, rfl⟩ := split_map hd
    have e2 := str_inj e2
    subst e2
    have h1 := ht one (by rw [e1]; simp)
    have hlen := congrArg List.length e1
    rw [List.length_append, List.length_cons] at hlen
    refine ⟨_, rfl, ?_⟩
    refine ws_for ?_
    walk_at "all"
    refine ⟨fun pre ρ => ∃ (ws : List (List Nat)) (ps : List Pr) (a3 : Ly.Slot), pre = ws.map .str ∧ ρ = [.fz (.lst (ts.map .str)), .ow (.lst (ps.map pD)), .fz (.str one), a3] ∧ ps.length ≤ us.length * ts.length + ws.length ∧ ∀ p, p ∈ ps ↔ (p.1 ∈ us ∧ p.2 ∈ ts ∧ p.1.length < p.2.length ∧ Cl p.1 p.2 = true) ∨ (p.1 = one ∧ p.2 ∈ ws ∧ p.1.length < p.2.length ∧ Cl p.1 p.2 = true), ⟨[], ps, _, rfl, rfl, by simpa using hn, by simpa using hp⟩, ?_, ?_⟩
    · rintro pre d suf _ hd ⟨ws, ps, a3, rfl, rfl, hn, hp⟩
      obtain ⟨ws', other, xs, e3, e4, rfl, rfl⟩ := split_map hd
      have e4 := str_inj e4
      subst e4
      have h2 := ht other (by rw [e3]; simp)
      have hlen2 := congrArg List.length e3
      rw [List.length_append, List.length_cons] at hlen2
      refine ⟨_, rfl, ?_⟩
      walk_at "all"
      refine ⟨[.str one], _, rfl, if_pos (by have := h1.2.1; omega), ?_⟩
      walk_at "all"
      refine ⟨[.str other], _, rfl, if_pos (by have := h2.2.1; omega), ?_⟩
      walk_at "all"
      have keep : ∀ (c : ¬ (one.length < other.length ∧ Cl one other = true)), ∀ p, p ∈ ps ↔ (p.1 ∈ us ∧ p.2 ∈ ts ∧ p.1.length < p.2.length ∧ Cl p.1 p.2 = true) ∨ (p.1 = one ∧ p.2 ∈ ws ++ [other] ∧ p.1.length < p.2.length ∧ Cl p.1 p.2 = true) := fun c p => by
        rw [hp p]
        constructor
        · rintro (h | ⟨a, b, e⟩)
          · exact .inl h
          · exact .inr ⟨a, List.mem_append_left _ b, e⟩
        · rintro (h | ⟨a, b, e⟩)
          · exact .inl h
          · rcases List.mem_append.mp b with b | b
            · exact .inr ⟨a, b, e⟩
            · rw [a, List.mem_singleton.mp b] at e
              exact (c e).elim
      refine ⟨fun e => ?_, fun e => ?_⟩
      · have e : one.length < other.length := by simpa using e
        refine w_tst (call_pure ?_)
        walk_at "all"
        refine wpF_imp (clashing_ok e h1.2.2 h2.2.2 (by have := h2.2.1; omega)) ?_
        rintro _ _ ⟨rfl, rfl⟩
        refine ⟨rfl, rfl, rfl, ?_⟩
        walk_at "all"
        refine ⟨fun e2 => ?_, fun e2 => ?_⟩
        · walk_at "all"
          refine ⟨_, _, _, rfl, if_pos ?_, ?_⟩
          · rw [List.length_map]
            have h3 : us.length * ts.length ≤ 9 * 9 := Nat.mul_le_mul (by omega) (by omega)
            omega
          · refine ⟨.inl rfl, ws ++ [other], ps ++ [(one, other)], _, by simp, by rw [List.map_append]; rfl, by rw [List.length_append, List.length_append, List.length_singleton, List.length_singleton]; omega, fun p => ?_⟩
            rw [List.mem_append, hp p]
            constructor
            · rintro ((h | ⟨a, b, c⟩) | h)
              · exact .inl h
              · exact .inr ⟨a, List.mem_append_left _ b, c⟩
              · rw [List.mem_singleton.mp h]
                exact .inr ⟨rfl, by simp, e, e2⟩
            · rintro (h | ⟨a, b, c⟩)
              · exact .inl (.inl h)
              · rcases List.mem_append.mp b with b | b
                · exact .inl (.inr ⟨a, b, c⟩)
                · exact .inr (List.mem_singleton.mpr (Prod.ext a (List.mem_singleton.mp b)))
        · walk_at "all"
          refine ⟨.inl rfl, ws ++ [other], ps, _, by simp, rfl, by rw [List.length_append]; omega, keep fun z => ?_⟩
          rw [z.2] at e2
          cases e2
      · have e : ¬ one.length < other.length := by simpa using e
        walk_at "all"
        refine ⟨.inl rfl, ws ++ [other], ps, _, by simp, rfl, by rw [List.length_append]; omega, keep fun z => e z.1⟩
    · rintro _ ⟨ws, ps, a3, e, rfl, hn, hp⟩
      have e := str_inj e
      subst e
      refine ⟨.inl rfl, us ++ [one], ps, _, _, by simp, rfl, ?_, fun p => ?_⟩
      · rw [List.length_append, List.length_singleton, Nat.add_mul, Nat.one_mul]
        exact hn
      · rw [hp p]
        constructor
        · rintro (⟨a, b⟩ | ⟨a, b⟩)
          · exact ⟨List.mem_append_left _ a, b⟩
          · exact ⟨by rw [a]; simp, b⟩
        · rintro ⟨a, b⟩
          rcases List.mem_append.mp a with a | a
          · exact .inl ⟨a, b⟩
          · exact .inr ⟨List.mem_singleton.mp a, b⟩
  · rintro _ ⟨us, ps, a2, a3, e, rfl, hn, hp⟩
    have e := str_inj e
    subst e
    walk_at "all"
    refine ⟨fun e => ?_, fun e => ?_⟩
    · have e : ps = [] := by
        have := of_decide_eq_true e
        rw [List.length_map] at this
        exact List.length_eq_zero_iff.mp (by omega)
      subst e
      walk_at "all"
      exact ⟨.inl ⟨rfl, fun p hc => by have := (hp p).mpr ⟨hc.1, hc.2.1, hc.2.2⟩; cases this⟩, rfl⟩
    · walk_at "all"
      cases ps with
      | nil => simp at e
      | cons p ps =>
        obtain ⟨d, e1, e2⟩ := best_pairs p ps
        refine ⟨_, _, rfl, e1, ?_⟩
        walk_at "all"
        refine ⟨?_, rfl⟩
        rcases e2 with ⟨rfl, n⟩ | ⟨m, rfl, h1, h2⟩
        · exact (n p (.head _)).elim
        · exact .inr ⟨m, rfl, (hp m).mp h1, fun q hq => h2 q ((hp q).mpr hq)⟩
end Lx
set_option Elab.async false
set_option linter.all false
set_option maxRecDepth 100000
set_option maxHeartbeats 1000000
namespace Lx
open PySem L2 Ly
local macro_rules | `(tactic| walk_at "op") => `(tactic| first | (exact eqB_int) | (exact ltB_int) | (exact gtB_int) | (exact leB_int) | (exact geB_int) | (exact neB_int) | (exact eqB_bl) | (exact neB_bl) | (refine mul_small ?_; constructor <;> omega) | (refine mul_smallR ?_; constructor <;> omega) | (refine mod_pos ?_; omega) | (refine fd_pos ?_; constructor <;> omega) | (refine sl_lstTo ?_; omega) | (refine sl_lstFrom ?_; omega) | (rfl))
local macro_rules | `(tactic| walk_at "one") => `(tactic| first
  | (focus ((with_reducible refine w_var1 ?_ ?_); rfl))
  | with_reducible refine w_con ?_
  | with_reducible refine w_bool ?_
  | with_reducible refine w_bin ?_
  | with_reducible refine w_un ?_
  | with_reducible refine w_cmp ?_
  | with_reducible refine w_andT ?_
  | with_reducible refine w_orT ?_
  | with_reducible refine w_notT ?_
  | with_reducible refine w_tst ?_
  | with_reducible refine w_andV ?_
  | with_reducible refine w_orV ?_
  | with_reducible refine w_notV ?_
  | with_reducible refine w_ifV ?_
  | with_reducible refine w_chn ?_
  | with_reducible refine w_bol ?_
  | with_reducible refine w_isi ?_
  | with_reducible refine w_nilA ?_
  | with_reducible refine w_consA ?_
  | with_reducible refine w_cal ?_
  | with_reducible refine w_frz ?_
  | with_reducible refine w_nilF ?_
  | with_reducible refine w_consF ?_
  | with_reducible refine w_tup ?_
  | with_reducible refine w_lst ?_
  | with_reducible refine w_newD ?_
  | with_reducible refine w_noPart ?_
  | with_reducible refine w_part ?_
  | with_reducible refine w_slice ?_
  | with_reducible refine w_join ?_
  | with_reducible refine w_get ?_
  | with_reducible refine w_nilX ?_
  | with_reducible refine w_consX ?_
  | with_reducible refine w_its ?_
  | with_reducible refine w_ita ?_
  | with_reducible refine w_rng1 ?_
  | with_reducible refine w_rng2 ?_
  | with_reducible refine w_yes ?_
  | with_reducible refine ws_seq ?_
  | with_reducible refine ws_next ?_
  | with_reducible refine ws_expr ?_
  | with_reducible refine ws_retS ?_
  | with_reducible refine ws_ite ?_
  | with_reducible refine ws_set ?_
  | with_reducible refine ws_par ?_
  | with_reducible refine ws_put ?_
  | (focus ((with_reducible refine w_mut ?_ ?_); rfl))
  | (focus ((with_reducible refine w_slotX1 ?_ ?_); rfl))
  | (focus ((first | with_reducible refine id_ex ?_ | with_reducible refine id_and ?_); first
      | (focus (refine ⟨_, _, ?_, rfl, rfl, ?_, ?_⟩; rotate_left; walk_at "op"))
      | (focus (refine ⟨_, ?_, rfl, ?_, ?_⟩; rotate_left; walk_at "op"))
      | (refine ⟨_, rfl, ?_⟩)
      | (refine ⟨_, _, rfl, ?_⟩)
      | (focus (refine ⟨S62.mk ?_ ?_, ?_⟩; omega; omega))
      | (refine ⟨Nat.le_of_ble_eq_true rfl, ?_⟩)
      | (refine ⟨by decide, ?_⟩)
      | (refine ⟨fun _ => ?_, fun h => absurd rfl h⟩)
      | (refine ⟨fun h => Fl.noConfusion h, fun _ => ?_⟩)
      | (refine ⟨fun _ => ?_, fun h => Bool.noConfusion h⟩)
      | (refine ⟨fun h => Bool.noConfusion h, fun _ => ?_⟩)
      | (refine ⟨rfl, ?_⟩))))
local macro_rules | `(tactic| walk_at "all") => `(tactic| repeat walk_at "one")
def letters : List Nat := [97, 98, 99, 100, 101, 102, 103, 104, 105, 106, 107, 108, 109, 110, 111, 112, 113, 114, 115, 116, 117, 118, 119, 120, 121, 122]
def txtD : D → Bool
  | .str s => s.all fun k => decide (k ∈ letters)
  | _ => false
def isStr : D → Bool
  | .str _ => true
  | _ => false
/-- a thing that is_text can be asked of -/
def Fine (d : D) : Prop := isiB nc ["str"] d = some (isStr d) ∧ (∀ s, d = .str s → s.length ≤ 1000000)
theorem blsD_map {α : Type} (f : α → Bool) : ∀ xs : List α, blsD (xs.map fun x => D.bl (f x)) = some (xs.map f)
  | [] => rfl
  | x :: xs => by
    show (blsD (xs.map fun x => D.bl (f x))).map (fun is => f x :: is) = _
    rw [blsD_map f xs]
    rfl
theorem all_map {α : Type} (f : α → Bool) (xs : List α) : allD [.lst (xs.map fun x => D.bl (f x))] = some (.fz (.bl (xs.all f))) := by
  show (blsD (xs.map fun x => D.bl (f x))).map (fun is => R.fz (.bl (is.all id))) = _
  rw [blsD_map, Option.map_some]
  simp [List.all_map]
theorem is_text_ok {d : D} (h : Fine d) : wpF (F_is_text [d]) fun r outs => r = .fz (.bl (txtD d)) ∧ outs = [d] := by
  refine wF_fun ?_
  show wps (B_is_text [.fz d, .no]) _
  unfold B_is_text
  walk_at "all"
  refine ⟨_, _, rfl, h.1, ?_⟩
  walk_at "all"
  refine ⟨fun e => ?_, fun e => ?_⟩
  · cases d with
    | str s =>
      refine w_cal (w_consA ?_)
      refine w_lcPure (fun _ => true) (fun d => match d with | .str [k] => .bl (decide (k ∈ letters)) | d => d) ?_
      walk_at "all"
      refine ⟨by rw [List.length_map]; exact h.2 s rfl, fun d hd => ?_, ?_⟩
      · obtain ⟨k, _, rfl⟩ := List.mem_map.mp hd
        walk_at "all"
        rfl
      · walk_at "all"
        refine ⟨_, .fz (.bl (s.all fun k => decide (k ∈ letters))), rfl, ?_, ?_⟩
        · have := all_map (fun k => decide (k ∈ letters)) s
          have e2 : List.filter (fun _ => true) (s.map fun k => D.str [k]) = s.map fun k => D.str [k] := List.filter_eq_self.mpr fun _ _ => rfl
          rw [e2, List.map_map]
          exact this
        · walk_at "all"
          rfl
    | _ => cases e
  · walk_at "all"
    cases d with
    | str s => cases e
    | _ => exact ⟨rfl, rfl⟩

theorem mem_letters {k : Nat} (h : k ∈ abc) : k ∈ letters := by
  unfold abc at h
  unfold letters
  simp at h ⊢
  omega
theorem txt_of {t : List Nat} (h : Text t) : txtD (.str t) = true := List.all_eq_true.mpr fun k hk => decide_eq_true (mem_letters (h.2.2 k hk))
theorem fine_str {t : List Nat} (h : t.length ≤ 1000000) : Fine (.str t) := ⟨rfl, fun s e => by cases e; exact h⟩
/-- what the check of clash asks of an item -/
def goodD : D → Bool
  | .str s => txtD (.str s) && decide (0 < s.length)
  | _ => false
def okSeq (d : D) (ds : List D) : Prop := d = .lst ds ∨ d = .tup ds
theorem okSeq.iter {d : D} {ds : List D} (h : okSeq d ds) : iterD d = some ds := by rcases h with rfl | rfl <;> rfl
theorem okSeq.listed {d : D} {ds : List D} (h : okSeq d ds) : isiB nc ["list", "tuple"] d = some true := by rcases h with rfl | rfl <;> rfl
theorem is_listed_ok {d : D} {b : Bool} (h : isiB nc ["list", "tuple"] d = some b) : wpF (F_is_listed [d]) fun r outs => r = .fz (.bl b) ∧ outs = [d] := by
  refine wF_fun ?_
  show wps (B_is_listed [.fz d]) _
  unfold B_is_listed
  walk_at "all"
  refine ⟨_, _, rfl, h, ?_⟩
  walk_at "all"
  rfl
/-- the check of the items -/
theorem check_ok {d : D} {ds : List D} {ρ : Ly.Env} {Q : R → Ly.Env → Prop} (e0 : ρ = [.fz d, .no]) (h : okSeq d ds) (hf : ∀ x ∈ ds, Fine x) (hl : ds.length ≤ 1000) (q : Q (.fr (.lst (ds.map fun d => .bl (goodD d)))) ρ) :
    wp (lcS (itS (varS 0)) (tgName 1) (yesT) (andV (callS ioN 1 F_is_text (consX (varS 1) (nilX))) (binS (boolR gtB) (calS lenD (consA (varS 1) (nilA))) (conS (.int 0)))) [1] ρ) Q := by
  subst e0
  refine w_lcPure (fun _ => true) (fun d => .bl (goodD d)) ?_
  walk_at "all"
  refine ⟨ds, h.iter, rfl, by omega, fun x hx => ?_, ?_⟩
  · walk_at "all"
    refine call_pure ?_
    walk_at "all"
    refine wpF_imp (is_text_ok (hf x hx)) ?_
    rintro _ _ ⟨rfl, rfl⟩
    refine ⟨rfl, rfl, rfl, ?_⟩
    walk_at "all"
    refine ⟨fun e => ?_, fun e => ?_⟩
    · cases x with
      | str s =>
        walk_at "all"
        refine ⟨[.str s], _, rfl, if_pos ((hf _ hx).2 s rfl), ?_⟩
        walk_at "all"
        refine ⟨List.set (wipeE [.fz d, .no] [1]) 1 (.fz (.str s)), ?_, rfl⟩
        show some (D.bl _, _) = some (D.bl (txtD (.str s) && decide (0 < s.length)), _)
        rw [e]
        simp
      | _ => cases e
    · refine ⟨List.set (wipeE [.fz d, .no] [1]) 1 (.fz x), ?_, rfl⟩
      have : goodD x = false := by
        cases x with
        | str s => show (txtD (.str s) && _) = false; rw [e]; rfl
        | _ => rfl
      rw [this]
      rfl
  · rw [List.filter_eq_self.mpr fun _ _ => rfl]
    exact q
end Lx
set_option Elab.async false
set_option linter.all false
set_option maxRecDepth 100000
set_option maxHeartbeats 1000000
namespace Lx
open PySem L2 Ly
local macro_rules | `(tactic| walk_at "op") => `(tactic| first | (exact eqB_int) | (exact ltB_int) | (exact gtB_int) | (exact leB_int) | (exact geB_int) | (exact neB_int) | (exact eqB_bl) | (exact neB_bl) | (refine mul_small ?_; constructor <;> omega) | (refine mul_smallR ?_; constructor <;> omega) | (refine mod_pos ?_; omega) | (refine fd_pos ?_; constructor <;> omega) | (refine sl_lstTo ?_; omega) | (refine sl_lstFrom ?_; omega) | (rfl))
local macro_rules | `(tactic| walk_at "one") => `(tactic| first
  | (focus ((with_reducible refine w_var1 ?_ ?_); rfl))
  | with_reducible refine w_con ?_
  | with_reducible refine w_bool ?_
  | with_reducible refine w_bin ?_
  | with_reducible refine w_un ?_
  | with_reducible refine w_cmp ?_
  | with_reducible refine w_andT ?_
  | with_reducible refine w_orT ?_
  | with_reducible refine w_notT ?_
  | with_reducible refine w_tst ?_
  | with_reducible refine w_andV ?_
  | with_reducible refine w_orV ?_
  | with_reducible refine w_notV ?_
  | with_reducible refine w_ifV ?_
  | with_reducible refine w_chn ?_
  | with_reducible refine w_bol ?_
  | with_reducible refine w_isi ?_
  | with_reducible refine w_nilA ?_
  | with_reducible refine w_consA ?_
  | with_reducible refine w_cal ?_
  | with_reducible refine w_frz ?_
  | with_reducible refine w_nilF ?_
  | with_reducible refine w_consF ?_
  | with_reducible refine w_tup ?_
  | with_reducible refine w_lst ?_
  | with_reducible refine w_newD ?_
  | with_reducible refine w_noPart ?_
  | with_reducible refine w_part ?_
  | with_reducible refine w_slice ?_
  | with_reducible refine w_join ?_
  | with_reducible refine w_get ?_
  | with_reducible refine w_nilX ?_
  | with_reducible refine w_consX ?_
  | with_reducible refine w_its ?_
  | with_reducible refine w_ita ?_
  | with_reducible refine w_rng1 ?_
  | with_reducible refine w_rng2 ?_
  | with_reducible refine w_yes ?_
  | with_reducible refine ws_seq ?_
  | with_reducible refine ws_next ?_
  | with_reducible refine ws_expr ?_
  | with_reducible refine ws_retS ?_
  | with_reducible refine ws_ite ?_
  | with_reducible refine ws_set ?_
  | with_reducible refine ws_par ?_
  | with_reducible refine ws_put ?_
  | (focus ((with_reducible refine w_mut ?_ ?_); rfl))
  | (focus ((with_reducible refine w_slotX1 ?_ ?_); rfl))
  | (focus ((first | with_reducible refine id_ex ?_ | with_reducible refine id_and ?_); first
      | (focus (refine ⟨_, _, ?_, rfl, rfl, ?_, ?_⟩; rotate_left; walk_at "op"))
      | (focus (refine ⟨_, ?_, rfl, ?_, ?_⟩; rotate_left; walk_at "op"))
      | (refine ⟨_, rfl, ?_⟩)
      | (refine ⟨_, _, rfl, ?_⟩)
      | (focus (refine ⟨S62.mk ?_ ?_, ?_⟩; omega; omega))
      | (refine ⟨Nat.le_of_ble_eq_true rfl, ?_⟩)
      | (refine ⟨by decide, ?_⟩)
      | (refine ⟨fun _ => ?_, fun h => absurd rfl h⟩)
      | (refine ⟨fun h => Fl.noConfusion h, fun _ => ?_⟩)
      | (refine ⟨fun _ => ?_, fun h => Bool.noConfusion h⟩)
      | (refine ⟨fun h => Bool.noConfusion h, fun _ => ?_⟩)
      | (refine ⟨rfl, ?_⟩))))
local macro_rules | `(tactic| walk_at "all") => `(tactic| repeat walk_at "one")
def Cut (p : Pr) : Prop := ∃ n, 0 < n ∧ n < p.2.length ∧ (p.1 = p.2.take n ∨ p.1 = p.2.drop n)
def PrC (us : List (List Nat)) (p : Pr) : Prop := p.1 ∈ us ∧ p.2 ∈ us ∧ Cut p
theorem filter_strs (ss l : List (List Nat)) (t : List Nat) : ((l.map D.str).filter fun x => match x with | .str s => decide (s ∈ ss) | _ => false).map (fun x => D.tup [x, .str t]) = ((l.filter fun s => decide (s ∈ ss)).map fun s => ((s, t) : Pr)).map pD := by
  rw [List.filter_map, List.map_map, List.map_map]
  rfl
theorem clash_of_ok {d : D} {us : List (List Nat)} (h : okSeq d (us.map .str)) (ht : ∀ t ∈ us, Text t) (hl : us.length ≤ 20) : wpF (F_clash_of [d]) fun r outs => ∃ e, r = .fz e ∧ Least (PrC us) e ∧ outs = [d] := by
  refine wF_fun ?_
  show wps (B_clash_of [.fz d, .no, .no, .no, .no, .no]) _
  unfold B_clash_of
  refine ws_cut (fun ρ => ∃ (ss : List (List Nat)) (vs : List D), ρ = [.fz d, .ow (.dic false (ss.map .str) vs), .no, .no, .no, .no] ∧ vs.length = ss.length ∧ (∀ s, s ∈ ss ↔ s ∈ us) ∧ ss.length ≤ us.length) ?_ ?_
  · refine ws_set (w_dc ?_)
    walk_at "all"
    refine ⟨us.map .str, h.iter, rfl, by rw [List.length_map]; omega, ?_⟩
    refine ⟨fun pre acc ρ => ∃ (ws ss : List (List Nat)) (vs : List D), pre = ws.map .str ∧ ρ = [.fz d, .no, .no, .no, .no, .no] ∧ acc = (ss.map .str, vs) ∧ vs.length = ss.length ∧ (∀ s, s ∈ ss ↔ s ∈ ws) ∧ ss.length ≤ ws.length, ⟨[], [], [], rfl, rfl, rfl, rfl, fun s => Iff.rfl, Nat.le_refl _⟩, ?_, ?_, ?_⟩
    · rintro pre acc ρ ⟨ws, ss, vs, rfl, _, rfl, _, _, h6⟩
      rw [List.length_map, List.length_map]
      exact h6
    · rintro pre acc x suf _ hd ⟨ws, ss, vs, rfl, rfl, rfl, h4, h5, h6⟩
      obtain ⟨ws', t, xs, e1, e2, rfl, rfl⟩ := split_map hd
      have e2 := str_inj e2
      subst e2
      walk_at "all"
      refine ⟨ws ++ [t], if t ∈ ss then ss else ss ++ [t], if t ∈ ss then drep false (ss.map .str) vs (.k (.inr ⟨t.toArray⟩)) (.bl true) else vs ++ [.bl true], by simp, rfl, ?_, ?_, ?_, ?_⟩
      · show (if dhas false (ss.map .str) (.k (.inr ⟨t.toArray⟩)) = true then _ else _) = _
        rw [dhas_str]
        by_cases hm : t ∈ ss
        · rw [if_pos (decide_eq_true hm), if_pos hm, if_pos hm]
        · rw [if_neg (by simpa using hm), if_neg hm, if_neg hm, List.map_append]
          rfl
      · by_cases hm : t ∈ ss
        · rw [if_pos hm, if_pos hm, drep_len _ _ _ _ _ (by rw [List.length_map]; exact h4), List.length_map]
        · rw [if_neg hm, if_neg hm, List.length_append, List.length_append, h4]; rfl
      · intro s
        by_cases hm : t ∈ ss
        · rw [if_pos hm, List.mem_append, List.mem_singleton, h5 s]
          exact ⟨.inl, fun z => z.elim id fun z => by rw [z]; exact (h5 t).mp hm⟩
        · rw [if_neg hm, List.mem_append, List.mem_append, h5 s]
      · rw [List.length_append, List.length_singleton]
        split
        · omega
        · rw [List.length_append, List.length_singleton]; omega
    · rintro _ _ ⟨ws, ss, vs, e, rfl, rfl, h4, h5, h6⟩
      have e := str_inj e
      subst e
      walk_at "all"
      exact ⟨h4, h5, h6⟩
  · rintro _ ⟨ss, vs, rfl, h4, h5, h6⟩
    walk_at "all"
    refine ws_forK ⟨false, ss.map .str, vs, _, rfl, fun pre ρ => ∃ (ws : List (List Nat)) (ps : List Pr) (a3 a4 : Ly.Slot), pre = ws.map .str ∧ ρ = [.fz d, .fz (.dic false (ss.map .str) vs), .ow (.lst (ps.map pD)), a3, a4, .no] ∧ ps.length ≤ ws.length * 120 ∧ ∀ p, p ∈ ps ↔ p.2 ∈ ws ∧ p.1 ∈ us ∧ Cut p, ⟨[], [], _, _, rfl, rfl, Nat.le_refl _, by simp⟩, ?_, ?_⟩
    · rintro pre x suf _ hd ⟨ws, ps, a3, a4, rfl, rfl, hn, hp⟩
      obtain ⟨ws', t, xs, e1, e2, rfl, rfl⟩ := split_map hd
      have e2 := str_inj e2
      subst e2
      have htx : Text t := ht t ((h5 t).mp (by rw [e1]; simp))
      have hlen := congrArg List.length e1
      rw [List.length_append, List.length_cons] at hlen
      have lt : lenD [.str t] = some (.fz (.int t.length)) := if_pos (by have := htx.2.1; omega)
      refine ⟨_, rfl, ?_⟩
      refine ws_for ?_
      walk_at "all"
      refine ⟨[.str t], _, rfl, lt, ?_⟩
      walk_at "all"
      have := htx.2.1
      refine ⟨⟨by omega, by omega⟩, ?_⟩
      refine ⟨fun pre ρ => ∃ (ps : List Pr) (a4 : Ly.Slot), ρ = [.fz d, .fz (.dic false (ss.map .str) vs), .ow (.lst (ps.map pD)), .fz (.str t), a4, .no] ∧ ps.length ≤ ws.length * 120 + 2 * pre.length ∧ ∀ p, p ∈ ps ↔ (p.2 ∈ ws ∧ p.1 ∈ us ∧ Cut p) ∨ (p.2 = t ∧ p.1 ∈ us ∧ ∃ n, 0 < n ∧ n ≤ pre.length ∧ n < p.2.length ∧ (p.1 = p.2.take n ∨ p.1 = p.2.drop n)), ⟨ps, _, rfl, by simpa using hn, fun p => ?_⟩, ?_, ?_⟩
      · rw [hp p]
        constructor
        · exact .inl
        · rintro (z | ⟨_, _, n, n0, n1, _⟩)
          · exact z
          · exact absurd n1 (by show ¬ n ≤ 0; omega)
      · rintro pre x suf _ hd ⟨ps, a4, rfl, hn, hp⟩
        obtain ⟨rfl, hk⟩ := rng_at hd
        have hk2 : 1 + pre.length < t.length := by omega
        refine ⟨_, rfl, ?_⟩
        refine ws_expr (w_mut rfl (w_consF ?_))
        refine w_lcPure (fun x => match x with | .str s => decide (s ∈ ss) | _ => false) (fun x => .tup [x, .str t]) ?_
        walk_at "all"
        refine ⟨.str t, _, rfl, sl_strTo (by omega) (by omega), ?_⟩
        walk_at "all"
        refine ⟨.str t, _, rfl, sl_strFrom (by omega) (by omega), ?_⟩
        walk_at "all"
        have e3 : ((1 + (pre.length : Int))).toNat = pre.length + 1 := by omega
        rw [e3]
        refine ⟨fun x hx => ?_, ?_⟩
        · have hx : ∃ s, x = .str s := by
            rcases List.mem_cons.mp hx with rfl | hx
            · exact ⟨_, rfl⟩
            · rw [List.mem_singleton.mp hx]; exact ⟨_, rfl⟩
          obtain ⟨s, rfl⟩ := hx
          walk_at "all"
          refine ⟨dget_str ss vs s h4, fun _ => ?_, fun _ => rfl⟩
          walk_at "all"
          rfl
        · walk_at "all"
          have eL := filter_strs ss [t.take (pre.length + 1), t.drop (pre.length + 1)] t
          have eL : (List.filter (fun x => match x with | D.str s => decide (s ∈ ss) | x => false) [D.str (t.take (pre.length + 1)), D.str (t.drop (pre.length + 1))]).map (fun x => D.tup [x, .str t]) = _ := eL
          have hf := List.length_filter_le (fun s => decide (s ∈ ss)) [t.take (pre.length + 1), t.drop (pre.length + 1)]
          have hb : ws.length * 120 ≤ 20 * 120 := Nat.mul_le_mul_right _ (by omega)
          refine ⟨ps.map pD, (ps ++ ([t.take (pre.length + 1), t.drop (pre.length + 1)].filter fun s => decide (s ∈ ss)).map fun s => ((s, t) : Pr)).map pD, .non, rfl, ?_, ?_⟩
          · rw [eL, List.map_append]
            refine if_pos ?_
            rw [List.length_map, List.length_map, List.length_map]
            simp only [List.length_cons, List.length_nil] at hf
            omega
          · refine ⟨.inl rfl, _, _, rfl, ?_, fun p => ?_⟩
            · rw [List.length_append, List.length_append, List.length_map, List.length_singleton]
              simp only [List.length_cons, List.length_nil] at hf
              omega
            · rw [List.mem_append, hp p, List.mem_map, List.length_append, List.length_singleton]
              constructor
              · rintro ((z | ⟨a, b, n, n0, n1, n2, n3⟩) | ⟨s, hs, rfl⟩)
                · exact .inl z
                · exact .inr ⟨a, b, n, n0, by omega, n2, n3⟩
                · obtain ⟨hs1, hs2⟩ := List.mem_filter.mp hs
                  refine .inr ⟨rfl, (h5 s).mp (of_decide_eq_true hs2), pre.length + 1, by omega, Nat.le_refl _, by show _ < t.length; omega, ?_⟩
                  rcases List.mem_cons.mp hs1 with rfl | hs1
                  · exact .inl rfl
                  · exact .inr (List.mem_singleton.mp hs1)
              · rintro (z | ⟨a, b, n, n0, n1, n2, n3⟩)
                · exact .inl (.inl z)
                · by_cases hn : n ≤ pre.length
                  · exact .inl (.inr ⟨a, b, n, n0, hn, n2, n3⟩)
                  · have hn : n = pre.length + 1 := by omega
                    subst hn
                    refine .inr ⟨p.1, List.mem_filter.mpr ⟨?_, decide_eq_true ((h5 _).mpr b)⟩, Prod.ext rfl a.symm⟩
                    rw [a] at n3
                    rcases n3 with n3 | n3
                    · rw [n3]; exact .head _
                    · rw [n3]; exact .tail _ (.head _)
      · rintro _ ⟨ps, a4, rfl, hn, hp⟩
        rw [rng_len] at hn hp
        refine ⟨.inl rfl, ws ++ [t], ps, _, _, by simp, rfl, ?_, fun p => ?_⟩
        · rw [List.length_append, List.length_singleton]; omega
        · rw [hp p, List.mem_append, List.mem_singleton]
          constructor
          · rintro (⟨a, b⟩ | ⟨a, b, n, n0, n1, n2, n3⟩)
            · exact ⟨.inl a, b⟩
            · exact ⟨.inr a, b, n, n0, n2, n3⟩
          · rintro ⟨a | a, b, c⟩
            · exact .inl ⟨a, b, c⟩
            · obtain ⟨n, n0, n2, n3⟩ := c
              exact .inr ⟨a, b, n, n0, by rw [a] at n2; omega, n2, n3⟩
    · rintro _ ⟨ws, ps, a3, a4, e, rfl, hn, hp⟩
      have e := str_inj e
      subst e
      walk_at "all"
      refine ⟨fun e => ?_, fun e => ?_⟩
      · cases ps with
        | nil => simp at e
        | cons p ps =>
          obtain ⟨e, e1, e2⟩ := best_pairs p ps
          walk_at "all"
          refine ⟨_, _, rfl, e1, ?_⟩
          walk_at "all"
          refine ⟨?_, rfl⟩
          rcases e2 with ⟨rfl, n⟩ | ⟨m, rfl, h1, h2⟩
          · exact (n p (.head _)).elim
          · obtain ⟨z1, z2, z3⟩ := (hp m).mp h1
            exact .inr ⟨m, rfl, ⟨z2, (h5 _).mp z1, z3⟩, fun q hq => h2 q ((hp q).mpr ⟨(h5 _).mpr hq.2.1, hq.1, hq.2.2⟩)⟩
      · have e : ps = [] := by
          have : ¬ 0 < ps.length := by simpa using e
          exact List.length_eq_zero_iff.mp (by omega)
        subst e
        walk_at "all"
        exact ⟨.inl ⟨rfl, fun p hc => by have := (hp p).mpr ⟨(h5 _).mpr hc.2.1, hc.1, hc.2.2⟩; cases this⟩, rfl⟩
end Lx
set_option Elab.async false
set_option linter.all false
set_option maxRecDepth 100000
set_option maxHeartbeats 1000000
namespace Lx
open PySem L2 Ly
local macro_rules | `(tactic| walk_at "op") => `(tactic| first | (exact eqB_int) | (exact ltB_int) | (exact gtB_int) | (exact leB_int) | (exact geB_int) | (exact neB_int) | (exact eqB_bl) | (exact neB_bl) | (refine mul_small ?_; constructor <;> omega) | (refine mul_smallR ?_; constructor <;> omega) | (refine mod_pos ?_; omega) | (refine fd_pos ?_; constructor <;> omega) | (refine sl_lstTo ?_; omega) | (refine sl_lstFrom ?_; omega) | (rfl))
local macro_rules | `(tactic| walk_at "one") => `(tactic| first
  | (focus ((with_reducible refine w_var1 ?_ ?_); rfl))
  | with_reducible refine w_con ?_
  | with_reducible refine w_bool ?_
  | with_reducible refine w_bin ?_
  | with_reducible refine w_un ?_
  | with_reducible refine w_cmp ?_
  | with_reducible refine w_andT ?_
  | with_reducible refine w_orT ?_
  | with_reducible refine w_notT ?_
  | with_reducible refine w_tst ?_
  | with_reducible refine w_andV ?_
  | with_reducible refine w_orV ?_
  | with_reducible refine w_notV ?_
  | with_reducible refine w_ifV ?_
  | with_reducible refine w_chn ?_
  | with_reducible refine w_bol ?_
  | with_reducible refine w_isi ?_
  | with_reducible refine w_nilA ?_
  | with_reducible refine w_consA ?_
  | with_reducible refine w_cal ?_
  | with_reducible refine w_frz ?_
  | with_reducible refine w_nilF ?_
  | with_reducible refine w_consF ?_
  | with_reducible refine w_tup ?_
  | with_reducible refine w_lst ?_
  | with_reducible refine w_newD ?_
  | with_reducible refine w_noPart ?_
  | with_reducible refine w_part ?_
  | with_reducible refine w_slice ?_
  | with_reducible refine w_join ?_
  | with_reducible refine w_get ?_
  | with_reducible refine w_nilX ?_
  | with_reducible refine w_consX ?_
  | with_reducible refine w_its ?_
  | with_reducible refine w_ita ?_
  | with_reducible refine w_rng1 ?_
  | with_reducible refine w_rng2 ?_
  | with_reducible refine w_yes ?_
  | with_reducible refine ws_seq ?_
  | with_reducible refine ws_next ?_
  | with_reducible refine ws_expr ?_
  | with_reducible refine ws_retS ?_
  | with_reducible refine ws_ite ?_
  | with_reducible refine ws_set ?_
  | with_reducible refine ws_par ?_
  | with_reducible refine ws_put ?_
  | (focus ((with_reducible refine w_mut ?_ ?_); rfl))
  | (focus ((with_reducible refine w_slotX1 ?_ ?_); rfl))
  | (focus ((first | with_reducible refine id_ex ?_ | with_reducible refine id_and ?_); first
      | (focus (refine ⟨_, _, ?_, rfl, rfl, ?_, ?_⟩; rotate_left; walk_at "op"))
      | (focus (refine ⟨_, ?_, rfl, ?_, ?_⟩; rotate_left; walk_at "op"))
      | (refine ⟨_, rfl, ?_⟩)
      | (refine ⟨_, _, rfl, ?_⟩)
      | (focus (refine ⟨S62.mk ?_ ?_, ?_⟩; omega; omega))
      | (refine ⟨Nat.le_of_ble_eq_true rfl, ?_⟩)
      | (refine ⟨by decide, ?_⟩)
      | (refine ⟨fun _ => ?_, fun h => absurd rfl h⟩)
      | (refine ⟨fun h => Fl.noConfusion h, fun _ => ?_⟩)
      | (refine ⟨fun _ => ?_, fun h => Bool.noConfusion h⟩)
      | (refine ⟨fun h => Bool.noConfusion h, fun _ => ?_⟩)
      | (refine ⟨rfl, ?_⟩))))
local macro_rules | `(tactic| walk_at "all") => `(tactic| repeat walk_at "one")
theorem law_iff {ts us : List (List Nat)} (ht : ∀ t ∈ ts, Text t) (hm : ∀ s, s ∈ us ↔ s ∈ ts) (p : Pr) : LawC ts p ↔ PrC us p := by
  unfold LawC PrC Cut Cl
  rw [hm, hm]
  constructor
  · rintro ⟨h1, h2, h3, h4⟩
    refine ⟨h1, h2, ?_⟩
    have l1 := (ht _ h1).1
    rcases Bool.or_eq_true_iff.mp h4 with h4 | h4
    · exact ⟨p.1.length, l1, h3, .inl (of_decide_eq_true h4).symm⟩
    · exact ⟨p.2.length - p.1.length, by omega, by omega, .inr (of_decide_eq_true h4).symm⟩
  · rintro ⟨h1, h2, n, n0, n1, h3⟩
    have l1 := (ht _ h1).1
    rcases h3 with h3 | h3
    · have e : p.1.length = n := by rw [h3, List.length_take]; omega
      exact ⟨h1, h2, by omega, by rw [Bool.or_eq_true]; exact .inl (decide_eq_true (by rw [e]; exact h3.symm))⟩
    · have e : p.1.length = p.2.length - n := by rw [h3, List.length_drop]
      refine ⟨h1, h2, by omega, ?_⟩
      rw [Bool.or_eq_true]
      refine .inr (decide_eq_true ?_)
      rw [show p.2.length - p.1.length = n by omega]
      exact h3.symm
theorem clash_yes {d : D} {us : List (List Nat)} (h : okSeq d (us.map .str)) (ht : ∀ t ∈ us, Text t) (hl : us.length ≤ 20) : wpF (F_clash [d]) fun r outs => ∃ e, r = .fz e ∧ Least (PrC us) e ∧ outs = [d] := by
  refine wF_fun ?_
  show wps (B_clash [.fz d, .no]) _
  unfold B_clash
  walk_at "all"
  refine call_pure ?_
  walk_at "all"
  refine wpF_imp (is_listed_ok h.listed) ?_
  rintro _ _ ⟨rfl, rfl⟩
  refine ⟨rfl, rfl, rfl, ?_⟩
  walk_at "all"
  refine check_ok rfl h ?_ (by rw [List.length_map]; omega) ?_
  · intro x hx
    obtain ⟨t, htm, rfl⟩ := List.mem_map.mp hx
    exact fine_str (by have := (ht t htm).2.1; omega)
  · have hg : (us.map D.str).all goodD = true := by
      rw [List.all_eq_true]
      intro x hx
      obtain ⟨t, htm, rfl⟩ := List.mem_map.mp hx
      show (txtD (.str t) && decide (0 < t.length)) = true
      rw [txt_of (ht t htm), decide_eq_true (ht t htm).1]
      rfl
    walk_at "all"
    refine ⟨_, _, rfl, all_map goodD _, ?_⟩
    rw [hg]
    walk_at "all"
    refine call_pure ?_
    walk_at "all"
    refine wpF_imp (clash_of_ok h ht hl) ?_
    rintro _ _ ⟨e, rfl, he, rfl⟩
    refine ⟨rfl, rfl, rfl, ?_⟩
    walk_at "all"
    exact ⟨he, rfl⟩
theorem clash_bad {d : D} {ds : List D} (h : okSeq d ds) (hf : ∀ x ∈ ds, Fine x) (hl : ds.length ≤ 1000) (hb : ∃ x ∈ ds, goodD x = false) : F_clash [d] = some (.exc ⟨3, []⟩, [d]) := by
  refine wF_exc ?_
  show wps (B_clash [.fz d, .no]) _
  unfold B_clash
  walk_at "all"
  refine call_pure ?_
  walk_at "all"
  refine wpF_imp (is_listed_ok h.listed) ?_
  rintro _ _ ⟨rfl, rfl⟩
  refine ⟨rfl, rfl, rfl, ?_⟩
  walk_at "all"
  refine check_ok rfl h hf hl ?_
  have hg : ds.all goodD = false := by
    obtain ⟨x, hx, e⟩ := hb
    rw [Bool.eq_false_iff]
    intro z
    rw [List.all_eq_true.mp z x hx] at e
    cases e
  walk_at "all"
  refine ⟨_, _, rfl, all_map goodD _, ?_⟩
  rw [hg]
  walk_at "all"
  refine ws_raise ?_
  walk_at "all"
  rfl
theorem clash_un {d : D} (h : isiB nc ["list", "tuple"] d = some false) : F_clash [d] = some (.exc ⟨3, []⟩, [d]) := by
  refine wF_exc ?_
  show wps (B_clash [.fz d, .no]) _
  unfold B_clash
  walk_at "all"
  refine call_pure ?_
  walk_at "all"
  refine wpF_imp (is_listed_ok h) ?_
  rintro _ _ ⟨rfl, rfl⟩
  refine ⟨rfl, rfl, rfl, ?_⟩
  walk_at "all"
  refine ws_raise ?_
  walk_at "all"
  rfl
theorem told_yes {d : D} {C : D → Prop} (h : wpF (F_clash [d]) fun r outs => ∃ e, r = .fz e ∧ C e ∧ outs = [d]) : wpF (F__law_told [d]) fun r outs => ∃ e, r = .fz e ∧ C e ∧ outs = [d] := by
  refine wF_fun ?_
  show wps (B__law_told [.fz d, .no]) _
  unfold B__law_told
  walk_at "all"
  refine ws_tryOk ?_
  walk_at "all"
  refine call_pure ?_
  walk_at "all"
  refine wpF_imp h ?_
  rintro _ _ ⟨e, rfl, he, rfl⟩
  refine ⟨rfl, rfl, rfl, ?_⟩
  walk_at "all"
  refine ⟨trivial, ?_⟩
  walk_at "all"
  exact ⟨he, rfl⟩
def noneS : D := .str [110, 111, 110, 101]
theorem told_exc {d : D} (h : F_clash [d] = some (.exc ⟨3, []⟩, [d])) : wpF (F__law_told [d]) fun r outs => r = .fz noneS ∧ outs = [d] := by
  refine wF_fun ?_
  show wps (B__law_told [.fz d, .no]) _
  unfold B__law_told
  walk_at "all"
  refine ws_tryExc (set_exc (xs := [.val d]) (ds := [d]) rfl rfl rfl h rfl) rfl ?_
  walk_at "all"
  refine ⟨trivial, ?_⟩
  walk_at "all"
  rfl
end Lx
set_option Elab.async false
set_option linter.all false
set_option maxRecDepth 100000
set_option maxHeartbeats 1000000
namespace Lx
open PySem L2 Ly PySem.W PyProof.Rows
local macro_rules | `(tactic| walk_at "op") => `(tactic| first | (exact eqB_int) | (exact ltB_int) | (exact gtB_int) | (exact leB_int) | (exact geB_int) | (exact neB_int) | (exact eqB_bl) | (exact neB_bl) | (refine mul_small ?_; constructor <;> omega) | (refine mul_smallR ?_; constructor <;> omega) | (refine mod_pos ?_; omega) | (refine fd_pos ?_; constructor <;> omega) | (refine sl_lstTo ?_; omega) | (refine sl_lstFrom ?_; omega) | (rfl))
local macro_rules | `(tactic| walk_at "one") => `(tactic| first
  | (focus ((with_reducible refine w_var1 ?_ ?_); rfl))
  | with_reducible refine w_con ?_
  | with_reducible refine w_bool ?_
  | with_reducible refine w_bin ?_
  | with_reducible refine w_un ?_
  | with_reducible refine w_cmp ?_
  | with_reducible refine w_andT ?_
  | with_reducible refine w_orT ?_
  | with_reducible refine w_notT ?_
  | with_reducible refine w_tst ?_
  | with_reducible refine w_andV ?_
  | with_reducible refine w_orV ?_
  | with_reducible refine w_notV ?_
  | with_reducible refine w_ifV ?_
  | with_reducible refine w_chn ?_
  | with_reducible refine w_bol ?_
  | with_reducible refine w_isi ?_
  | with_reducible refine w_nilA ?_
  | with_reducible refine w_consA ?_
  | with_reducible refine w_cal ?_
  | with_reducible refine w_frz ?_
  | with_reducible refine w_nilF ?_
  | with_reducible refine w_consF ?_
  | with_reducible refine w_tup ?_
  | with_reducible refine w_lst ?_
  | with_reducible refine w_newD ?_
  | with_reducible refine w_noPart ?_
  | with_reducible refine w_part ?_
  | with_reducible refine w_slice ?_
  | with_reducible refine w_join ?_
  | with_reducible refine w_get ?_
  | with_reducible refine w_nilX ?_
  | with_reducible refine w_consX ?_
  | with_reducible refine w_its ?_
  | with_reducible refine w_ita ?_
  | with_reducible refine w_rng1 ?_
  | with_reducible refine w_rng2 ?_
  | with_reducible refine w_yes ?_
  | with_reducible refine ws_seq ?_
  | with_reducible refine ws_next ?_
  | with_reducible refine ws_expr ?_
  | with_reducible refine ws_retS ?_
  | with_reducible refine ws_ite ?_
  | with_reducible refine ws_set ?_
  | with_reducible refine ws_par ?_
  | with_reducible refine ws_put ?_
  | (focus ((with_reducible refine w_mut ?_ ?_); rfl))
  | (focus ((with_reducible refine w_slotX1 ?_ ?_); rfl))
  | (focus ((first | with_reducible refine id_ex ?_ | with_reducible refine id_and ?_); first
      | (focus (refine ⟨_, _, ?_, rfl, rfl, ?_, ?_⟩; rotate_left; walk_at "op"))
      | (focus (refine ⟨_, ?_, rfl, ?_, ?_⟩; rotate_left; walk_at "op"))
      | (refine ⟨_, rfl, ?_⟩)
      | (refine ⟨_, _, rfl, ?_⟩)
      | (focus (refine ⟨S62.mk ?_ ?_, ?_⟩; omega; omega))
      | (refine ⟨Nat.le_of_ble_eq_true rfl, ?_⟩)
      | (refine ⟨by decide, ?_⟩)
      | (refine ⟨fun _ => ?_, fun h => absurd rfl h⟩)
      | (refine ⟨fun h => Fl.noConfusion h, fun _ => ?_⟩)
      | (refine ⟨fun _ => ?_, fun h => Bool.noConfusion h⟩)
      | (refine ⟨fun h => Bool.noConfusion h, fun _ => ?_⟩)
      | (refine ⟨rfl, ?_⟩))))
local macro_rules | `(tactic| walk_at "all") => `(tactic| repeat walk_at "one")
theorem is_str {n : Nat} {s : List Nat} (h : okS s = true) : wpF (F__law_is (n + 1) [.str s, .str s]) fun r outs => r = .fz (.bl true) ∧ outs = [.str s, .str s] := by
  refine wF_fun ?_
  show wps (B__law_is (F__law_is n) [.fz (.str s), .fz (.str s), .no, .no]) _
  unfold B__law_is
  walk_at "all"
  refine ⟨_, _, _, rfl, rfl, eqB_str h h, ?_⟩
  walk_at "all"
  simp
theorem is_non {n : Nat} : wpF (F__law_is (n + 1) [.non, .non]) fun r outs => r = .fz (.bl true) ∧ outs = [.non, .non] := by
  refine wF_fun ?_
  show wps (B__law_is (F__law_is n) [.fz .non, .fz .non, .no, .no]) _
  unfold B__law_is
  walk_at "all"
  rfl
theorem is_pair {n : Nat} {p : Pr} (h1 : okS p.1 = true) (h2 : okS p.2 = true) : wpF (F__law_is (n + 2) [pD p, pD p]) fun r outs => r = .fz (.bl true) ∧ outs = [pD p, pD p] := by
  refine wF_fun ?_
  show wps (B__law_is (F__law_is (n + 1)) [.fz (pD p), .fz (pD p), .no, .no]) _
  unfold B__law_is pD
  walk_at "all"
  refine w_lcPure (fun _ => true) (fun _ => .bl true) ?_
  walk_at "all"
  refine ⟨fun d hd => ?_, ?_⟩
  · have hd : ∃ s, d = .tup [.str s, .str s] ∧ okS s = true := by
      rcases List.mem_cons.mp hd with rfl | hd
      · exact ⟨_, rfl, h1⟩
      · rw [List.mem_singleton.mp hd]; exact ⟨_, rfl, h2⟩
    obtain ⟨s, rfl, hs⟩ := hd
    walk_at "all"
    refine call_pure ?_
    walk_at "all"
    refine wpF_imp (is_str hs) ?_
    rintro _ _ ⟨rfl, rfl⟩
    refine ⟨rfl, rfl, rfl, ?_⟩
    exact ⟨_, rfl, rfl⟩
  · walk_at "all"
    rfl
/-- an answer of clash -/
def Ans (d : D) : Prop := d = .non ∨ ∃ p : Pr, d = pD p ∧ okS p.1 = true ∧ okS p.2 = true
theorem is_ok {d : D} (h : Ans d) : wpF (F__law_is 6 [d, d]) fun r outs => r = .fz (.bl true) ∧ outs = [d, d] := by
  rcases h with rfl | ⟨p, rfl, h1, h2⟩
  · exact is_non
  · exact is_pair h1 h2
theorem ne_ok {d : D} (h : Ans d) : neB d d = some false := by
  rcases h with rfl | ⟨p, rfl, h1, h2⟩
  · rfl
  · have hs : SeqAt.shaped (pP p) = true := by
      unfold SeqAt.shaped
      have e1 : (pP p).canLay0 = true := by
        have h1' : PyData.strOk ⟨p.1.toArray⟩ = true := h1
        have h2' : PyData.strOk ⟨p.2.toArray⟩ = true := h2
        simp [pP, PyData.canLay0, PyData.canLayAll0, h1', h2']
      rw [e1]
      simp [pP, PyData.depth, PyData.depthAll]
    have hv : PyData.eqv (pP p) (pP p) = true := by simp [pP, PyData.eqv, PyData.eqvAll]
    show (if SeqAt.shaped (pP p) && SeqAt.shaped (pP p) then some (PyData.eqv (pP p) (pP p)) else none).map (fun b => !b) = _
    rw [hs, hv]
    rfl
theorem ans_of {ts : List (List Nat)} (ht : ∀ t ∈ ts, Text t) {d : D} (h : Least (LawC ts) d) : Ans d := by
  rcases h with ⟨rfl, _⟩ | ⟨m, rfl, hm, _⟩
  · exact .inl rfl
  · exact .inr ⟨m, rfl, okS_abc (ht _ hm.1).2.2, okS_abc (ht _ hm.2.1).2.2⟩
theorem perm_strs {ys : List D} {ts : List (List Nat)} (h : ys.Perm (ts.map .str)) : ∃ us : List (List Nat), ys = us.map .str ∧ us.Perm ts := by
  have hs : ∀ y ∈ ys, y = .str (match y with | .str s => s | _ => []) := fun y hy => by
    obtain ⟨t, _, rfl⟩ := List.mem_map.mp (h.mem_iff.mp hy)
    rfl
  refine ⟨ys.map fun y => match y with | .str s => s | _ => [], ?_, ?_⟩
  · rw [List.map_map]
    conv => lhs; rw [← List.map_id ys]
    exact List.map_congr_left hs
  · have := h.map fun y : D => match y with | .str s => s | _ => []
    rw [List.map_map] at this
    refine this.trans (List.Perm.of_eq ?_)
    conv => rhs; rw [← List.map_id ts]
    exact List.map_congr_left fun _ _ => rfl
/-- told of texts that are the law's own -/
theorem told_ok {d e : D} {ts us : List (List Nat)} (h : okSeq d (us.map .str)) (ht : ∀ t ∈ ts, Text t) (hm : ∀ s, s ∈ us ↔ s ∈ ts) (hl : us.length ≤ 20) (he : Least (LawC ts) e) : wpF (F__law_told [d]) fun r outs => r = .fz e ∧ outs = [d] := by
  refine wpF_imp (told_yes (clash_yes h (fun t htm => ht t ((hm t).mp htm)) hl)) ?_
  rintro _ _ ⟨e', rfl, he', rfl⟩
  rw [he'.uniq he fun p => (law_iff ht hm p).symm]
  exact ⟨rfl, rfl⟩
theorem deep0_ok : ∃ x, F__law_deep [.int 0] = some (.val (.fz (.tup x)), [.int 0]) := ⟨_, rfl⟩
theorem deep2_ok : ∃ x, F__law_deep [.int 2] = some (.val (.fz (.lst [.lst x])), [.int 2]) := ⟨_, rfl⟩
def webA : D := .tup [.tup [.int 0, .str [97], .int 0]]
def webF : List D := [.int 1, webA, .str [97], .dic true [.tup [.int 0, .str [97]]] [.tup [.int 0]]]
theorem web_ok : F_Web___init__ [.obj 0 [], .int 1, webA] = some (.val (.fz .non), [.obj 0 webF, .int 1, webA]) := by kernel_rfl
theorem clash_e1 : F_clash [.lst []] = some (.val (.fz .non), [.lst []]) := by kernel_rfl
theorem clash_e2 : F_clash [.tup []] = some (.val (.fz .non), [.tup []]) := by kernel_rfl
theorem clash_e3 : F_clash [.lst [.str [97], .str [97]]] = some (.val (.fz .non), [.lst [.str [97], .str [97]]]) := by kernel_rfl
theorem clash_e4 : F_clash [.tup [.str [97, 98], .str [98], .str [97]]] = some (.val (.fz (pD ([97], [97, 98]))), [.tup [.str [97, 98], .str [98], .str [97]]]) := by kernel_rfl
end Lx
set_option Elab.async false
set_option linter.all false
set_option maxRecDepth 100000
set_option maxHeartbeats 1000000
namespace Lx
open PySem L2 Ly
local macro_rules | `(tactic| walk_at "op") => `(tactic| first | (exact eqB_int) | (exact ltB_int) | (exact gtB_int) | (exact leB_int) | (exact geB_int) | (exact neB_int) | (exact eqB_bl) | (exact neB_bl) | (refine mul_small ?_; constructor <;> omega) | (refine mul_smallR ?_; constructor <;> omega) | (refine mod_pos ?_; omega) | (refine fd_pos ?_; constructor <;> omega) | (refine sl_lstTo ?_; omega) | (refine sl_lstFrom ?_; omega) | (rfl))
local macro_rules | `(tactic| walk_at "one") => `(tactic| first
  | (focus ((with_reducible refine w_var1 ?_ ?_); rfl))
  | with_reducible refine w_con ?_
  | with_reducible refine w_bool ?_
  | with_reducible refine w_bin ?_
  | with_reducible refine w_un ?_
  | with_reducible refine w_cmp ?_
  | with_reducible refine w_andT ?_
  | with_reducible refine w_orT ?_
  | with_reducible refine w_notT ?_
  | with_reducible refine w_tst ?_
  | with_reducible refine w_andV ?_
  | with_reducible refine w_orV ?_
  | with_reducible refine w_notV ?_
  | with_reducible refine w_ifV ?_
  | with_reducible refine w_chn ?_
  | with_reducible refine w_bol ?_
  | with_reducible refine w_isi ?_
  | with_reducible refine w_nilA ?_
  | with_reducible refine w_consA ?_
  | with_reducible refine w_cal ?_
  | with_reducible refine w_frz ?_
  | with_reducible refine w_nilF ?_
  | with_reducible refine w_consF ?_
  | with_reducible refine w_tup ?_
  | with_reducible refine w_lst ?_
  | with_reducible refine w_newD ?_
  | with_reducible refine w_noPart ?_
  | with_reducible refine w_part ?_
  | with_reducible refine w_slice ?_
  | with_reducible refine w_join ?_
  | with_reducible refine w_get ?_
  | with_reducible refine w_nilX ?_
  | with_reducible refine w_consX ?_
  | with_reducible refine w_its ?_
  | with_reducible refine w_ita ?_
  | with_reducible refine w_rng1 ?_
  | with_reducible refine w_rng2 ?_
  | with_reducible refine w_yes ?_
  | with_reducible refine ws_seq ?_
  | with_reducible refine ws_next ?_
  | with_reducible refine ws_expr ?_
  | with_reducible refine ws_retS ?_
  | with_reducible refine ws_ite ?_
  | with_reducible refine ws_set ?_
  | with_reducible refine ws_par ?_
  | with_reducible refine ws_put ?_
  | (focus ((with_reducible refine w_mut ?_ ?_); rfl))
  | (focus ((with_reducible refine w_slotX1 ?_ ?_); rfl))
  | (focus ((first | with_reducible refine id_ex ?_ | with_reducible refine id_and ?_); first
      | (focus (refine ⟨_, _, ?_, rfl, rfl, ?_, ?_⟩; rotate_left; walk_at "op"))
      | (focus (refine ⟨_, ?_, rfl, ?_, ?_⟩; rotate_left; walk_at "op"))
      | (refine ⟨_, rfl, ?_⟩)
      | (refine ⟨_, _, rfl, ?_⟩)
      | (focus (refine ⟨S62.mk ?_ ?_, ?_⟩; omega; omega))
      | (refine ⟨Nat.le_of_ble_eq_true rfl, ?_⟩)
      | (refine ⟨by decide, ?_⟩)
      | (refine ⟨fun _ => ?_, fun h => absurd rfl h⟩)
      | (refine ⟨fun h => Fl.noConfusion h, fun _ => ?_⟩)
      | (refine ⟨fun _ => ?_, fun h => Bool.noConfusion h⟩)
      | (refine ⟨fun h => Bool.noConfusion h, fun _ => ?_⟩)
      | (refine ⟨rfl, ?_⟩))))
local macro_rules | `(tactic| walk_at "all") => `(tactic| repeat walk_at "one")
theorem w_texts {i : Nat} {ρ : Ly.Env} {Q : R → Ly.Env → Prop} {h : D} (e0 : ρ[i]? = some (.ow h)) (H : Hand h) (k : ∀ h' (ts : List (List Nat)), Hand h' → ts.length < 10 → (∀ t ∈ ts, Text t) → Q (.fr (.lst (ts.map .str))) (ρ.set i (.ow h'))) : wp (callS io0 1 F__law_texts (slotX i nilX) ρ) Q := by
  refine w_call (w_slotX e0 (w_nilX ⟨[h], ?_, rfl, wpF_imp (texts_ok H) ?_⟩))
  · show (match ρ[i]? with | some (.ow d) => _ | _ => _) = _
    rw [e0]
    rfl
  · rintro _ _ ⟨h', ts, rfl, hl, ht, H', rfl⟩
    exact ⟨rfl, rfl, k h' ts H' hl ht⟩
theorem w_shuf {i : Nat} {e : Ly.Sem R} {ρ : Ly.Env} {Q : R → Ly.Env → Prop} {h : D} (e0 : ρ[i]? = some (.ow h)) (H : Hand h) (he : wp (e ρ) fun r ρ1 => ∃ xs ρ2, frz ρ1 r = some (.lst xs, ρ2) ∧ xs.length ≤ 100000 ∧ ρ2[i]? = some (.ow h) ∧ ∀ h' ys, Hand h' → ys.Perm xs → Q (.fr (.lst ys)) (ρ2.set i (.ow h'))) :
    wp (callS io0 2 F__law_shuffled (slotX i (consX e nilX)) ρ) Q := by
  refine w_call (w_slotX e0 (w_consX (wp_imp he ?_)))
  rintro r ρ1 ⟨xs, ρ2, e1, hl, e2, k⟩
  refine ⟨_, _, e1, w_nilX ⟨[h, .lst xs], ?_, rfl, wpF_imp (shuffled_ok H hl) ?_⟩⟩
  · show (match ρ2[i]? with | some (.ow d) => _ | _ => _) = _
    rw [e2]
    rfl
  · rintro r outs ⟨h', ys, rfl, hp, H', rfl⟩
    exact ⟨rfl, rfl, k h' ys H' hp⟩
theorem law_ok : Ly.Yes F_law := by
  intro ns hl
  have key : wpF (F_law [.scr ns]) fun r outs => r = .fz (.bl true) := by
    refine wF_fun ?_
    show wps (B_law [.fz (.scr ns), .no, .no, .no, .no, .no, .no, .no, .no]) _
    unfold B_law
    walk_at "all"
    refine call_pure ?_
    walk_at "all"
    refine wpF_imp (hand_ok ns hl) ?_
    rintro _ _ ⟨h, rfl, H, rfl⟩
    refine ⟨rfl, rfl, rfl, ?_⟩
    walk_at "all"
    refine ws_for ?_
    walk_at "all"
    refine ⟨fun pre ρ => ∃ (h : D) (a2 a3 a4 a5 a6 a7 a8 : Ly.Slot), ρ = [.fz (.scr ns), .ow h, a2, a3, a4, a5, a6, a7, a8] ∧ Hand h, ⟨h, _, _, _, _, _, _, _, rfl, H⟩, ?_, ?_⟩
    · rintro pre d suf _ hd ⟨h, a2, a3, a4, a5, a6, a7, a8, rfl, H⟩
      refine ⟨_, rfl, ?_⟩
      refine ws_cut (fun ρ => ∃ (h : D) (ts : List (List Nat)), ρ = [.fz (.scr ns), .ow h, .fz d, .ow (.lst (ts.map .str)), a4, a5, a6, a7, a8] ∧ Hand h ∧ ts.length < 10 ∧ ∀ t ∈ ts, Text t) ?_ ?_
      · refine ws_set (w_texts rfl H ?_)
        intro h ts H hts ht
        exact ⟨_, rfl, rfl, h, ts, rfl, H, hts, ht⟩
      rintro _ ⟨h, ts, rfl, H, hts, ht⟩
      refine ws_cut (fun ρ => ∃ e, ρ = [.fz (.scr ns), .ow h, .fz d, .fz (.lst (ts.map .str)), .fz e, a5, a6, a7, a8] ∧ Least (LawC ts) e) ?_ ?_
      · walk_at "all"
        refine call_pure ?_
        walk_at "all"
        refine wpF_imp (least_clash_ok ht hts) ?_
        rintro _ _ ⟨e, rfl, he, rfl⟩
        exact ⟨rfl, rfl, rfl, _, rfl, rfl, e, rfl, he⟩
      rintro _ ⟨e, rfl, he⟩
      have ha := ans_of ht he
      refine ws_cut (fun ρ => ρ = [.fz (.scr ns), .ow h, .fz d, .fz (.lst (ts.map .str)), .fz e, a5, a6, a7, a8]) ?_ ?_
      · walk_at "all"
        refine call_pure ?_
        walk_at "all"
        refine call_pure ?_
        walk_at "all"
        refine wpF_imp (told_ok (.inl rfl) ht (fun s => Iff.rfl) (by omega) he) ?_
        rintro _ _ ⟨rfl, rfl⟩
        refine ⟨rfl, rfl, rfl, ?_⟩
        walk_at "all"
        refine wpF_imp (is_ok ha) ?_
        rintro _ _ ⟨rfl, rfl⟩
        refine ⟨rfl, rfl, rfl, ?_⟩
        walk_at "all"
        refine call_pure ?_
        walk_at "all"
        refine call_pure ?_
        walk_at "all"
        refine ⟨_, _, _, rfl, rfl, add_lst (by rw [List.length_reverse, List.length_take, List.length_map]; omega), ?_⟩
        walk_at "all"
        refine wpF_imp (told_ok (us := ts.reverse ++ ts.take 1) (.inr (by rw [List.map_append, List.map_reverse, List.map_take]; rfl)) ht (fun s => ?_) (by rw [List.length_append, List.length_reverse, List.length_take]; omega) he) ?_
        · rw [List.mem_append, List.mem_reverse]
          exact ⟨fun z => z.elim id List.mem_of_mem_take, .inl⟩
        rintro _ _ ⟨rfl, rfl⟩
        refine ⟨rfl, rfl, rfl, ?_⟩
        walk_at "all"
        refine wpF_imp (is_ok ha) ?_
        rintro _ _ ⟨rfl, rfl⟩
        refine ⟨rfl, rfl, rfl, ?_⟩
        walk_at "all"
        rfl
      rintro _ rfl
      refine ws_cut (fun ρ => ∃ h, ρ = [.fz (.scr ns), .ow h, .fz d, .fz (.lst (ts.map .str)), .fz e, a5, a6, a7, a8] ∧ Hand h) ?_ ?_
      · walk_at "all"
        refine call_pure ?_
        walk_at "all"
        refine w_shuf rfl H ?_
        walk_at "all"
        refine ⟨by rw [List.length_map]; omega, rfl, fun h ys H hp => ?_⟩
        obtain ⟨us, rfl, hq⟩ := perm_strs hp
        walk_at "all"
        refine wpF_imp (told_ok (.inl rfl) ht (fun s => hq.mem_iff) (by rw [hq.length_eq]; omega) he) ?_
        rintro _ _ ⟨rfl, rfl⟩
        refine ⟨rfl, rfl, rfl, ?_⟩
        walk_at "all"
        refine ⟨_, _, _, rfl, rfl, ne_ok ha, ?_⟩
        walk_at "all"
        exact H
      rintro _ ⟨h, rfl, H⟩
      refine ws_cut (fun ρ => ∃ os : List D, ρ = [.fz (.scr ns), .ow h, .fz d, .fz (.lst (ts.map .str)), .fz e, .ow (.lst os), a6, a7, a8] ∧ (∀ x ∈ os, Fine x ∧ goodD x = false) ∧ 0 < os.length ∧ os.length < 1073741824) ?_ ?_
      · walk_at "all"
        refine call_pure ?_
        walk_at "all"
        obtain ⟨x0, hx0⟩ := deep0_ok
        refine wpF_in hx0 ?_
        refine ⟨rfl, rfl, rfl, ?_⟩
        walk_at "all"
        refine w_make ?_
        walk_at "all"
        refine ⟨[.obj 0 [], .int 1, webA], _, webF, [.fz (.scr ns), .ow h, .fz d, .fz (.lst (ts.map .str)), .fz e, a5, a6, a7, a8], rfl, rfl, web_ok, rfl, rfl, ?_⟩
        walk_at "all"
        refine ⟨fun x hx => ?_, Nat.le_of_ble_eq_true rfl, Nat.le_of_ble_eq_true rfl⟩
        simp only [List.mem_cons, List.not_mem_nil, or_false] at hx
        rcases hx with rfl | rfl | rfl | rfl | rfl | rfl | rfl | rfl | rfl | rfl
        all_goals exact ⟨⟨rfl, fun s e => by first | (cases e; done) | (cases e; decide)⟩, rfl⟩
      rintro _ ⟨os, rfl, ho, ho1, ho2⟩
      refine ws_cut (fun ρ => ∃ h z, ρ = [.fz (.scr ns), .ow h, .fz d, .fz (.lst (ts.map .str)), .fz e, .ow (.lst os), .fz (.int z), a7, a8] ∧ Hand h ∧ 0 ≤ z ∧ z ≤ ts.length) ?_ ?_
      · walk_at "all"
        refine w_draw rfl H ?_
        walk_at "all"
        refine ⟨by omega, by rw [List.length_map]; omega, rfl, fun h z H z0 z1 => ?_⟩
        rw [List.length_map] at z1
        walk_at "all"
        exact ⟨H, z0, by omega⟩
      rintro _ ⟨h, z, rfl, H, z0, z1⟩
      refine ws_cut (fun ρ => ∃ h bs, ρ = [.fz (.scr ns), .ow h, .fz d, .fz (.lst (ts.map .str)), .fz e, .fz (.lst os), .fz (.int z), .ow (.lst bs), a8] ∧ Hand h ∧ (∀ x ∈ bs, Fine x) ∧ bs.length ≤ 1000 ∧ ∃ x ∈ bs, goodD x = false) ?_ ?_
      · walk_at "all"
        refine w_some rfl ?_
        walk_at "all"
        refine wpF_imp (some_lst H ho1 ho2) ?_
        rintro _ _ ⟨h, x, hx, rfl, H, rfl⟩
        refine ⟨h, x, rfl, rfl, ?_⟩
        walk_at "all"
        have hfine : ∀ y ∈ ts.map D.str, Fine y := fun y hy => by
          obtain ⟨t, htm, rfl⟩ := List.mem_map.mp hy
          exact fine_str (by have := (ht t htm).2.1; omega)
        refine ⟨_, _, _, rfl, rfl, add_lst (by rw [List.length_take, List.length_map, List.length_singleton]; omega), ?_⟩
        walk_at "all"
        refine ⟨_, _, _, rfl, rfl, add_lst (by rw [List.length_append, List.length_drop, List.length_take, List.length_map, List.length_singleton]; omega), ?_⟩
        walk_at "all"
        refine ⟨H, fun y hy => ?_, ?_, x, by simp, (ho x hx).2⟩
        · rcases List.mem_append.mp hy with hy | hy
          · rcases List.mem_append.mp hy with hy | hy
            · exact hfine y (List.mem_of_mem_take hy)
            · rw [List.mem_singleton.mp hy]; exact (ho x hx).1
          · exact hfine y (List.mem_of_mem_drop hy)
        · rw [List.length_append, List.length_append, List.length_drop, List.length_take, List.length_map, List.length_singleton]; omega
      rintro _ ⟨h, bs, rfl, H, hb1, hb2, hb3⟩
      refine ws_cut (fun ρ => ∃ us : List D, ρ = [.fz (.scr ns), .ow h, .fz d, .fz (.lst (ts.map .str)), .fz e, .fz (.lst os), .fz (.int z), .fz (.lst bs), .ow (.lst us)] ∧ (∀ x ∈ us, F_clash [x] = some (.exc ⟨3, []⟩, [x])) ∧ 0 < us.length ∧ us.length < 1073741824) ?_ ?_
      · walk_at "all"
        refine wp_in rfl ?_
        walk_at "all"
        refine call_pure ?_
        walk_at "all"
        obtain ⟨x2, hx2⟩ := deep2_ok
        refine wpF_in hx2 ?_
        refine ⟨rfl, rfl, rfl, ?_⟩
        walk_at "all"
        refine w_make ?_
        walk_at "all"
        refine ⟨[.obj 0 [], .int 1, webA], _, webF, [.fz (.scr ns), .ow h, .fz d, .fz (.lst (ts.map .str)), .fz e, .fz (.lst os), .fz (.int z), .fz (.lst bs), a8], rfl, rfl, web_ok, rfl, rfl, ?_⟩
        walk_at "all"
        refine ⟨fun x hx => ?_, Nat.le_of_ble_eq_true rfl, Nat.le_of_ble_eq_true rfl⟩
        simp only [List.mem_cons, List.not_mem_nil, or_false] at hx
        rcases hx with rfl | rfl | rfl | rfl | rfl | rfl | rfl | rfl | rfl
        · exact clash_bad (.inl rfl) hb1 hb2 hb3
        · exact clash_bad (.inr rfl) hb1 hb2 hb3
        · exact clash_un rfl
        · exact clash_un rfl
        · exact clash_un rfl
        · exact clash_un rfl
        · exact clash_un rfl
        · refine clash_bad (.inl rfl) (fun x hx => ?_) (by simp) ⟨_, .head _, rfl⟩
          rw [List.mem_singleton.mp hx]
          exact ⟨rfl, fun s e => by cases e⟩
        · exact clash_un rfl
      rintro _ ⟨us, rfl, hu, hu1, hu2⟩
      walk_at "all"
      refine call_pure ?_
      walk_at "all"
      refine w_some rfl ?_
      walk_at "all"
      refine wpF_imp (some_lst H hu1 hu2) ?_
      rintro _ _ ⟨h, x, hx, rfl, H, rfl⟩
      refine ⟨h, x, rfl, rfl, ?_⟩
      walk_at "all"
      refine wpF_imp (told_exc (hu x hx)) ?_
      rintro _ _ ⟨rfl, rfl⟩
      refine ⟨rfl, rfl, rfl, ?_⟩
      walk_at "all"
      have hn : neB noneS (.str [110, 111, 110, 101]) = some false := by
        unfold neB noneS
        rw [eqB_str (okS_of (by decide)) (okS_of (by decide))]
        rfl
      refine ⟨_, _, _, rfl, rfl, hn, ?_⟩
      walk_at "all"
      exact ⟨.inl rfl, h, _, _, _, _, _, _, _, rfl, H⟩
    · rintro _ ⟨h, a2, a3, a4, a5, a6, a7, a8, rfl, H⟩
      walk_at "all"
      refine call_pure ?_
      walk_at "all"
      refine wpF_in clash_e1 ?_
      refine ⟨rfl, rfl, rfl, ?_⟩
      walk_at "all"
      refine call_pure ?_
      walk_at "all"
      refine wpF_in clash_e2 ?_
      refine ⟨rfl, rfl, rfl, ?_⟩
      walk_at "all"
      refine call_pure ?_
      walk_at "all"
      refine wpF_in clash_e3 ?_
      refine ⟨rfl, rfl, rfl, ?_⟩
      walk_at "all"
      refine call_pure ?_
      walk_at "all"
      refine wpF_in clash_e4 ?_
      refine ⟨rfl, rfl, rfl, ?_⟩
      walk_at "all"
      have he : eqB (pD ([97], [97, 98])) (.tup [.str [97], .str [97, 98]]) = some true := by
        have := ne_ok (d := pD ([97], [97, 98])) (.inr ⟨_, rfl, okS_of (by decide), okS_of (by decide)⟩)
        unfold neB at this
        cases e : eqB (pD ([97], [97, 98])) (pD ([97], [97, 98])) with
        | none => rw [e] at this; cases this
        | some b =>
          rw [e] at this
          cases b with
          | true => exact e
          | false => cases this
      refine ⟨_, _, _, rfl, rfl, he, ?_⟩
      walk_at "all"
      rfl
  obtain ⟨r, outs, e, rfl⟩ := wpF_out key
  exact ⟨outs, e⟩
end Lx
set_option Elab.async false
set_option linter.all false
set_option maxRecDepth 100000
set_option maxHeartbeats 4000000
namespace Lx
open PySem L2 Ly
theorem all_mk {l : PySem.W.OpenLaw} {w : World} {K : PySem.W.Frag} {h : Heap} {mg : Str → Option Value} {fa C0 C3 f0 f1 f2 f3 f4 f5 f6 f7 f8 f9 f10 f11 f12 f13 f14 f15 f16 f17 f18 f19 f20 f21 f22 f23 f24 : Addr} (X : K.In h) (G : h.Ns mainGlobals mg) (hfa : mg "law" = some (.ref fa))
    {od0 od1 od2 od3 od4 od5 od6 od7 od8 od9 od10 od11 od12 od13 od14 od15 od16 od17 od18 od19 od20 od21 od22 od23 od24 an0 an1 an2 an3 an4 an5 an6 an7 an8 an9 an10 an11 an12 an13 an14 an15 an16 an17 an18 an19 an20 an21 an22 an23 an24 : Option Addr} {sl0 sl1 sl2 sl3 sl4 sl5 sl6 sl7 sl8 sl9 sl10 sl11 sl12 sl13 sl14 sl15 sl16 sl17 sl18 sl19 sl20 sl21 sl22 sl23 sl24 : Array (Option Value)} {oc0 oc1 oc2 oc3 oc4 oc5 oc6 oc7 oc8 oc9 oc10 oc11 oc12 oc13 oc14 oc15 oc16 oc17 oc18 oc19 oc20 oc21 oc22 oc23 oc24 kV0 kV1 kV2 kV3 kV4 kV5 kV6 kV7 kV8 kV9 kV10 kV11 kV12 kV13 kV14 kV15 kV16 kV17 kV18 kV19 kV20 kV21 kV22 kV23 kV24 dc0 dc1 dc2 dc3 dc4 dc5 dc6 dc7 dc8 dc9 dc10 dc11 dc12 dc13 dc14 dc15 dc16 dc17 dc18 dc19 dc20 dc21 dc22 dc23 dc24 pm0 pm1 pm2 pm3 pm4 pm5 pm6 pm7 pm8 pm9 pm10 pm11 pm12 pm13 pm14 pm15 pm16 pm17 pm18 pm19 pm20 pm21 pm22 pm23 pm24 cd0 cd1 cd2 cd3 cd4 cd5 cd6 cd7 cd8 cd9 cd10 cd11 cd12 cd13 cd14 cd15 cd16 cd17 cd18 cd19 cd20 cd21 cd22 cd23 cd24 ct0 ct1 ct2 ct3 ct4 ct5 ct6 ct7 ct8 ct9 ct10 ct11 ct12 ct13 ct14 ct15 ct16 ct17 ct18 ct19 ct20 ct21 ct22 ct23 ct24 : Value} {tk_LETTERS : Tok} {tk_MOST_ARROWS : Tok} {tk_MOST_POINTS : Tok}
    (aC_Web : PySem.W.nsIn K mainGlobals "Web" = some (some (.ref C0)))
    (aC_NoTexts : PySem.W.nsIn K mainGlobals "NoTexts" = some (some (.ref C3)))
    (a0 : PySem.W.nsIn K mainGlobals "is_integer" = some (some (.ref f0)))
    (l0 : K.lookup f0 = some ⟨oc0, od0, .func (PySem.W.fnOf "is_integer" "is_integer" (defArgs (top 6)) (defBody (top 6)) (defScope (top 6)) .none kV0 dc0 pm0 an0 cd0 ct0), sl0⟩)
    (c0 : PySem.W.codeIn K cd0 "is_integer" = true)
    (k0 : PySem.W.keepIn K (.ref f0) = true)
    (a1 : PySem.W.nsIn K mainGlobals "is_within" = some (some (.ref f1)))
    (l1 : K.lookup f1 = some ⟨oc1, od1, .func (PySem.W.fnOf "is_within" "is_within" (defArgs (top 7)) (defBody (top 7)) (defScope (top 7)) .none kV1 dc1 pm1 an1 cd1 ct1), sl1⟩)
    (c1 : PySem.W.codeIn K cd1 "is_within" = true)
    (k1 : PySem.W.keepIn K (.ref f1) = true)
    (a2 : PySem.W.nsIn K mainGlobals "is_listed" = some (some (.ref f2)))
    (l2 : K.lookup f2 = some ⟨oc2, od2, .func (PySem.W.fnOf "is_listed" "is_listed" (defArgs (top 8)) (defBody (top 8)) (defScope (top 8)) .none kV2 dc2 pm2 an2 cd2 ct2), sl2⟩)
    (c2 : PySem.W.codeIn K cd2 "is_listed" = true)
    (k2 : PySem.W.keepIn K (.ref f2) = true)
    (a3 : PySem.W.nsIn K mainGlobals "is_letter" = some (some (.ref f3)))
    (l3 : K.lookup f3 = some ⟨oc3, od3, .func (PySem.W.fnOf "is_letter" "is_letter" (defArgs (top 9)) (defBody (top 9)) (defScope (top 9)) .none kV3 dc3 pm3 an3 cd3 ct3), sl3⟩)
    (c3 : PySem.W.codeIn K cd3 "is_letter" = true)
    (k3 : PySem.W.keepIn K (.ref f3) = true)
    (a4 : PySem.W.nsIn K mainGlobals "is_text" = some (some (.ref f4)))
    (l4 : K.lookup f4 = some ⟨oc4, od4, .func (PySem.W.fnOf "is_text" "is_text" (defArgs (top 10)) (defBody (top 10)) (defScope (top 10)) .none kV4 dc4 pm4 an4 cd4 ct4), sl4⟩)
    (c4 : PySem.W.codeIn K cd4 "is_text" = true)
    (k4 : PySem.W.keepIn K (.ref f4) = true)
    (a5 : PySem.W.nsIn K mainGlobals "are_ascending" = some (some (.ref f5)))
    (l5 : K.lookup f5 = some ⟨oc5, od5, .func (PySem.W.fnOf "are_ascending" "are_ascending" (defArgs (top 11)) (defBody (top 11)) (defScope (top 11)) .none kV5 dc5 pm5 an5 cd5 ct5), sl5⟩)
    (c5 : PySem.W.codeIn K cd5 "are_ascending" = true)
    (k5 : PySem.W.keepIn K (.ref f5) = true)
    (a6 : PySem.W.nsIn K mainGlobals "is_arrow" = some (some (.ref f6)))
    (l6 : K.lookup f6 = some ⟨oc6, od6, .func (PySem.W.fnOf "is_arrow" "is_arrow" (defArgs (top 15)) (defBody (top 15)) (defScope (top 15)) .none kV6 dc6 pm6 an6 cd6 ct6), sl6⟩)
    (c6 : PySem.W.codeIn K cd6 "is_arrow" = true)
    (k6 : PySem.W.keepIn K (.ref f6) = true)
    (a7 : PySem.W.nsIn K mainGlobals "are_arrows" = some (some (.ref f7)))
    (l7 : K.lookup f7 = some ⟨oc7, od7, .func (PySem.W.fnOf "are_arrows" "are_arrows" (defArgs (top 16)) (defBody (top 16)) (defScope (top 16)) .none kV7 dc7 pm7 an7 cd7 ct7), sl7⟩)
    (c7 : PySem.W.codeIn K cd7 "are_arrows" = true)
    (k7 : PySem.W.keepIn K (.ref f7) = true)
    (a8 : PySem.W.nsIn K mainGlobals "reached" = some (some (.ref f8)))
    (l8 : K.lookup f8 = some ⟨oc8, od8, .func (PySem.W.fnOf "reached" "reached" (defArgs (top 17)) (defBody (top 17)) (defScope (top 17)) .none kV8 dc8 pm8 an8 cd8 ct8), sl8⟩)
    (c8 : PySem.W.codeIn K cd8 "reached" = true)
    (k8 : PySem.W.keepIn K (.ref f8) = true)
    (a9 : PySem.W.nsIn K mainGlobals "hangs" = some (some (.ref f9)))
    (l9 : K.lookup f9 = some ⟨oc9, od9, .func (PySem.W.fnOf "hangs" "hangs" (defArgs (top 18)) (defBody (top 18)) (defScope (top 18)) .none kV9 dc9 pm9 an9 cd9 ct9), sl9⟩)
    (c9 : PySem.W.codeIn K cd9 "hangs" = true)
    (k9 : PySem.W.keepIn K (.ref f9) = true)
    (a10 : PySem.W.findIn K (.ref C0) "keep" = some (some (.ref f10)))
    (i10 : PySem.W.isFn K (.ref f10) = true)
    (l10 : K.lookup f10 = some ⟨oc10, od10, .func (PySem.W.fnOf "keep" "Web.keep" (defArgs (inClass (top 19) 1)) (defBody (inClass (top 19) 1)) (defScope (inClass (top 19) 1)) .none kV10 dc10 pm10 an10 cd10 ct10), sl10⟩)
    (c10 : PySem.W.codeIn K cd10 "Web.keep" = true)
    (k10 : PySem.W.keepIn K (.ref f10) = true)
    (a11 : PySem.W.findIn K (.ref C0) "__init__" = some (some (.ref f11)))
    (i11 : PySem.W.isFn K (.ref f11) = true)
    (l11 : K.lookup f11 = some ⟨oc11, od11, .func (PySem.W.fnOf "__init__" "Web.__init__" (defArgs (inClass (top 19) 0)) (defBody (inClass (top 19) 0)) (defScope (inClass (top 19) 0)) .none kV11 dc11 pm11 an11 cd11 ct11), sl11⟩)
    (c11 : PySem.W.codeIn K cd11 "Web.__init__" = true)
    (k11 : PySem.W.keepIn K (.ref f11) = true)
    (a12 : PySem.W.nsIn K mainGlobals "clash_of" = some (some (.ref f12)))
    (l12 : K.lookup f12 = some ⟨oc12, od12, .func (PySem.W.fnOf "clash_of" "clash_of" (defArgs (top 21)) (defBody (top 21)) (defScope (top 21)) .none kV12 dc12 pm12 an12 cd12 ct12), sl12⟩)
    (c12 : PySem.W.codeIn K cd12 "clash_of" = true)
    (k12 : PySem.W.keepIn K (.ref f12) = true)
    (a13 : PySem.W.nsIn K mainGlobals "clash" = some (some (.ref f13)))
    (l13 : K.lookup f13 = some ⟨oc13, od13, .func (PySem.W.fnOf "clash" "clash" (defArgs (top 22)) (defBody (top 22)) (defScope (top 22)) .none kV13 dc13 pm13 an13 cd13 ct13), sl13⟩)
    (c13 : PySem.W.codeIn K cd13 "clash" = true)
    (k13 : PySem.W.keepIn K (.ref f13) = true)
    (a14 : PySem.W.nsIn K mainGlobals "_law_hand" = some (some (.ref f14)))
    (l14 : K.lookup f14 = some ⟨oc14, od14, .func (PySem.W.fnOf "_law_hand" "_law_hand" (defArgs (top 24)) (defBody (top 24)) (defScope (top 24)) .none kV14 dc14 pm14 an14 cd14 ct14), sl14⟩)
    (c14 : PySem.W.codeIn K cd14 "_law_hand" = true)
    (k14 : PySem.W.keepIn K (.ref f14) = true)
    (a15 : PySem.W.nsIn K mainGlobals "_law_draw" = some (some (.ref f15)))
    (l15 : K.lookup f15 = some ⟨oc15, od15, .func (PySem.W.fnOf "_law_draw" "_law_draw" (defArgs (top 25)) (defBody (top 25)) (defScope (top 25)) .none kV15 dc15 pm15 an15 cd15 ct15), sl15⟩)
    (c15 : PySem.W.codeIn K cd15 "_law_draw" = true)
    (k15 : PySem.W.keepIn K (.ref f15) = true)
    (a16 : PySem.W.nsIn K mainGlobals "_law_is" = some (some (.ref f16)))
    (l16 : K.lookup f16 = some ⟨oc16, od16, .func (PySem.W.fnOf "_law_is" "_law_is" (defArgs (top 26)) (defBody (top 26)) (defScope (top 26)) .none kV16 dc16 pm16 an16 cd16 ct16), sl16⟩)
    (c16 : PySem.W.codeIn K cd16 "_law_is" = true)
    (k16 : PySem.W.keepIn K (.ref f16) = true)
    (a17 : PySem.W.nsIn K mainGlobals "_law_some" = some (some (.ref f17)))
    (l17 : K.lookup f17 = some ⟨oc17, od17, .func (PySem.W.fnOf "_law_some" "_law_some" (defArgs (top 27)) (defBody (top 27)) (defScope (top 27)) .none kV17 dc17 pm17 an17 cd17 ct17), sl17⟩)
    (c17 : PySem.W.codeIn K cd17 "_law_some" = true)
    (k17 : PySem.W.keepIn K (.ref f17) = true)
    (a18 : PySem.W.nsIn K mainGlobals "_law_shuffled" = some (some (.ref f18)))
    (l18 : K.lookup f18 = some ⟨oc18, od18, .func (PySem.W.fnOf "_law_shuffled" "_law_shuffled" (defArgs (top 28)) (defBody (top 28)) (defScope (top 28)) .none kV18 dc18 pm18 an18 cd18 ct18), sl18⟩)
    (c18 : PySem.W.codeIn K cd18 "_law_shuffled" = true)
    (k18 : PySem.W.keepIn K (.ref f18) = true)
    (a19 : PySem.W.nsIn K mainGlobals "_law_clashing" = some (some (.ref f19)))
    (l19 : K.lookup f19 = some ⟨oc19, od19, .func (PySem.W.fnOf "_law_clashing" "_law_clashing" (defArgs (top 29)) (defBody (top 29)) (defScope (top 29)) .none kV19 dc19 pm19 an19 cd19 ct19), sl19⟩)
    (c19 : PySem.W.codeIn K cd19 "_law_clashing" = true)
    (k19 : PySem.W.keepIn K (.ref f19) = true)
    (a20 : PySem.W.nsIn K mainGlobals "_law_deep" = some (some (.ref f20)))
    (l20 : K.lookup f20 = some ⟨oc20, od20, .func (PySem.W.fnOf "_law_deep" "_law_deep" (defArgs (top 30)) (defBody (top 30)) (defScope (top 30)) .none kV20 dc20 pm20 an20 cd20 ct20), sl20⟩)
    (c20 : PySem.W.codeIn K cd20 "_law_deep" = true)
    (k20 : PySem.W.keepIn K (.ref f20) = true)
    (a21 : PySem.W.nsIn K mainGlobals "_law_least_clash" = some (some (.ref f21)))
    (l21 : K.lookup f21 = some ⟨oc21, od21, .func (PySem.W.fnOf "_law_least_clash" "_law_least_clash" (defArgs (top 31)) (defBody (top 31)) (defScope (top 31)) .none kV21 dc21 pm21 an21 cd21 ct21), sl21⟩)
    (c21 : PySem.W.codeIn K cd21 "_law_least_clash" = true)
    (k21 : PySem.W.keepIn K (.ref f21) = true)
    (a22 : PySem.W.nsIn K mainGlobals "_law_told" = some (some (.ref f22)))
    (l22 : K.lookup f22 = some ⟨oc22, od22, .func (PySem.W.fnOf "_law_told" "_law_told" (defArgs (top 32)) (defBody (top 32)) (defScope (top 32)) .none kV22 dc22 pm22 an22 cd22 ct22), sl22⟩)
    (c22 : PySem.W.codeIn K cd22 "_law_told" = true)
    (k22 : PySem.W.keepIn K (.ref f22) = true)
    (a23 : PySem.W.nsIn K mainGlobals "_law_texts" = some (some (.ref f23)))
    (l23 : K.lookup f23 = some ⟨oc23, od23, .func (PySem.W.fnOf "_law_texts" "_law_texts" (defArgs (top 33)) (defBody (top 33)) (defScope (top 33)) .none kV23 dc23 pm23 an23 cd23 ct23), sl23⟩)
    (c23 : PySem.W.codeIn K cd23 "_law_texts" = true)
    (k23 : PySem.W.keepIn K (.ref f23) = true)
    (a24 : PySem.W.nsIn K mainGlobals "law" = some (some (.ref f24)))
    (l24 : K.lookup f24 = some ⟨oc24, od24, .func (PySem.W.fnOf "law" "law" (defArgs (top 34)) (defBody (top 34)) (defScope (top 34)) .none kV24 dc24 pm24 an24 cd24 ct24), sl24⟩)
    (c24 : PySem.W.codeIn K cd24 "law" = true)
    (k24 : PySem.W.keepIn K (.ref f24) = true)
    (pg0 : PySem.W.plainGet K C0 Str.empty = true)
    (hd0 : PySem.W.hasDictIn K C0 = true)
    (po0 : PySem.W.plainOver K C0 = true)
    (sa0 : PySem.W.findIn K (.ref C0) "__setattr__" = some (some (.builtin "object.__setattr__")))
    (mk0 : PySem.W.makesIn K C0 = true)
    (kc0 : PySem.W.keepIn K (.ref C0) = true)
    (oa0 : PySem.W.findIn K (.ref C0) "__class__" = some (some (.builtin "object.__class__")))
    (om0 : PySem.W.mroIn K C0 (.type "object") = some true)
    (on0_0 : PySem.W.mroIn K C0 (.type "int") = some false)
    (on0_1 : PySem.W.mroIn K C0 (.type "bool") = some false)
    (on0_2 : PySem.W.mroIn K C0 (.type "str") = some false)
    (on0_3 : PySem.W.mroIn K C0 (.type "tuple") = some false)
    (on0_4 : PySem.W.mroIn K C0 (.type "list") = some false)
    (on0_5 : PySem.W.mroIn K C0 (.type "dict") = some false)
    (ke3 : PySem.W.keepIn K (.ref C3) = true)
    (se3 : PySem.W.subIn K (.ref C3) (.type "BaseException") = some true)
    (te3 : PySem.W.typeIn K (.ref C3) = some (.type "type"))
    (ic3 : PySem.W.isClsIn K C3 = true)
    (ss3 : PySem.W.subIn K (.ref C3) (.ref C3) = some true)
    (xi3 : PySem.W.excIn K C3 [.type "ValueError", .type "Exception", .type "BaseException", .type "object"] "ValueError.__new__" = true)
    (on : PySem.W.specialIn K (.builtin "object.__class__") "__get__" = some (some (.builtin "getset_descriptor.__get__")))
    (ot : PySem.W.takesIn K (.builtin "object.__class__") = some true)
    (na_Web_arrows : PySem.W.findIn K (.ref C0) "arrows" = some none)
    (na_Web_kept_letters : PySem.W.findIn K (.ref C0) "kept_letters" = some none)
    (na_Web_kept_steps : PySem.W.findIn K (.ref C0) "kept_steps" = some none)
    (na_Web_points : PySem.W.findIn K (.ref C0) "points" = some none)
    (z_abs : PySem.W.nsIn K mainGlobals "abs" = some none)
    (z_all : PySem.W.nsIn K mainGlobals "all" = some none)
    (z_bool : PySem.W.nsIn K mainGlobals "bool" = some none)
    (z_int : PySem.W.nsIn K mainGlobals "int" = some none)
    (z_isinstance : PySem.W.nsIn K mainGlobals "isinstance" = some none)
    (z_len : PySem.W.nsIn K mainGlobals "len" = some none)
    (z_list : PySem.W.nsIn K mainGlobals "list" = some none)
    (z_min : PySem.W.nsIn K mainGlobals "min" = some none)
    (z_range : PySem.W.nsIn K mainGlobals "range" = some none)
    (z_sorted : PySem.W.nsIn K mainGlobals "sorted" = some none)
    (z_str : PySem.W.nsIn K mainGlobals "str" = some none)
    (z_tuple : PySem.W.nsIn K mainGlobals "tuple" = some none)
    (z_zip : PySem.W.nsIn K mainGlobals "zip" = some none)
    (v_LETTERS : PySem.W.nsIn K mainGlobals "LETTERS" = some (some (.str "abcdefghijklmnopqrstuvwxyz" tk_LETTERS)))
    (v_MOST_ARROWS : PySem.W.nsIn K mainGlobals "MOST_ARROWS" = some (some (.int 60 tk_MOST_ARROWS)))
    (v_MOST_POINTS : PySem.W.nsIn K mainGlobals "MOST_POINTS" = some (some (.int 12 tk_MOST_POINTS)))
    (hY : Ly.Yes F_law) : ∃ fd : FuncData, (∀ (s : Shared) (v : Value), BindsTo s fd ⟨[v], []⟩ [("_law_script", v)]) ∧ ∀ base : Heap, K.In base → base.Ns mainGlobals mg → FnOk l.prog w K mg base (L2.CX l.prog w) 8 fa fd ["_law_script"] (Ly.spLaw K) := by
  have e := hfa.symm.trans (PySem.W.mg_of X G a24)
  have e2 : f24 = fa := by cases e; rfl
  subst e2
  have F0 := fun_mk (st := (top 6)) l0 c0 k0
  have b0 := F0.binds (ps := ["thing"]) fun _ _ _ _ _ _ us hl => match us, hl with | [_], _ => rfl
  have F1 := fun_mk (st := (top 7)) l1 c1 k1
  have b1 := F1.binds (ps := ["thing", "least", "most"]) fun _ _ _ _ _ _ us hl => match us, hl with | [_, _, _], _ => rfl
  have F2 := fun_mk (st := (top 8)) l2 c2 k2
  have b2 := F2.binds (ps := ["thing"]) fun _ _ _ _ _ _ us hl => match us, hl with | [_], _ => rfl
  have F3 := fun_mk (st := (top 9)) l3 c3 k3
  have b3 := F3.binds (ps := ["thing"]) fun _ _ _ _ _ _ us hl => match us, hl with | [_], _ => rfl
  have F4 := fun_mk (st := (top 10)) l4 c4 k4
  have b4 := F4.binds (ps := ["thing"]) fun _ _ _ _ _ _ us hl => match us, hl with | [_], _ => rfl
  have F5 := fun_mk (st := (top 11)) l5 c5 k5
  have b5 := F5.binds (ps := ["things"]) fun _ _ _ _ _ _ us hl => match us, hl with | [_], _ => rfl
  have F6 := fun_mk (st := (top 15)) l6 c6 k6
  have b6 := F6.binds (ps := ["thing", "points"]) fun _ _ _ _ _ _ us hl => match us, hl with | [_, _], _ => rfl
  have F7 := fun_mk (st := (top 16)) l7 c7 k7
  have b7 := F7.binds (ps := ["thing", "points"]) fun _ _ _ _ _ _ us hl => match us, hl with | [_, _], _ => rfl
  have F8 := fun_mk (st := (top 17)) l8 c8 k8
  have b8 := F8.binds (ps := ["pairs", "start"]) fun _ _ _ _ _ _ us hl => match us, hl with | [_, _], _ => rfl
  have F9 := fun_mk (st := (top 18)) l9 c9 k9
  have b9 := F9.binds (ps := ["points", "arrows"]) fun _ _ _ _ _ _ us hl => match us, hl with | [_, _], _ => rfl
  have F10 := fun_mk (st := (inClass (top 19) 1)) l10 c10 k10
  have b10 := F10.binds (ps := ["self", "points", "arrows"]) fun _ _ _ _ _ _ us hl => match us, hl with | [_, _, _], _ => rfl
  have F11 := fun_mk (st := (inClass (top 19) 0)) l11 c11 k11
  have b11 := F11.binds (ps := ["self", "points", "arrows"]) fun _ _ _ _ _ _ us hl => match us, hl with | [_, _, _], _ => rfl
  have F12 := fun_mk (st := (top 21)) l12 c12 k12
  have b12 := F12.binds (ps := ["texts"]) fun _ _ _ _ _ _ us hl => match us, hl with | [_], _ => rfl
  have F13 := fun_mk (st := (top 22)) l13 c13 k13
  have b13 := F13.binds (ps := ["texts"]) fun _ _ _ _ _ _ us hl => match us, hl with | [_], _ => rfl
  have F14 := fun_mk (st := (top 24)) l14 c14 k14
  have b14 := F14.binds (ps := ["_law_script"]) fun _ _ _ _ _ _ us hl => match us, hl with | [_], _ => rfl
  have F15 := fun_mk (st := (top 25)) l15 c15 k15
  have b15 := F15.binds (ps := ["_law_hand_here", "_law_many"]) fun _ _ _ _ _ _ us hl => match us, hl with | [_, _], _ => rfl
  have F16 := fun_mk (st := (top 26)) l16 c16 k16
  have b16 := F16.binds (ps := ["_law_told_here", "_law_due"]) fun _ _ _ _ _ _ us hl => match us, hl with | [_, _], _ => rfl
  have F17 := fun_mk (st := (top 27)) l17 c17 k17
  have b17 := F17.binds (ps := ["_law_hand_here", "_law_things"]) fun _ _ _ _ _ _ us hl => match us, hl with | [_, _], _ => rfl
  have F18 := fun_mk (st := (top 28)) l18 c18 k18
  have b18 := F18.binds (ps := ["_law_hand_here", "_law_things"]) fun _ _ _ _ _ _ us hl => match us, hl with | [_, _], _ => rfl
  have F19 := fun_mk (st := (top 29)) l19 c19 k19
  have b19 := F19.binds (ps := ["_law_one", "_law_other"]) fun _ _ _ _ _ _ us hl => match us, hl with | [_, _], _ => rfl
  have F20 := fun_mk (st := (top 30)) l20 c20 k20
  have b20 := F20.binds (ps := ["_law_kind"]) fun _ _ _ _ _ _ us hl => match us, hl with | [_], _ => rfl
  have F21 := fun_mk (st := (top 31)) l21 c21 k21
  have b21 := F21.binds (ps := ["_law_texts_here"]) fun _ _ _ _ _ _ us hl => match us, hl with | [_], _ => rfl
  have F22 := fun_mk (st := (top 32)) l22 c22 k22
  have b22 := F22.binds (ps := ["_law_thing"]) fun _ _ _ _ _ _ us hl => match us, hl with | [_], _ => rfl
  have F23 := fun_mk (st := (top 33)) l23 c23 k23
  have b23 := F23.binds (ps := ["_law_hand_here"]) fun _ _ _ _ _ _ us hl => match us, hl with | [_], _ => rfl
  have F24 := fun_mk (st := (top 34)) l24 c24 k24
  have b24 := F24.binds (ps := ["_law_script"]) fun _ _ _ _ _ _ us hl => match us, hl with | [_], _ => rfl
  let c : Cc := ⟨K, fun i => match i with | 0 => C0 | 3 => C3 | _ => f24, fun i => match i with | 0 => ["points", "arrows", "kept_letters", "kept_steps"] | _ => []⟩
  let ff : Nat → Addr := fun i => match i with | 0 => f0 | 1 => f1 | 2 => f2 | 3 => f3 | 4 => f4 | 5 => f5 | 6 => f6 | 7 => f7 | 8 => f8 | 9 => f9 | 10 => f10 | 11 => f11 | 12 => f12 | 13 => f13 | 14 => f14 | 15 => f15 | 16 => f16 | 17 => f17 | 18 => f17 | 19 => f18 | 20 => f19 | 21 => f20 | 22 => f21 | 23 => f22 | 24 => f23 | _ => f24
  let gg : Nat → FuncData := fun i => match i with | 0 => PySem.W.fnOf "is_integer" "is_integer" (defArgs (top 6)) (defBody (top 6)) (defScope (top 6)) .none kV0 dc0 pm0 an0 cd0 ct0 | 1 => PySem.W.fnOf "is_within" "is_within" (defArgs (top 7)) (defBody (top 7)) (defScope (top 7)) .none kV1 dc1 pm1 an1 cd1 ct1 | 2 => PySem.W.fnOf "is_listed" "is_listed" (defArgs (top 8)) (defBody (top 8)) (defScope (top 8)) .none kV2 dc2 pm2 an2 cd2 ct2 | 3 => PySem.W.fnOf "is_letter" "is_letter" (defArgs (top 9)) (defBody (top 9)) (defScope (top 9)) .none kV3 dc3 pm3 an3 cd3 ct3 | 4 => PySem.W.fnOf "is_text" "is_text" (defArgs (top 10)) (defBody (top 10)) (defScope (top 10)) .none kV4 dc4 pm4 an4 cd4 ct4 | 5 => PySem.W.fnOf "are_ascending" "are_ascending" (defArgs (top 11)) (defBody (top 11)) (defScope (top 11)) .none kV5 dc5 pm5 an5 cd5 ct5 | 6 => PySem.W.fnOf "is_arrow" "is_arrow" (defArgs (top 15)) (defBody (top 15)) (defScope (top 15)) .none kV6 dc6 pm6 an6 cd6 ct6 | 7 => PySem.W.fnOf "are_arrows" "are_arrows" (defArgs (top 16)) (defBody (top 16)) (defScope (top 16)) .none kV7 dc7 pm7 an7 cd7 ct7 | 8 => PySem.W.fnOf "reached" "reached" (defArgs (top 17)) (defBody (top 17)) (defScope (top 17)) .none kV8 dc8 pm8 an8 cd8 ct8 | 9 => PySem.W.fnOf "hangs" "hangs" (defArgs (top 18)) (defBody (top 18)) (defScope (top 18)) .none kV9 dc9 pm9 an9 cd9 ct9 | 10 => PySem.W.fnOf "keep" "Web.keep" (defArgs (inClass (top 19) 1)) (defBody (inClass (top 19) 1)) (defScope (inClass (top 19) 1)) .none kV10 dc10 pm10 an10 cd10 ct10 | 11 => PySem.W.fnOf "__init__" "Web.__init__" (defArgs (inClass (top 19) 0)) (defBody (inClass (top 19) 0)) (defScope (inClass (top 19) 0)) .none kV11 dc11 pm11 an11 cd11 ct11 | 12 => PySem.W.fnOf "clash_of" "clash_of" (defArgs (top 21)) (defBody (top 21)) (defScope (top 21)) .none kV12 dc12 pm12 an12 cd12 ct12 | 13 => PySem.W.fnOf "clash" "clash" (defArgs (top 22)) (defBody (top 22)) (defScope (top 22)) .none kV13 dc13 pm13 an13 cd13 ct13 | 14 => PySem.W.fnOf "_law_hand" "_law_hand" (defArgs (top 24)) (defBody (top 24)) (defScope (top 24)) .none kV14 dc14 pm14 an14 cd14 ct14 | 15 => PySem.W.fnOf "_law_draw" "_law_draw" (defArgs (top 25)) (defBody (top 25)) (defScope (top 25)) .none kV15 dc15 pm15 an15 cd15 ct15 | 16 => PySem.W.fnOf "_law_is" "_law_is" (defArgs (top 26)) (defBody (top 26)) (defScope (top 26)) .none kV16 dc16 pm16 an16 cd16 ct16 | 17 => PySem.W.fnOf "_law_some" "_law_some" (defArgs (top 27)) (defBody (top 27)) (defScope (top 27)) .none kV17 dc17 pm17 an17 cd17 ct17 | 18 => PySem.W.fnOf "_law_some" "_law_some" (defArgs (top 27)) (defBody (top 27)) (defScope (top 27)) .none kV17 dc17 pm17 an17 cd17 ct17 | 19 => PySem.W.fnOf "_law_shuffled" "_law_shuffled" (defArgs (top 28)) (defBody (top 28)) (defScope (top 28)) .none kV18 dc18 pm18 an18 cd18 ct18 | 20 => PySem.W.fnOf "_law_clashing" "_law_clashing" (defArgs (top 29)) (defBody (top 29)) (defScope (top 29)) .none kV19 dc19 pm19 an19 cd19 ct19 | 21 => PySem.W.fnOf "_law_deep" "_law_deep" (defArgs (top 30)) (defBody (top 30)) (defScope (top 30)) .none kV20 dc20 pm20 an20 cd20 ct20 | 22 => PySem.W.fnOf "_law_least_clash" "_law_least_clash" (defArgs (top 31)) (defBody (top 31)) (defScope (top 31)) .none kV21 dc21 pm21 an21 cd21 ct21 | 23 => PySem.W.fnOf "_law_told" "_law_told" (defArgs (top 32)) (defBody (top 32)) (defScope (top 32)) .none kV22 dc22 pm22 an22 cd22 ct22 | 24 => PySem.W.fnOf "_law_texts" "_law_texts" (defArgs (top 33)) (defBody (top 33)) (defScope (top 33)) .none kV23 dc23 pm23 an23 cd23 ct23 | _ => PySem.W.fnOf "law" "law" (defArgs (top 34)) (defBody (top 34)) (defScope (top 34)) .none kV24 dc24 pm24 an24 cd24 ct24
  have T : Txt c K mg ff gg := {
    hK := rfl,
    n_abs := PySem.W.mg_none_of X G z_abs,
    n_all := PySem.W.mg_none_of X G z_all,
    n_bool := PySem.W.mg_none_of X G z_bool,
    n_int := PySem.W.mg_none_of X G z_int,
    n_isinstance := PySem.W.mg_none_of X G z_isinstance,
    n_len := PySem.W.mg_none_of X G z_len,
    n_list := PySem.W.mg_none_of X G z_list,
    n_min := PySem.W.mg_none_of X G z_min,
    n_range := PySem.W.mg_none_of X G z_range,
    n_sorted := PySem.W.mg_none_of X G z_sorted,
    n_str := PySem.W.mg_none_of X G z_str,
    n_tuple := PySem.W.mg_none_of X G z_tuple,
    n_zip := PySem.W.mg_none_of X G z_zip,
    ob := fun X hX => by subst hX; exact ⟨fun k hk => match k, hk with | 0, _ => ⟨⟨pg0, hd0, po0, sa0⟩, oa0, on, ot, om0⟩ | k + 1, hk => absurd hk (by unfold nc; omega), fun k hk => match k, hk with | 0, _ => (fun T hT => by simp only [List.mem_cons, List.not_mem_nil, or_false] at hT; rcases hT with h | h | h | h | h | h; (subst h; exact on0_0); (subst h; exact on0_1); (subst h; exact on0_2); (subst h; exact on0_3); (subst h; exact on0_4); (subst h; exact on0_5)) | k + 1, hk => absurd hk (by unfold nc; omega)⟩,
    v_LETTERS := ⟨_, PySem.W.mg_of X G v_LETTERS, ⟨_, rfl⟩⟩,
    v_MOST_ARROWS := ⟨_, PySem.W.mg_of X G v_MOST_ARROWS, ⟨_, rfl⟩⟩,
    v_MOST_POINTS := ⟨_, PySem.W.mg_of X G v_MOST_POINTS, ⟨_, rfl⟩⟩,
    e_NoTexts := ⟨xi3, PySem.W.mg_of X G aC_NoTexts, ke3, se3, te3⟩,
    x_NoTexts := Ly.exm_own se3 ic3 te3 ss3,
    g_is_integer := PySem.W.mg_of X G a0,
    k_is_integer := k0,
    f_is_integer := F0,
    b_is_integer := b0,
    g_is_within := PySem.W.mg_of X G a1,
    k_is_within := k1,
    f_is_within := F1,
    b_is_within := b1,
    g_is_listed := PySem.W.mg_of X G a2,
    k_is_listed := k2,
    f_is_listed := F2,
    b_is_listed := b2,
    g_is_letter := PySem.W.mg_of X G a3,
    k_is_letter := k3,
    f_is_letter := F3,
    b_is_letter := b3,
    g_is_text := PySem.W.mg_of X G a4,
    k_is_text := k4,
    f_is_text := F4,
    b_is_text := b4,
    g_are_ascending := PySem.W.mg_of X G a5,
    k_are_ascending := k5,
    f_are_ascending := F5,
    b_are_ascending := b5,
    g_is_arrow := PySem.W.mg_of X G a6,
    k_is_arrow := k6,
    f_is_arrow := F6,
    b_is_arrow := b6,
    g_are_arrows := PySem.W.mg_of X G a7,
    k_are_arrows := k7,
    f_are_arrows := F7,
    b_are_arrows := b7,
    g_reached := PySem.W.mg_of X G a8,
    k_reached := k8,
    f_reached := F8,
    b_reached := b8,
    g_hangs := PySem.W.mg_of X G a9,
    k_hangs := k9,
    f_hangs := F9,
    b_hangs := b9,
    k_Web_keep := k10,
    f_Web_keep := F10,
    b_Web_keep := b10,
    k_Web___init__ := k11,
    f_Web___init__ := F11,
    b_Web___init__ := b11,
    g_clash_of := PySem.W.mg_of X G a12,
    k_clash_of := k12,
    f_clash_of := F12,
    b_clash_of := b12,
    g_clash := PySem.W.mg_of X G a13,
    k_clash := k13,
    f_clash := F13,
    b_clash := b13,
    g__law_hand := PySem.W.mg_of X G a14,
    k__law_hand := k14,
    f__law_hand := F14,
    b__law_hand := b14,
    g__law_draw := PySem.W.mg_of X G a15,
    k__law_draw := k15,
    f__law_draw := F15,
    b__law_draw := b15,
    g__law_is := PySem.W.mg_of X G a16,
    k__law_is := k16,
    f__law_is := F16,
    b__law_is := b16,
    g__law_some := PySem.W.mg_of X G a17,
    k__law_some := k17,
    f__law_some := F17,
    b__law_some := b17,
    g__law_some_b := PySem.W.mg_of X G a17,
    k__law_some_b := k17,
    f__law_some_b := F17,
    b__law_some_b := b17,
    g__law_shuffled := PySem.W.mg_of X G a18,
    k__law_shuffled := k18,
    f__law_shuffled := F18,
    b__law_shuffled := b18,
    g__law_clashing := PySem.W.mg_of X G a19,
    k__law_clashing := k19,
    f__law_clashing := F19,
    b__law_clashing := b19,
    g__law_deep := PySem.W.mg_of X G a20,
    k__law_deep := k20,
    f__law_deep := F20,
    b__law_deep := b20,
    g__law_least_clash := PySem.W.mg_of X G a21,
    k__law_least_clash := k21,
    f__law_least_clash := F21,
    b__law_least_clash := b21,
    g__law_told := PySem.W.mg_of X G a22,
    k__law_told := k22,
    f__law_told := F22,
    b__law_told := b22,
    g__law_texts := PySem.W.mg_of X G a23,
    k__law_texts := k23,
    f__law_texts := F23,
    b__law_texts := b23,
    g_law := PySem.W.mg_of X G a24,
    k_law := k24,
    f_law := F24,
    b_law := b24,
    m_Web := PySem.W.mg_of X G aC_Web,
    C_Web := ⟨pg0, hd0, po0, sa0⟩,
    nms_Web := rfl,
    mk_Web := ⟨mk0, a11, i11, kc0⟩,
    na_Web_arrows := na_Web_arrows,
    na_Web_kept_letters := na_Web_kept_letters,
    na_Web_kept_steps := na_Web_kept_steps,
    na_Web_points := na_Web_points,
    meth_Web_keep := ⟨a10, i10, k10⟩
    }
  exact ⟨_, fun s v => .of_eq rfl, fun base _ _ => (ok_law (P := l.prog) (w := w) (base := base) T).imp (Ly.law_sp (c := c) hY)⟩
end Lx
open PySem PySem.W PyProof.Rows
set_option maxHeartbeats 0
open_top hd for PySem.Challenge.rw_neverjoin_k22_whole_texts_that_clash
set_option maxRecDepth 100000 in
set_option maxHeartbeats 0 in
theorem PySem.Challenge.cw_neverjoin_k22_whole_texts_that_clash_holds : PySem.Challenge.rw_neverjoin_k22_whole_texts_that_clash.Holds := by
  refine hd ?_
  k_fill
  refine Ly.walk_end (l := PySem.Challenge.rw_neverjoin_k22_whole_texts_that_clash) (k := 8) rfl rfl ⟨rfl, by decide, by decide⟩ (fun w h Y => PySem.W.kIn_of Y) ?F
  case F =>
    intro w mg fa h KX G hmg
    refine' Lx.all_mk KX G hmg ?aC_Web ?aC_NoTexts ?a0 ?l0 ?c0 ?k0 ?a1 ?l1 ?c1 ?k1 ?a2 ?l2 ?c2 ?k2 ?a3 ?l3 ?c3 ?k3 ?a4 ?l4 ?c4 ?k4 ?a5 ?l5 ?c5 ?k5 ?a6 ?l6 ?c6 ?k6 ?a7 ?l7 ?c7 ?k7 ?a8 ?l8 ?c8 ?k8 ?a9 ?l9 ?c9 ?k9 ?a10 ?i10 ?l10 ?c10 ?k10 ?a11 ?i11 ?l11 ?c11 ?k11 ?a12 ?l12 ?c12 ?k12 ?a13 ?l13 ?c13 ?k13 ?a14 ?l14 ?c14 ?k14 ?a15 ?l15 ?c15 ?k15 ?a16 ?l16 ?c16 ?k16 ?a17 ?l17 ?c17 ?k17 ?a18 ?l18 ?c18 ?k18 ?a19 ?l19 ?c19 ?k19 ?a20 ?l20 ?c20 ?k20 ?a21 ?l21 ?c21 ?k21 ?a22 ?l22 ?c22 ?k22 ?a23 ?l23 ?c23 ?k23 ?a24 ?l24 ?c24 ?k24 ?pg0 ?hd0 ?po0 ?sa0 ?mk0 ?kc0 ?oa0 ?om0 ?on0_0 ?on0_1 ?on0_2 ?on0_3 ?on0_4 ?on0_5 ?ke3 ?se3 ?te3 ?ic3 ?ss3 ?xi3 ?on ?ot ?na_Web_arrows ?na_Web_kept_letters ?na_Web_kept_steps ?na_Web_points ?z_abs ?z_all ?z_bool ?z_int ?z_isinstance ?z_len ?z_list ?z_min ?z_range ?z_sorted ?z_str ?z_tuple ?z_zip ?v_LETTERS ?v_MOST_ARROWS ?v_MOST_POINTS Lx.law_ok
    (case aC_Web => k_is)
    (case aC_NoTexts => k_is)
    (case a0 => k_is)
    (case l0 => k_is)
    (case c0 => k_is)
    (case k0 => k_is)
    (case a1 => k_is)
    (case l1 => k_is)
    (case c1 => k_is)
    (case k1 => k_is)
    (case a2 => k_is)
    (case l2 => k_is)
    (case c2 => k_is)
    (case k2 => k_is)
    (case a3 => k_is)
    (case l3 => k_is)
    (case c3 => k_is)
    (case k3 => k_is)
    (case a4 => k_is)
    (case l4 => k_is)
    (case c4 => k_is)
    (case k4 => k_is)
    (case a5 => k_is)
    (case l5 => k_is)
    (case c5 => k_is)
    (case k5 => k_is)
    (case a6 => k_is)
    (case l6 => k_is)
    (case c6 => k_is)
    (case k6 => k_is)
    (case a7 => k_is)
    (case l7 => k_is)
    (case c7 => k_is)
    (case k7 => k_is)
    (case a8 => k_is)
    (case l8 => k_is)
    (case c8 => k_is)
    (case k8 => k_is)
    (case a9 => k_is)
    (case l9 => k_is)
    (case c9 => k_is)
    (case k9 => k_is)
    (case a10 => k_is)
    (case i10 => k_is)
    (case l10 => k_is)
    (case c10 => k_is)
    (case k10 => k_is)
    (case a11 => k_is)
    (case i11 => k_is)
    (case l11 => k_is)
    (case c11 => k_is)
    (case k11 => k_is)
    (case a12 => k_is)
    (case l12 => k_is)
    (case c12 => k_is)
    (case k12 => k_is)
    (case a13 => k_is)
    (case l13 => k_is)
    (case c13 => k_is)
    (case k13 => k_is)
    (case a14 => k_is)
    (case l14 => k_is)
    (case c14 => k_is)
    (case k14 => k_is)
    (case a15 => k_is)
    (case l15 => k_is)
    (case c15 => k_is)
    (case k15 => k_is)
    (case a16 => k_is)
    (case l16 => k_is)
    (case c16 => k_is)
    (case k16 => k_is)
    (case a17 => k_is)
    (case l17 => k_is)
    (case c17 => k_is)
    (case k17 => k_is)
    (case a18 => k_is)
    (case l18 => k_is)
    (case c18 => k_is)
    (case k18 => k_is)
    (case a19 => k_is)
    (case l19 => k_is)
    (case c19 => k_is)
    (case k19 => k_is)
    (case a20 => k_is)
    (case l20 => k_is)
    (case c20 => k_is)
    (case k20 => k_is)
    (case a21 => k_is)
    (case l21 => k_is)
    (case c21 => k_is)
    (case k21 => k_is)
    (case a22 => k_is)
    (case l22 => k_is)
    (case c22 => k_is)
    (case k22 => k_is)
    (case a23 => k_is)
    (case l23 => k_is)
    (case c23 => k_is)
    (case k23 => k_is)
    (case a24 => k_is)
    (case l24 => k_is)
    (case c24 => k_is)
    (case k24 => k_is)
    (case pg0 => k_is)
    (case hd0 => k_is)
    (case po0 => k_is)
    (case sa0 => k_is)
    (case mk0 => k_is)
    (case kc0 => k_is)
    (case oa0 => k_is)
    (case om0 => k_is)
    (case on0_0 => k_is)
    (case on0_1 => k_is)
    (case on0_2 => k_is)
    (case on0_3 => k_is)
    (case on0_4 => k_is)
    (case on0_5 => k_is)
    (case ke3 => k_is)
    (case se3 => k_is)
    (case te3 => k_is)
    (case ic3 => k_is)
    (case ss3 => first | rfl | k_is)
    (case xi3 => refine' Ly.excIn_of ?xl ?xr; (case xl => k_is); (case xr => first | rfl | kernel_rfl | decide +kernel))
    (case on => k_is)
    (case ot => k_is)
    (case na_Web_arrows => k_is)
    (case na_Web_kept_letters => k_is)
    (case na_Web_kept_steps => k_is)
    (case na_Web_points => k_is)
    (case z_abs => k_is)
    (case z_all => k_is)
    (case z_bool => k_is)
    (case z_int => k_is)
    (case z_isinstance => k_is)
    (case z_len => k_is)
    (case z_list => k_is)
    (case z_min => k_is)
    (case z_range => k_is)
    (case z_sorted => k_is)
    (case z_str => k_is)
    (case z_tuple => k_is)
    (case z_zip => k_is)
    (case v_LETTERS => k_is)
    (case v_MOST_ARROWS => k_is)
    (case v_MOST_POINTS => k_is)
